import PyProof.Rows.All
import Wide.All
import OpenK.AllK
import Wide.FinOn
import HandS.ForMost
import HandS.Flow
import HandS.TupAny
import HandS.Style
import HandS.Defaults
import HandS.HeadEnd
import HandS.IsInst
import HandS.Deep
import HandS.TupLe
import HandS.Zip
import HandS.Codes
import HandS.RaiseMore
import PyProof.Rows.StrCase
import PyProof.Rows.RegReprOcc
import KE.KStateDown
import Lean
import HandS.Base
import HandS.Call
import HandS.Ends
import HandS.More
import HandS.Words
import HandS.WordsExc
import HandS.Head0
import HandS.Head1
import HandS.Head2
import HandS.HeadHook1
import HandS.HeadHook2
import PySem.Challenge.RW_rankseals_k01_names
set_option Elab.async false
set_option linter.all false
set_option autoImplicit false
set_option maxRecDepth 100000
set_option maxHeartbeats 4000000
/-! PLa: data that stands frozen in the heap, data owned by a slot, the store (slots and temps) and how it may change. -/
namespace PL
open PySem PySem.Spec PyProof.Rows L2

abbrev D := PyData
def kD : Key → D
  | .inl i => .int i
  | .inr s => .str s
def tD (ks : List Key) : D := .tuple (ks.map kD)

def Ex (H H' : Hp) : Prop := ∀ a o, H a = some o → H' a = some o
theorem Ex.refl (H : Hp) : Ex H H := fun _ _ h => h
theorem Ex.trans {H H1 H2 : Hp} (a : Ex H H1) (b : Ex H1 H2) : Ex H H2 := fun x o h => b x o (a x o h)
theorem Ex.updN {H : Hp} {p : Addr} {o : HO} (h : H p = none) : Ex H (upd H p o) := fun a u q => by
  rw [upd_ne (ne_of_none q h)]; exact q
theorem Ex.updM {M H : Hp} {p : Addr} {o : HO} (e : Ex M H) (h : M p = none) : Ex M (upd H p o) := fun a u q => by
  rw [upd_ne (ne_of_none q h)]; exact e a u q
theorem Ex.none {M H : Hp} {p : Addr} (e : Ex M H) (h : H p = none) : M p = none := by
  cases q : M p with
  | none => rfl
  | some o => have := e p o q; rw [h] at this; cases this
theorem Ex.rd {H H' : Hp} {a : Addr} {u : HO} (e : Ex H H') : Rd H a u → Rd H' a u
  | .inl h => .inl (e _ _ h)
  | .inr ⟨o, h⟩ => .inr ⟨o, e _ _ h⟩
theorem Ex.l {K : PySem.W.Frag} {H H' : Hp} {a : Addr} {xs : List V} (e : Ex H H') : SqL K H a xs → SqL K H' a xs
  | .inl h => .inl (e.rd h)
  | .inr h => .inr h
theorem Ex.t {K : PySem.W.Frag} {H H' : Hp} {a : Addr} {xs : List V} (e : Ex H H') : SqT K H a xs → SqT K H' a xs
  | .inl h => .inl (e.rd h)
  | .inr h => .inr h

/-! ### frozen data -/
mutual
def Fz (K : PySem.W.Frag) (H : Hp) : D → V → Prop
  | .none, v => v = .non
  | .bool b, v => v = .bl b
  | .int i, v => v = .int i
  | .str s, v => v = .str s
  | .list ds, v => ∃ a vs, v = .ref a ∧ H a = some (.lst vs) ∧ FzL K H ds vs
  | .tuple ds, v => ∃ a vs, v = .ref a ∧ SqT K H a vs ∧ FzL K H ds vs
  | .dict kds, v => ∃ a, v = .ref a ∧ ((∃ kvs : List (Key × V), Rd H a (.dK kvs) ∧ kds.map Prod.fst = kvs.map (fun p => kD p.1) ∧ FzV K H kds (kvs.map Prod.snd)) ∨
      (∃ kvs : List (List Key × V), Rd H a (.dT kvs) ∧ kds.map Prod.fst = kvs.map (fun p => tD p.1) ∧ FzV K H kds (kvs.map Prod.snd)))
def FzL (K : PySem.W.Frag) (H : Hp) : List D → List V → Prop
  | [], vs => vs = []
  | d :: ds, vs => ∃ v r, vs = v :: r ∧ Fz K H d v ∧ FzL K H ds r
def FzV (K : PySem.W.Frag) (H : Hp) : List (D × D) → List V → Prop
  | [], vs => vs = []
  | (_, d) :: ds, vs => ∃ v r, vs = v :: r ∧ Fz K H d v ∧ FzV K H ds r
end
section
variable {K : PySem.W.Frag} {H H' : Hp}
theorem fzV_iff : ∀ (kds : List (D × D)) (vs : List V), FzV K H kds vs ↔ FzL K H (kds.map Prod.snd) vs
  | [], vs => by simp [FzV, FzL]
  | (k, d) :: r, vs => by
    simp only [FzV, List.map_cons, FzL]
    constructor
    · rintro ⟨v, q, e, h, t⟩; exact ⟨v, q, e, h, (fzV_iff r q).mp t⟩
    · rintro ⟨v, q, e, h, t⟩; exact ⟨v, q, e, h, (fzV_iff r q).mpr t⟩
mutual
theorem Fz.mono (e : Ex H H') : ∀ (d : D) (v : V), Fz K H d v → Fz K H' d v
  | .none, v, h => by simpa [Fz] using h
  | .bool b, v, h => by simpa [Fz] using h
  | .int i, v, h => by simpa [Fz] using h
  | .str s, v, h => by simpa [Fz] using h
  | .list ds, v, h => by
    simp only [Fz] at h ⊢
    obtain ⟨a, vs, q, s, t⟩ := h
    exact ⟨a, vs, q, e _ _ s, FzL.mono e ds vs t⟩
  | .tuple ds, v, h => by
    simp only [Fz] at h ⊢
    obtain ⟨a, vs, q, s, t⟩ := h
    exact ⟨a, vs, q, e.t s, FzL.mono e ds vs t⟩
  | .dict kds, v, h => by
    simp only [Fz] at h ⊢
    obtain ⟨a, q, t⟩ := h
    refine ⟨a, q, ?_⟩
    rcases t with ⟨kvs, r, k, t⟩ | ⟨kvs, r, k, t⟩
    · exact .inl ⟨kvs, e.rd r, k, FzV.mono e kds _ t⟩
    · exact .inr ⟨kvs, e.rd r, k, FzV.mono e kds _ t⟩
theorem FzL.mono (e : Ex H H') : ∀ (ds : List D) (vs : List V), FzL K H ds vs → FzL K H' ds vs
  | [], vs, h => by simpa [FzL] using h
  | d :: ds, vs, h => by
    simp only [FzL] at h ⊢
    obtain ⟨v, r, q, s, t⟩ := h
    exact ⟨v, r, q, Fz.mono e d v s, FzL.mono e ds r t⟩
theorem FzV.mono (e : Ex H H') : ∀ (ds : List (D × D)) (vs : List V), FzV K H ds vs → FzV K H' ds vs
  | [], vs, h => by simpa [FzV] using h
  | (k, d) :: ds, vs, h => by
    simp only [FzV] at h ⊢
    obtain ⟨v, r, q, s, t⟩ := h
    exact ⟨v, r, q, Fz.mono e d v s, FzV.mono e ds r t⟩
end
theorem FzL.nil : FzL K H [] [] := by simp [FzL]
theorem FzL.cons {d : D} {ds : List D} {v : V} {vs : List V} (h : Fz K H d v) (t : FzL K H ds vs) : FzL K H (d :: ds) (v :: vs) := by
  simp only [FzL]; exact ⟨v, vs, rfl, h, t⟩
theorem FzL.cons_iff {d : D} {ds : List D} {v : V} {vs : List V} : FzL K H (d :: ds) (v :: vs) ↔ Fz K H d v ∧ FzL K H ds vs := by
  simp only [FzL]
  constructor
  · rintro ⟨w, r, e, h, t⟩; cases e; exact ⟨h, t⟩
  · rintro ⟨h, t⟩; exact ⟨v, vs, rfl, h, t⟩
theorem FzL.length : ∀ {ds : List D} {vs : List V}, FzL K H ds vs → ds.length = vs.length
  | [], vs, h => by simp only [FzL] at h; subst h; rfl
  | d :: ds, vs, h => by
    simp only [FzL] at h
    obtain ⟨v, r, rfl, _, t⟩ := h
    simp [FzL.length t]
theorem FzL.get : ∀ {ds : List D} {vs : List V} {i : Nat} {d : D}, FzL K H ds vs → ds[i]? = some d → ∃ v, vs[i]? = some v ∧ Fz K H d v
  | [], vs, i, d, h, e => by simp at e
  | x :: ds, vs, i, d, h, e => by
    simp only [FzL] at h
    obtain ⟨v, r, rfl, s, t⟩ := h
    cases i with
    | zero => simp at e; subst e; exact ⟨v, rfl, s⟩
    | succ i => simpa using FzL.get t (by simpa using e)
theorem FzL.getV {ds : List D} {vs : List V} {i : Nat} {v : V} (h : FzL K H ds vs) (e : vs[i]? = some v) : ∃ d, ds[i]? = some d ∧ Fz K H d v := by
  have hl := h.length
  have hi : i < ds.length := by
    have := (List.getElem?_eq_some_iff.mp e).1; omega
  obtain ⟨w, q, s⟩ := h.get (i := i) (d := ds[i]) (List.getElem?_eq_getElem hi)
  rw [e] at q; cases q
  exact ⟨_, List.getElem?_eq_getElem hi, s⟩
theorem FzL.append : ∀ {ds es : List D} {vs us : List V}, FzL K H ds vs → FzL K H es us → FzL K H (ds ++ es) (vs ++ us)
  | [], es, vs, us, h, t => by simp only [FzL] at h; subst h; exact t
  | d :: ds, es, vs, us, h, t => by
    simp only [FzL] at h
    obtain ⟨v, r, rfl, s, q⟩ := h
    exact FzL.cons s (FzL.append q t)
theorem FzL.of_get : ∀ {ds : List D} {vs : List V}, ds.length = vs.length → (∀ (i : Nat) d v, ds[i]? = some d → vs[i]? = some v → Fz K H d v) → FzL K H ds vs
  | [], [], _, _ => .nil
  | d :: ds, v :: vs, hl, h => .cons (h 0 d v rfl rfl) (FzL.of_get (by simpa using hl) fun i d' v' e1 e2 => h (i + 1) d' v' (by simpa using e1) (by simpa using e2))
  | [], _ :: _, hl, _ => by simp at hl
  | _ :: _, [], hl, _ => by simp at hl
theorem FzL.take {ds : List D} {vs : List V} (n : Nat) (h : FzL K H ds vs) : FzL K H (ds.take n) (vs.take n) := by
  refine FzL.of_get (by simp [h.length]) fun i d v e1 e2 => ?_
  rw [List.getElem?_take] at e1 e2
  split at e1
  · rename_i hi
    rw [if_pos hi] at e2
    obtain ⟨w, q, s⟩ := h.get e1
    rw [e2] at q; cases q; exact s
  · cases e1
theorem FzL.drop {ds : List D} {vs : List V} (n : Nat) (h : FzL K H ds vs) : FzL K H (ds.drop n) (vs.drop n) := by
  refine FzL.of_get (by simp [h.length]) fun i d v e1 e2 => ?_
  rw [List.getElem?_drop] at e1 e2
  obtain ⟨w, q, s⟩ := h.get e1
  rw [e2] at q; cases q; exact s
theorem FzL.set {ds : List D} {vs : List V} {d : D} {v : V} (n : Nat) (h : FzL K H ds vs) (s : Fz K H d v) : FzL K H (ds.set n d) (vs.set n v) := by
  refine FzL.of_get (by simp [h.length]) fun i d' v' e1 e2 => ?_
  rw [List.getElem?_set] at e1 e2
  have hl := h.length
  by_cases hi : n = i
  · subst hi
    rw [if_pos rfl] at e1 e2
    split at e1
    · rename_i hlt
      rw [if_pos (by omega)] at e2
      cases e1; cases e2; exact s
    · cases e1
  · rw [if_neg hi] at e1 e2
    obtain ⟨w, q, s'⟩ := h.get e1
    rw [e2] at q; cases q; exact s'
theorem FzL.eraseIdx : ∀ {ds : List D} {vs : List V} (n : Nat), FzL K H ds vs → FzL K H (ds.eraseIdx n) (vs.eraseIdx n)
  | [], vs, n, h => by simp only [FzL] at h; subst h; simpa using FzL.nil
  | d :: ds, vs, n, h => by
    simp only [FzL] at h
    obtain ⟨v, r, rfl, s, q⟩ := h
    cases n with
    | zero => simpa using q
    | succ n => simpa using FzL.cons s (FzL.eraseIdx n q)
theorem FzL.reverse : ∀ {ds : List D} {vs : List V}, FzL K H ds vs → FzL K H ds.reverse vs.reverse
  | [], vs, h => by simp only [FzL] at h; subst h; simpa using FzL.nil
  | d :: ds, vs, h => by
    simp only [FzL] at h
    obtain ⟨v, r, rfl, s, q⟩ := h
    simpa using (FzL.reverse q).append (FzL.cons s .nil)
end

/-! ### owned data: the root at a is this slot's own, what it holds is frozen -/
def OwnAt (K : PySem.W.Frag) (M H : Hp) : D → Addr → Prop
  | .list ds, a => ∃ vs, H a = some (.lst vs) ∧ FzL K M ds vs
  | .dict kds, a => (∃ kvs : List (Key × V), H a = some (.dK kvs) ∧ kds.map Prod.fst = kvs.map (fun p => kD p.1) ∧ FzL K M (kds.map Prod.snd) (kvs.map Prod.snd)) ∨
      (∃ kvs : List (List Key × V), H a = some (.dT kvs) ∧ kds.map Prod.fst = kvs.map (fun p => tD p.1) ∧ FzL K M (kds.map Prod.snd) (kvs.map Prod.snd))
  | _, _ => False
theorem OwnAt.some {K : PySem.W.Frag} {M H : Hp} {d : D} {a : Addr} (h : OwnAt K M H d a) : ∃ o, H a = some o := by
  cases d <;> simp only [OwnAt] at h <;> try exact h.elim
  · obtain ⟨vs, e, _⟩ := h; exact ⟨_, e⟩
  · rcases h with ⟨kvs, e, _⟩ | ⟨kvs, e, _⟩ <;> exact ⟨_, e⟩
theorem OwnAt.step {K : PySem.W.Frag} {M M' H H' : Hp} {d : D} {a : Addr} (h : OwnAt K M H d a) (e : Ex M M') (k : ∀ o, H a = Option.some o → H' a = Option.some o) : OwnAt K M' H' d a := by
  cases d <;> simp only [OwnAt] at h ⊢ <;> try exact h.elim
  · obtain ⟨vs, q, t⟩ := h; exact ⟨vs, k _ q, t.mono e⟩
  · rcases h with ⟨kvs, q, t, u⟩ | ⟨kvs, q, t, u⟩
    · exact .inl ⟨kvs, k _ q, t, u.mono e⟩
    · exact .inr ⟨kvs, k _ q, t, u.mono e⟩
/-- an owned root, frozen -/
theorem OwnAt.freeze {K : PySem.W.Frag} {M M' H : Hp} {d : D} {a : Addr} (h : OwnAt K M H d a) (e : Ex M M') (k : ∀ o, H a = Option.some o → M' a = Option.some o) : Fz K M' d (.ref a) := by
  cases d <;> simp only [OwnAt] at h <;> try exact h.elim
  · obtain ⟨vs, q, t⟩ := h
    simp only [Fz]
    exact ⟨a, vs, rfl, k _ q, t.mono e⟩
  · simp only [Fz]
    refine ⟨a, rfl, ?_⟩
    rcases h with ⟨kvs, q, t, u⟩ | ⟨kvs, q, t, u⟩
    · exact .inl ⟨kvs, .inl (k _ q), t, (fzV_iff _ _).mpr (u.mono e)⟩
    · exact .inr ⟨kvs, .inl (k _ q), t, (fzV_iff _ _).mpr (u.mono e)⟩

/-! ### what a reader sees -/
def Vw (K : PySem.W.Frag) (M H : Hp) : D → V → Prop
  | .list ds, v => ∃ a vs, v = .ref a ∧ H a = some (.lst vs) ∧ FzL K M ds vs
  | .dict kds, v => ∃ a, v = .ref a ∧ ((∃ kvs : List (Key × V), Rd H a (.dK kvs) ∧ kds.map Prod.fst = kvs.map (fun p => kD p.1) ∧ FzL K M (kds.map Prod.snd) (kvs.map Prod.snd)) ∨
      (∃ kvs : List (List Key × V), Rd H a (.dT kvs) ∧ kds.map Prod.fst = kvs.map (fun p => tD p.1) ∧ FzL K M (kds.map Prod.snd) (kvs.map Prod.snd)))
  | d, v => Fz K M d v
theorem Fz.vw {K : PySem.W.Frag} {M H : Hp} {d : D} {v : V} (e : Ex M H) (h : Fz K M d v) : Vw K M H d v := by
  cases d with
  | list ds => simp only [Fz] at h; obtain ⟨a, vs, q, s, t⟩ := h; exact ⟨a, vs, q, e _ _ s, t⟩
  | dict kds =>
    simp only [Fz] at h
    obtain ⟨a, q, t⟩ := h
    refine ⟨a, q, ?_⟩
    rcases t with ⟨kvs, r, k, t⟩ | ⟨kvs, r, k, t⟩
    · exact .inl ⟨kvs, e.rd r, k, (fzV_iff _ _).mp t⟩
    · exact .inr ⟨kvs, e.rd r, k, (fzV_iff _ _).mp t⟩
  | none => exact h
  | bool b => exact h
  | int i => exact h
  | str s => exact h
  | tuple ds => exact h
theorem OwnAt.vw {K : PySem.W.Frag} {M H : Hp} {d : D} {a : Addr} (h : OwnAt K M H d a) : Vw K M H d (.ref a) := by
  cases d <;> simp only [OwnAt] at h <;> try exact h.elim
  · obtain ⟨vs, q, t⟩ := h; exact ⟨a, vs, rfl, q, t⟩
  · refine ⟨a, rfl, ?_⟩
    rcases h with ⟨kvs, q, t, u⟩ | ⟨kvs, q, t, u⟩
    · exact .inl ⟨kvs, .inl q, t, u⟩
    · exact .inr ⟨kvs, .inl q, t, u⟩

/-! ### slots, temps, the store -/
inductive Kd | fz | ow | io | sc
  deriving DecidableEq
def Kd.own : Kd → Bool
  | .ow => true
  | .io => true
  | _ => false
abbrev Slot := Option (Kd × D)
abbrev DEnv := List Slot
inductive Res | fz (d : D) | ow (d : D) | loc (i : Nat) | junk

/-- P: what was there ahead and is nobody's of this frame; B: of that what may be looked at; M: what is frozen -/
structure RepC (K : PySem.W.Frag) (P B M : Hp) (e : DEnv) (σ : L2.St) (H : Hp) : Prop where
  mh : Ex M H
  bm : Ex B M
  ph : Ex P H
  pb : ∀ a, P a ≠ none → M a ≠ none → B a ≠ none
  len : e.length = σ.length
  fz : ∀ (i : Nat) d, e[i]? = some (some (.fz, d)) → ∃ v, σ[i]? = some (some v) ∧ Fz K M d v
  sc : ∀ (i : Nat) d, e[i]? = some (some (.sc, d)) → ∃ (a : Addr) (ns : List Int), σ[i]? = some (some (.ref a)) ∧ SqL K M a (ns.map V.int) ∧ d = .list (ns.map PyData.int)
  ow : ∀ (i : Nat) k d, e[i]? = some (some (k, d)) → k.own = true → ∃ a, σ[i]? = some (some (.ref a)) ∧ OwnAt K M H d a ∧ M a = none ∧ P a = none
  inj : ∀ (i j : Nat) a k k' d d', e[i]? = some (some (k, d)) → k.own = true → e[j]? = some (some (k', d')) → k'.own = true → σ[i]? = some (some (.ref a)) → σ[j]? = some (some (.ref a)) → i = j

section
variable {K : PySem.W.Frag} {P B M : Hp} {e : DEnv} {σ : L2.St} {H : Hp}
theorem app_get {α : Type} {l : List α} {x y : α} {i : Nat} (h : (l ++ [x])[i]? = some y) : (i < l.length ∧ l[i]? = some y) ∨ (i = l.length ∧ y = x) := by
  by_cases hi : i < l.length
  · rw [List.getElem?_append_left hi] at h; exact .inl ⟨hi, h⟩
  · rw [List.getElem?_append_right (by omega)] at h
    by_cases h0 : i - l.length = 0
    · rw [h0] at h; simp at h; exact .inr ⟨by omega, h.symm⟩
    · have : ([x] : List α)[i - l.length]? = none := by
        rw [List.getElem?_eq_none_iff]; simp; omega
      rw [this] at h; cases h
theorem app_l {α : Type} {l : List α} {x y : α} {i : Nat} (h : l[i]? = some y) : (l ++ [x])[i]? = some y := by
  rw [List.getElem?_append_left (List.getElem?_eq_some_iff.mp h).1]; exact h
theorem app_last {α : Type} {l : List α} {x : α} : (l ++ [x])[l.length]? = some x := by simp

theorem RepC.ne_new (r : RepC K P B M e σ H) {p : Addr} (hp : H p = none) {i : Nat} {k : Kd} {d : D} (h : e[i]? = some (some (k, d))) (hk : k.own = true) : σ[i]? ≠ some (some (.ref p)) := by
  intro q
  obtain ⟨a, s, o, _, _⟩ := r.ow i k d h hk
  rw [s] at q; cases q
  obtain ⟨o', ho⟩ := o.some
  rw [hp] at ho; cases ho
theorem RepC.push_fz {d : D} {v : V} (r : RepC K P B M e σ H) (h : Fz K M d v) : RepC K P B M (e ++ [some (.fz, d)]) (σ ++ [some v]) H where
  mh := r.mh
  bm := r.bm
  ph := r.ph
  pb := r.pb
  len := by simp [r.len]
  fz := fun i d' q => by
    rcases app_get q with ⟨_, q⟩ | ⟨hi, q⟩
    · obtain ⟨w, s, t⟩ := r.fz i d' q; exact ⟨w, app_l s, t⟩
    · cases q; subst hi; rw [r.len]; exact ⟨v, app_last, h⟩
  sc := fun i d' q => by
    rcases app_get q with ⟨_, q⟩ | ⟨hi, q⟩
    · obtain ⟨w, n, s, t⟩ := r.sc i d' q; exact ⟨w, n, app_l s, t⟩
    · cases q
  ow := fun i k d' q hk => by
    rcases app_get q with ⟨_, q⟩ | ⟨hi, q⟩
    · obtain ⟨w, s, t⟩ := r.ow i k d' q hk; exact ⟨w, app_l s, t⟩
    · cases q; exact absurd hk (by decide)
  inj := fun i j a k k' d1 d2 q hk q' hk' s s' => by
    rcases app_get q with ⟨hi, q⟩ | ⟨hi, q⟩
    · rcases app_get q' with ⟨hj, q'⟩ | ⟨hj, q'⟩
      · rw [List.getElem?_append_left (by rw [← r.len]; exact hi)] at s
        rw [List.getElem?_append_left (by rw [← r.len]; exact hj)] at s'
        exact r.inj i j a k k' d1 d2 q hk q' hk' s s'
      · cases q'; exact absurd hk' (by decide)
    · cases q; exact absurd hk (by decide)
theorem RepC.push_none {v : Option V} (r : RepC K P B M e σ H) : RepC K P B M (e ++ [none]) (σ ++ [v]) H where
  mh := r.mh
  bm := r.bm
  ph := r.ph
  pb := r.pb
  len := by simp [r.len]
  fz := fun i d' q => by
    rcases app_get q with ⟨_, q⟩ | ⟨hi, q⟩
    · obtain ⟨w, s, t⟩ := r.fz i d' q; exact ⟨w, app_l s, t⟩
    · cases q
  sc := fun i d' q => by
    rcases app_get q with ⟨_, q⟩ | ⟨hi, q⟩
    · obtain ⟨w, n, s, t⟩ := r.sc i d' q; exact ⟨w, n, app_l s, t⟩
    · cases q
  ow := fun i k d' q hk => by
    rcases app_get q with ⟨_, q⟩ | ⟨hi, q⟩
    · obtain ⟨w, s, t⟩ := r.ow i k d' q hk; exact ⟨w, app_l s, t⟩
    · cases q
  inj := fun i j a k k' d1 d2 q hk q' hk' s s' => by
    rcases app_get q with ⟨hi, q⟩ | ⟨hi, q⟩
    · rcases app_get q' with ⟨hj, q'⟩ | ⟨hj, q'⟩
      · rw [List.getElem?_append_left (by rw [← r.len]; exact hi)] at s
        rw [List.getElem?_append_left (by rw [← r.len]; exact hj)] at s'
        exact r.inj i j a k k' d1 d2 q hk q' hk' s s'
      · cases q'
    · cases q
theorem RepC.push_ow {d : D} {a : Addr} (r : RepC K P B M e σ H) (h : OwnAt K M H d a) (hm : M a = none) (hp : P a = none)
    (hn : ∀ (i : Nat) k d', e[i]? = some (some (k, d')) → k.own = true → σ[i]? ≠ some (some (.ref a))) : RepC K P B M (e ++ [some (.ow, d)]) (σ ++ [some (.ref a)]) H where
  mh := r.mh
  bm := r.bm
  ph := r.ph
  pb := r.pb
  len := by simp [r.len]
  fz := fun i d' q => by
    rcases app_get q with ⟨_, q⟩ | ⟨hi, q⟩
    · obtain ⟨w, s, t⟩ := r.fz i d' q; exact ⟨w, app_l s, t⟩
    · cases q
  sc := fun i d' q => by
    rcases app_get q with ⟨_, q⟩ | ⟨hi, q⟩
    · obtain ⟨w, n, s, t⟩ := r.sc i d' q; exact ⟨w, n, app_l s, t⟩
    · cases q
  ow := fun i k d' q hk => by
    rcases app_get q with ⟨_, q⟩ | ⟨hi, q⟩
    · obtain ⟨w, s, t⟩ := r.ow i k d' q hk; exact ⟨w, app_l s, t⟩
    · cases q; subst hi; rw [r.len]; exact ⟨a, app_last, h, hm, hp⟩
  inj := fun i j b k k' d1 d2 q hk q' hk' s s' => by
    rcases app_get q with ⟨hi, q⟩ | ⟨hi, q⟩
    · rw [List.getElem?_append_left (by rw [← r.len]; exact hi)] at s
      rcases app_get q' with ⟨hj, q'⟩ | ⟨hj, q'⟩
      · rw [List.getElem?_append_left (by rw [← r.len]; exact hj)] at s'
        exact r.inj i j b k k' d1 d2 q hk q' hk' s s'
      · subst hj; rw [r.len, app_last] at s'; cases s'
        exact absurd s (hn i k d1 q hk)
    · subst hi; rw [r.len, app_last] at s; cases s
      rcases app_get q' with ⟨hj, q'⟩ | ⟨hj, q'⟩
      · rw [List.getElem?_append_left (by rw [← r.len]; exact hj)] at s'
        exact absurd s' (hn j k' d2 q' hk')
      · omega
theorem RepC.pop {x : Slot} {y : Option V} (r : RepC K P B M (e ++ [x]) (σ ++ [y]) H) : RepC K P B M e σ H where
  mh := r.mh
  bm := r.bm
  ph := r.ph
  pb := r.pb
  len := by have := r.len; simpa using this
  fz := fun i d' q => by
    have hl : e.length = σ.length := by have := r.len; simpa using this
    have hi := (List.getElem?_eq_some_iff.mp q).1
    obtain ⟨w, s, t⟩ := r.fz i d' (app_l q)
    rw [List.getElem?_append_left (by omega)] at s
    exact ⟨w, s, t⟩
  sc := fun i d' q => by
    have hl : e.length = σ.length := by have := r.len; simpa using this
    have hi := (List.getElem?_eq_some_iff.mp q).1
    obtain ⟨w, n, s, t⟩ := r.sc i d' (app_l q)
    rw [List.getElem?_append_left (by omega)] at s
    exact ⟨w, n, s, t⟩
  ow := fun i k d' q hk => by
    have hl : e.length = σ.length := by have := r.len; simpa using this
    have hi := (List.getElem?_eq_some_iff.mp q).1
    obtain ⟨w, s, t⟩ := r.ow i k d' (app_l q) hk
    rw [List.getElem?_append_left (by omega)] at s
    exact ⟨w, s, t⟩
  inj := fun i j b k k' d1 d2 q hk q' hk' s s' => r.inj i j b k k' d1 d2 (app_l q) hk (app_l q') hk' (app_l s) (app_l s')
/-- slots may be forgotten -/
theorem RepC.forget {e' : DEnv} (r : RepC K P B M e σ H) (hl : e'.length = e.length) (h : ∀ (i : Nat) x, e'[i]? = some (some x) → e[i]? = some (some x)) : RepC K P B M e' σ H where
  mh := r.mh
  bm := r.bm
  ph := r.ph
  pb := r.pb
  len := hl.trans r.len
  fz := fun i d q => r.fz i d (h i _ q)
  sc := fun i d q => r.sc i d (h i _ q)
  ow := fun i k d q hk => r.ow i k d (h i _ q) hk
  inj := fun i j b k k' d1 d2 q hk q' hk' s s' => r.inj i j b k k' d1 d2 (h i _ q) hk (h j _ q') hk' s s'
/-- .. and the values of forgotten slots may be any -/
theorem RepC.forget2 {e' : DEnv} {σ' : L2.St} (r : RepC K P B M e σ H) (hl : e'.length = e.length) (hs : σ'.length = σ.length) (h : ∀ (i : Nat) x, e'[i]? = some (some x) → e[i]? = some (some x) ∧ σ'[i]? = σ[i]?) : RepC K P B M e' σ' H where
  mh := r.mh
  bm := r.bm
  ph := r.ph
  pb := r.pb
  len := by rw [hl, hs]; exact r.len
  fz := fun i d q => by rw [(h i _ q).2]; exact r.fz i d (h i _ q).1
  sc := fun i d q => by rw [(h i _ q).2]; exact r.sc i d (h i _ q).1
  ow := fun i k d q hk => by rw [(h i _ q).2]; exact r.ow i k d (h i _ q).1 hk
  inj := fun i j b k k' d1 d2 q hk q' hk' s s' => r.inj i j b k k' d1 d2 (h i _ q).1 hk (h j _ q').1 hk' (by rw [← (h i _ q).2]; exact s) (by rw [← (h j _ q').2]; exact s')
/-- a new object is laid, nobody's yet -/
theorem RepC.alloc {p : Addr} {o : HO} (r : RepC K P B M e σ H) (hp : H p = none) : RepC K P B M e σ (upd H p o) where
  mh := r.mh.updM (r.mh.none hp)
  bm := r.bm
  ph := r.ph.updM (r.ph.none hp)
  pb := r.pb
  len := r.len
  fz := r.fz
  sc := r.sc
  ow := fun i k d q hk => by
    obtain ⟨a, s, t, u⟩ := r.ow i k d q hk
    refine ⟨a, s, t.step (Ex.refl _) fun o' ho => ?_, u⟩
    rw [upd_ne (ne_of_none ho hp)]; exact ho
  inj := r.inj
/-- an object that is nobody's is frozen -/
theorem RepC.grow {p : Addr} {o : HO} (r : RepC K P B M e σ H) (hp : H p = some o) (hP : P p = none) (hn : ∀ (i : Nat) k d', e[i]? = some (some (k, d')) → k.own = true → σ[i]? ≠ some (some (.ref p))) (hM : M p = none) : RepC K P B (upd M p o) e σ H where
  mh := fun a u q => by
    by_cases h : a = p
    · subst h; rw [upd_same] at q; cases q; exact hp
    · rw [upd_ne h] at q; exact r.mh a u q
  bm := r.bm.trans (Ex.updN hM)
  ph := r.ph
  pb := fun a h1 h2 => by
    by_cases h : a = p
    · subst h; exact absurd hP h1
    · rw [upd_ne h] at h2; exact r.pb a h1 h2
  len := r.len
  fz := fun i d q => by
    obtain ⟨w, s, t⟩ := r.fz i d q; exact ⟨w, s, t.mono (Ex.updN hM)⟩
  sc := fun i d q => by
    obtain ⟨w, n, s, t, u⟩ := r.sc i d q; exact ⟨w, n, s, (Ex.updN hM).l t, u⟩
  ow := fun i k d q hk => by
    obtain ⟨a, s, t, u, w⟩ := r.ow i k d q hk
    refine ⟨a, s, t.step (Ex.updN hM) fun _ ho => ho, ?_, w⟩
    rw [upd_ne (fun z => hn i k d q hk (by rw [← z]; exact s))]; exact u
  inj := r.inj
/-- an owned slot is frozen -/
theorem RepC.freeze {i : Nat} {k : Kd} {d : D} {a : Addr} (r : RepC K P B M e σ H) (h : e[i]? = some (some (k, d))) (hk : k.own = true) (hs : σ[i]? = some (some (.ref a))) :
    ∃ M', Ex M M' ∧ RepC K P B M' (e.set i (some (.fz, d))) σ H ∧ Fz K M' d (.ref a) := by
  obtain ⟨a', s, t, u, w⟩ := r.ow i k d h hk
  rw [hs] at s; cases s
  obtain ⟨o, ho⟩ := t.some
  have r1 : RepC K P B M (e.set i none) σ H := r.forget (by simp) fun j x q => by
    rw [List.getElem?_set] at q
    split at q
    · split at q <;> simp at q
    · exact q
  have hn : ∀ (j : Nat) k' d', (e.set i none)[j]? = some (some (k', d')) → k'.own = true → σ[j]? ≠ some (some (.ref a)) := fun j k' d' q hk' z => by
    rw [List.getElem?_set] at q
    split at q
    · split at q <;> simp at q
    · rename_i hij
      exact hij (r.inj i j a k k' d d' h hk q hk' hs z)
  have r2 := r1.grow ho w hn u
  have f : Fz K (upd M a o) d (.ref a) := t.freeze (Ex.updN u) fun o' q => by rw [ho] at q; cases q; exact upd_same
  refine ⟨upd M a o, Ex.updN u, ?_, f⟩
  have hi := (List.getElem?_eq_some_iff.mp h).1
  refine ⟨r2.mh, r2.bm, r2.ph, r2.pb, by simp [r.len], fun j d' q => ?_, fun j d' q => ?_, fun j k' d' q hk' => ?_, fun j l b k1 k2 d1 d2 q hk1 q' hk2 s s' => ?_⟩
  · rw [List.getElem?_set] at q
    split at q
    · rename_i hij
      subst hij
      (try rw [if_pos hi] at q); cases q
      exact ⟨_, hs, f⟩
    · rename_i hij
      exact r2.fz j d' (by rw [List.getElem?_set, if_neg hij]; exact q)
  · rw [List.getElem?_set] at q
    split at q
    · (try rw [if_pos hi] at q); cases q
    · rename_i hij
      exact r2.sc j d' (by rw [List.getElem?_set, if_neg hij]; exact q)
  · rw [List.getElem?_set] at q
    split at q
    · (try rw [if_pos hi] at q); cases q; exact absurd hk' (by decide)
    · rename_i hij
      exact r2.ow j k' d' (by rw [List.getElem?_set, if_neg hij]; exact q) hk'
  · rw [List.getElem?_set] at q q'
    split at q
    · (try rw [if_pos hi] at q); cases q; exact absurd hk1 (by decide)
    · split at q'
      · (try rw [if_pos hi] at q'); cases q'; exact absurd hk2 (by decide)
      · exact r.inj j l b k1 k2 d1 d2 q hk1 q' hk2 s s'
/-- an owned object is changed -/
theorem RepC.mutate {i : Nat} {k : Kd} {d d' : D} {a : Addr} {o : HO} (r : RepC K P B M e σ H) (h : e[i]? = some (some (k, d))) (hk : k.own = true) (hs : σ[i]? = some (some (.ref a)))
    (h' : OwnAt K M (upd H a o) d' a) : RepC K P B M (e.set i (some (k, d'))) σ (upd H a o) := by
  obtain ⟨a', s, t, u, w⟩ := r.ow i k d h hk
  rw [hs] at s; cases s
  have hi := (List.getElem?_eq_some_iff.mp h).1
  refine ⟨r.mh.updM u, r.bm, r.ph.updM w, r.pb, by simp [r.len], fun j d1 q => ?_, fun j d1 q => ?_, fun j k1 d1 q hk1 => ?_, fun j l b k1 k2 d1 d2 q hk1 q' hk2 s s' => ?_⟩
  · rw [List.getElem?_set] at q
    split at q
    · (try rw [if_pos hi] at q); cases q; exact absurd hk (by decide)
    · exact r.fz j d1 q
  · rw [List.getElem?_set] at q
    split at q
    · (try rw [if_pos hi] at q); cases q; exact absurd hk (by decide)
    · exact r.sc j d1 q
  · rw [List.getElem?_set] at q
    split at q
    · rename_i hij; subst hij
      (try rw [if_pos hi] at q); cases q
      exact ⟨a, hs, h', u, w⟩
    · rename_i hij
      obtain ⟨b, s1, t1, u1, w1⟩ := r.ow j k1 d1 q hk1
      refine ⟨b, s1, t1.step (Ex.refl _) fun o' ho => ?_, u1, w1⟩
      rw [upd_ne (fun z => hij (r.inj i j a k k1 d d1 h hk q hk1 hs (by rw [← z]; exact s1)))]; exact ho
  · have q1 : ∃ k3 d3, e[j]? = some (some (k3, d3)) ∧ k3.own = true := by
      rw [List.getElem?_set] at q
      split at q
      · rename_i hij; subst hij; exact ⟨k, d, h, hk⟩
      · exact ⟨k1, d1, q, hk1⟩
    have q2 : ∃ k3 d3, e[l]? = some (some (k3, d3)) ∧ k3.own = true := by
      rw [List.getElem?_set] at q'
      split at q'
      · rename_i hij; subst hij; exact ⟨k, d, h, hk⟩
      · exact ⟨k2, d2, q', hk2⟩
    obtain ⟨k3, d3, z1, z2⟩ := q1
    obtain ⟨k4, d4, z3, z4⟩ := q2
    exact r.inj j l b k3 k4 d3 d4 z1 z2 z3 z4 s s'
/-- a slot gets a value -/
theorem RepC.set_fz {i : Nat} {d : D} {v : V} (r : RepC K P B M e σ H) (h : Fz K M d v) : RepC K P B M (e.set i (some (.fz, d))) (σ.set i (some v)) H := by
  refine ⟨r.mh, r.bm, r.ph, r.pb, by simp [r.len], fun j d' q => ?_, fun j d' q => ?_, fun j k' d' q hk' => ?_, fun j l b k1 k2 d1 d2 q hk1 q' hk2 s s' => ?_⟩
  · rw [List.getElem?_set] at q ⊢
    split at q
    · rename_i hij; subst hij
      rw [if_pos rfl, ← r.len]
      split at q
      · rename_i hi; cases q; rw [if_pos hi]; exact ⟨v, rfl, h⟩
      · cases q
    · rename_i hij; rw [if_neg hij]; exact r.fz j d' q
  · rw [List.getElem?_set] at q ⊢
    split at q
    · split at q <;> cases q
    · rename_i hij; rw [if_neg hij]; exact r.sc j d' q
  · rw [List.getElem?_set] at q ⊢
    split at q
    · split at q
      · cases q; exact absurd hk' (by decide)
      · cases q
    · rename_i hij; rw [if_neg hij]; exact r.ow j k' d' q hk'
  · rw [List.getElem?_set] at q q' s s'
    split at q
    · split at q
      · cases q; exact absurd hk1 (by decide)
      · cases q
    · rename_i hij
      split at q'
      · split at q'
        · cases q'; exact absurd hk2 (by decide)
        · cases q'
      · rename_i hil
        rw [if_neg hij] at s
        rw [if_neg hil] at s'
        exact r.inj j l b k1 k2 d1 d2 q hk1 q' hk2 s s'
theorem RepC.set_ow {i : Nat} {d : D} {a : Addr} (r : RepC K P B M e σ H) (h : OwnAt K M H d a) (hm : M a = none) (hp : P a = none)
    (hn : ∀ (j : Nat) k d', e[j]? = some (some (k, d')) → k.own = true → σ[j]? ≠ some (some (.ref a))) : RepC K P B M (e.set i (some (.ow, d))) (σ.set i (some (.ref a))) H := by
  refine ⟨r.mh, r.bm, r.ph, r.pb, by simp [r.len], fun j d' q => ?_, fun j d' q => ?_, fun j k' d' q hk' => ?_, fun j l b k1 k2 d1 d2 q hk1 q' hk2 s s' => ?_⟩
  · rw [List.getElem?_set] at q ⊢
    split at q
    · split at q <;> cases q
    · rename_i hij; rw [if_neg hij]; exact r.fz j d' q
  · rw [List.getElem?_set] at q ⊢
    split at q
    · split at q <;> cases q
    · rename_i hij; rw [if_neg hij]; exact r.sc j d' q
  · rw [List.getElem?_set] at q ⊢
    split at q
    · rename_i hij; subst hij
      split at q
      · rename_i hi; cases q
        rw [if_pos rfl, ← r.len, if_pos hi]; exact ⟨a, rfl, h, hm, hp⟩
      · cases q
    · rename_i hij; rw [if_neg hij]; exact r.ow j k' d' q hk'
  · rw [List.getElem?_set] at q q' s s'
    split at q
    · rename_i hij; subst hij
      split at q'
      · rename_i hil; exact hil
      · rename_i hil
        rw [if_neg hil] at s'
        rw [if_pos rfl, ← r.len] at s
        split at s
        · cases s; exact absurd s' (hn l k2 d2 q' hk2)
        · cases s
    · rename_i hij
      rw [if_neg hij] at s
      split at q'
      · rename_i hil; subst hil
        rw [if_pos rfl, ← r.len] at s'
        split at s'
        · cases s'; exact absurd s (hn j k1 d1 q hk1)
        · cases s'
      · rename_i hil
        rw [if_neg hil] at s'
        exact r.inj j l b k1 k2 d1 d2 q hk1 q' hk2 s s'
end
end PL
set_option Elab.async false
set_option linter.all false
set_option autoImplicit false
set_option maxRecDepth 100000
set_option maxHeartbeats 4000000
/-! PLb: temps, the store with its temps, expressions' readings over data; names, constants, displays, operators, comparisons, tests. -/
namespace PL
open PySem PySem.Spec PyProof.Rows L2

abbrev Tmp := List (Res × V)
def tS : Res → Slot
  | .fz d => some (.fz, d)
  | .ow d => some (.ow, d)
  | .loc _ => none
  | .junk => none
def tE (T : Tmp) : DEnv := T.map fun t => tS t.1
def tV (T : Tmp) : L2.St := T.map fun t => some t.2
theorem tE_app (T T' : Tmp) : tE (T ++ T') = tE T ++ tE T' := List.map_append
theorem tV_app (T T' : Tmp) : tV (T ++ T') = tV T ++ tV T' := List.map_append
theorem tE_len (T : Tmp) : (tE T).length = T.length := List.length_map ..
theorem tV_len (T : Tmp) : (tV T).length = T.length := List.length_map ..

/-- part of a store, told by a map of places -/
theorem RepC.sub {K : PySem.W.Frag} {P B M : Hp} {e e' : DEnv} {σ σ' : L2.St} {H : Hp} (r : RepC K P B M e σ H) (f : Nat → Nat) (hl : e'.length = σ'.length) (hf : ∀ (i j : Nat) x y, e'[i]? = some (some x) → e'[j]? = some (some y) → f i = f j → i = j)
    (h : ∀ (i : Nat) x, e'[i]? = some (some x) → e[f i]? = some (some x) ∧ σ'[i]? = σ[f i]?) : RepC K P B M e' σ' H where
  mh := r.mh
  bm := r.bm
  ph := r.ph
  pb := r.pb
  len := hl
  fz := fun i d q => by rw [(h i _ q).2]; exact r.fz _ d (h i _ q).1
  sc := fun i d q => by rw [(h i _ q).2]; exact r.sc _ d (h i _ q).1
  ow := fun i k d q hk => by rw [(h i _ q).2]; exact r.ow _ k d (h i _ q).1 hk
  inj := fun i j b k k' d1 d2 q hk q' hk' s s' => hf _ _ _ _ q q' (r.inj _ _ b k k' d1 d2 (h i _ q).1 hk (h j _ q').1 hk' (by rw [← (h i _ q).2]; exact s) (by rw [← (h j _ q').2]; exact s'))

structure RepM (K : PySem.W.Frag) (P B M : Hp) (ios : List (Nat × V)) (e : DEnv) (σ : L2.St) (T : Tmp) (H : Hp) : Prop where
  c : RepC K P B M (e ++ tE T) (σ ++ tV T) H
  el : e.length = σ.length
  loc : ∀ i v, (Res.loc i, v) ∈ T → σ[i]? = some (some v)
  io : ∀ i v, (i, v) ∈ ios → σ[i]? = some (some v) ∧ ∃ d, e[i]? = some (some (.io, d))
def Rep (K : PySem.W.Frag) (P B : Hp) (ios : List (Nat × V)) (e : DEnv) (σ : L2.St) (T : Tmp) (H : Hp) : Prop := ∃ M, RepM K P B M ios e σ T H

section
variable {K : PySem.W.Frag} {P B M : Hp} {ios : List (Nat × V)} {e : DEnv} {σ : L2.St} {T T1 T2 T3 : Tmp} {H : Hp}
theorem get_mid {α : Type} {l1 l2 l3 : List α} {i : Nat} : (l1 ++ l3)[i]? = (l1 ++ l2 ++ l3)[if i < l1.length then i else i + l2.length]? := by
  by_cases h : i < l1.length
  · rw [if_pos h, List.getElem?_append_left h, List.getElem?_append_left (by rw [List.length_append]; omega), List.getElem?_append_left h]
  · rw [if_neg h, List.getElem?_append_right (by omega), List.getElem?_append_right (by rw [List.length_append]; omega), List.length_append]
    congr 1
    omega
theorem set_same {α : Type} {l : List α} {n : Nat} {x : α} (h : l[n]? = some x) : l.set n x = l := by
  apply List.ext_getElem?
  intro j
  rw [List.getElem?_set]
  split
  · rename_i hj
    subst hj
    rw [h, if_pos (List.getElem?_eq_some_iff.mp h).1]
  · rfl
theorem RepM.mid (r : RepM K P B M ios e σ (T1 ++ T2 ++ T3) H) : RepM K P B M ios e σ (T1 ++ T3) H := by
  have hc := r.c
  rw [tE_app, tE_app, tV_app, tV_app, ← List.append_assoc, ← List.append_assoc, ← List.append_assoc, ← List.append_assoc] at hc
  refine ⟨?_, r.el, fun i v h => r.loc i v ?_, r.io⟩
  · rw [tE_app, tV_app, ← List.append_assoc, ← List.append_assoc]
    have hl : (e ++ tE T1).length = (σ ++ tV T1).length := by rw [List.length_append, List.length_append, tE_len, tV_len, r.el]
    have hl2 : (tE T2).length = (tV T2).length := by rw [tE_len, tV_len]
    refine hc.sub (fun i => if i < (e ++ tE T1).length then i else i + (tE T2).length) ?_ ?_ ?_
    · simp only [List.length_append, tE_len, tV_len, r.el]
    · intro i j _ _ _ _ h
      by_cases hi : i < (e ++ tE T1).length <;> by_cases hj : j < (e ++ tE T1).length <;> simp only [hi, hj, if_true, if_false] at h <;> omega
    · intro i x q
      rw [get_mid (l2 := tE T2)] at q
      refine ⟨q, ?_⟩
      rw [get_mid (l2 := tV T2), hl, hl2]
  · rcases List.mem_append.mp h with h | h
    · exact List.mem_append_left _ (List.mem_append_left _ h)
    · exact List.mem_append_right _ h
theorem RepM.popN (r : RepM K P B M ios e σ (T ++ T2) H) : RepM K P B M ios e σ T H := by
  have := RepM.mid (T1 := T) (T2 := T2) (T3 := []) (by simpa using r)
  simpa using this
theorem Rep.mid (r : Rep K P B ios e σ (T1 ++ T2 ++ T3) H) : Rep K P B ios e σ (T1 ++ T3) H := let ⟨M, h⟩ := r; ⟨M, h.mid⟩
theorem Rep.popN (r : Rep K P B ios e σ (T ++ T2) H) : Rep K P B ios e σ T H := let ⟨M, h⟩ := r; ⟨M, h.popN⟩
theorem RepM.mh (r : RepM K P B M ios e σ T H) : Ex M H := r.c.mh
theorem left_get {α : Type} {l m : List α} {i : Nat} {x : α} (h : l[i]? = some x) : (l ++ m)[i]? = some x := by
  rw [List.getElem?_append_left (List.getElem?_eq_some_iff.mp h).1]; exact h
theorem RepM.sl (r : RepM K P B M ios e σ T H) {i : Nat} {x : Slot} (h : e[i]? = some x) : (σ ++ tV T)[i]? = σ[i]? := by
  rw [List.getElem?_append_left (by rw [← r.el]; exact (List.getElem?_eq_some_iff.mp h).1)]
theorem RepM.fzS (r : RepM K P B M ios e σ T H) {i : Nat} {d : D} (h : e[i]? = some (some (.fz, d))) : ∃ v, σ[i]? = some (some v) ∧ Fz K M d v := by
  have := r.c.fz i d (left_get h)
  rwa [r.sl h] at this
theorem RepM.owS (r : RepM K P B M ios e σ T H) {i : Nat} {k : Kd} {d : D} (h : e[i]? = some (some (k, d))) (hk : k.own = true) : ∃ a, σ[i]? = some (some (.ref a)) ∧ OwnAt K M H d a ∧ M a = none ∧ P a = none := by
  have := r.c.ow i k d (left_get h) hk
  rwa [r.sl h] at this
theorem RepM.scS (r : RepM K P B M ios e σ T H) {i : Nat} {d : D} (h : e[i]? = some (some (.sc, d))) : ∃ (a : Addr) (ns : List Int), σ[i]? = some (some (.ref a)) ∧ SqL K M a (ns.map V.int) ∧ d = .list (ns.map PyData.int) := by
  have := r.c.sc i d (left_get h)
  rwa [r.sl h] at this
theorem RepM.tget (r : RepM K P B M ios e σ T H) {j : Nat} {t : Res × V} (h : T[j]? = some t) : (e ++ tE T)[e.length + j]? = some (tS t.1) ∧ (σ ++ tV T)[e.length + j]? = some (some t.2) := by
  constructor
  · rw [List.getElem?_append_right (by omega)]
    have : e.length + j - e.length = j := by omega
    rw [this, tE, List.getElem?_map, h]; rfl
  · rw [r.el, List.getElem?_append_right (by omega)]
    have : σ.length + j - σ.length = j := by omega
    rw [this, tV, List.getElem?_map, h]; rfl
theorem RepM.tfz (r : RepM K P B M ios e σ T H) {d : D} {v : V} (h : (Res.fz d, v) ∈ T) : Fz K M d v := by
  obtain ⟨j, hj⟩ := List.getElem?_of_mem h
  obtain ⟨h1, h2⟩ := r.tget hj
  obtain ⟨w, q, f⟩ := r.c.fz _ d h1
  rw [h2] at q; cases q; exact f
theorem RepM.tow (r : RepM K P B M ios e σ T H) {d : D} {v : V} (h : (Res.ow d, v) ∈ T) : ∃ a, v = .ref a ∧ OwnAt K M H d a ∧ M a = none ∧ P a = none := by
  obtain ⟨j, hj⟩ := List.getElem?_of_mem h
  obtain ⟨h1, h2⟩ := r.tget hj
  obtain ⟨a, q, f⟩ := r.c.ow _ .ow d h1 rfl
  rw [h2] at q; cases q; exact ⟨a, rfl, f⟩

/-- what a result is, as the slots stand -/
def look (e : DEnv) : Res → Option D
  | .fz d => some d
  | .ow d => some d
  | .loc i => match e[i]? with
    | some (some (.fz, d)) => some d
    | some (some (.ow, d)) => some d
    | some (some (.io, d)) => some d
    | _ => none
  | .junk => none
theorem RepM.view (r : RepM K P B M ios e σ T H) {x : Res} {v : V} {d : D} (h : (x, v) ∈ T) (hl : look e x = some d) : Vw K M H d v := by
  cases x with
  | fz d' => cases hl; exact (r.tfz h).vw r.mh
  | ow d' => cases hl; obtain ⟨a, rfl, o, _⟩ := r.tow h; exact o.vw
  | loc i =>
    have hs := r.loc i v h
    unfold look at hl
    dsimp only at hl
    split at hl
    · rename_i d' q; cases hl
      obtain ⟨w, s, f⟩ := r.fzS q
      rw [hs] at s; cases s; exact f.vw r.mh
    · rename_i d' q; cases hl
      obtain ⟨a, s, f, _⟩ := r.owS q rfl
      rw [hs] at s; cases s; exact f.vw
    · rename_i d' q; cases hl
      obtain ⟨a, s, f, _⟩ := r.owS q rfl
      rw [hs] at s; cases s; exact f.vw
    · cases hl
  | junk => cases hl

/-! ### pushing temps -/
theorem RepM.push_fz (r : RepM K P B M ios e σ T H) {d : D} {v : V} (h : Fz K M d v) : RepM K P B M ios e σ (T ++ [(.fz d, v)]) H where
  c := by
    rw [tE_app, tV_app, ← List.append_assoc, ← List.append_assoc]
    exact r.c.push_fz h
  el := r.el
  loc := fun i w q => by
    rcases List.mem_append.mp q with q | q
    · exact r.loc i w q
    · simp at q
  io := r.io
theorem RepM.push_loc (r : RepM K P B M ios e σ T H) {i : Nat} {v : V} (h : σ[i]? = some (some v)) : RepM K P B M ios e σ (T ++ [(.loc i, v)]) H where
  c := by
    rw [tE_app, tV_app, ← List.append_assoc, ← List.append_assoc]
    exact r.c.push_none
  el := r.el
  loc := fun j w q => by
    rcases List.mem_append.mp q with q | q
    · exact r.loc j w q
    · simp at q; obtain ⟨rfl, rfl⟩ := q; exact h
  io := r.io
theorem RepM.push_ow (r : RepM K P B M ios e σ T H) {d : D} {a : Addr} (h : OwnAt K M H d a) (hm : M a = none) (hp : P a = none)
    (hn : ∀ (i : Nat) k d', (e ++ tE T)[i]? = some (some (k, d')) → k.own = true → (σ ++ tV T)[i]? ≠ some (some (.ref a))) : RepM K P B M ios e σ (T ++ [(.ow d, .ref a)]) H where
  c := by
    rw [tE_app, tV_app, ← List.append_assoc, ← List.append_assoc]
    exact r.c.push_ow h hm hp hn
  el := r.el
  loc := fun i w q => by
    rcases List.mem_append.mp q with q | q
    · exact r.loc i w q
    · simp at q
  io := r.io
theorem RepM.alloc (r : RepM K P B M ios e σ T H) {p : Addr} {o : HO} (h : H p = none) : RepM K P B M ios e σ T (upd H p o) := ⟨r.c.alloc h, r.el, r.loc, r.io⟩

/-! ### freezing -/
def frz (e : DEnv) : Res → Option (D × DEnv)
  | .fz d => some (d, e)
  | .ow d => some (d, e)
  | .loc i => match e[i]? with
    | some (some (.fz, d)) => some (d, e)
    | some (some (.ow, d)) => some (d, e.set i (some (.fz, d)))
    | _ => none
  | .junk => none
def frzAll : DEnv → List Res → Option (List D × DEnv)
  | e, [] => some ([], e)
  | e, r :: rs => match frz e r with
    | some (d, e1) => match frzAll e1 rs with
      | some (ds, e2) => some (d :: ds, e2)
      | none => none
    | none => none
theorem set_left {α : Type} {l m : List α} {i : Nat} {x : α} (h : i < l.length) : (l ++ m).set i x = l.set i x ++ m := by
  rw [List.set_append, if_pos h]
theorem set_midd {α : Type} {l m : List α} {x y : α} {n : Nat} (hn : n = l.length) : (l ++ x :: m).set n y = l ++ y :: m := by
  subst hn
  rw [List.set_append, if_neg (by omega)]
  simp
theorem mem_mid {α : Type} {l m : List α} {x y z : α} (h : z ∈ l ++ y :: m) (hne : z ≠ y) : z ∈ l ++ x :: m := by
  rcases List.mem_append.mp h with h | h
  · exact List.mem_append_left _ h
  · rcases List.mem_cons.mp h with h | h
    · exact absurd h hne
    · exact List.mem_append_right _ (List.mem_cons_of_mem _ h)
theorem RepM.freezeAt {x : Res} {v : V} {d : D} {e' : DEnv} (r : RepM K P B M ios e σ (T1 ++ (x, v) :: T2) H) (hf : frz e x = some (d, e')) :
    ∃ M', Ex M M' ∧ RepM K P B M' ios e' σ (T1 ++ (.fz d, v) :: T2) H ∧ Fz K M' d v := by
  have hT : (T1 ++ (x, v) :: T2)[T1.length]? = some (x, v) := by simp
  have hE : ∀ (y : Slot), (e ++ tE (T1 ++ (x, v) :: T2)).set (e.length + T1.length) y = e ++ (tE T1 ++ y :: tE T2) := fun y => by
    rw [tE_app, ← List.append_assoc]
    show ((e ++ tE T1) ++ tS x :: tE T2).set _ _ = _
    rw [set_midd (by simp [tE_len]), List.append_assoc]
  have hE2 : e ++ tE (T1 ++ (.fz d, v) :: T2) = e ++ (tE T1 ++ some (.fz, d) :: tE T2) := by rw [tE_app]; rfl
  have hV : ∀ (z : Res), tV (T1 ++ (z, v) :: T2) = tV (T1 ++ (x, v) :: T2) := fun z => by rw [tV_app, tV_app]; rfl
  have hloc : ∀ i w, (Res.loc i, w) ∈ T1 ++ (.fz d, v) :: T2 → σ[i]? = some (some w) := fun i w q => r.loc i w (mem_mid q (by intro z; cases z))
  cases x with
  | fz d' => cases hf; exact ⟨M, Ex.refl _, r, r.tfz (List.mem_of_getElem? hT)⟩
  | ow d' =>
    cases hf
    obtain ⟨h1, h2⟩ := r.tget hT
    obtain ⟨a, rfl, o, _, _⟩ := r.tow (List.mem_of_getElem? hT)
    obtain ⟨M', ex, r', f⟩ := r.c.freeze h1 rfl h2
    refine ⟨M', ex, ⟨?_, r.el, hloc, r.io⟩, f⟩
    rw [hE2, hV, ← hE]
    exact r'
  | loc i =>
    have hs := r.loc i v (List.mem_of_getElem? hT)
    obtain ⟨h1, h2⟩ := r.tget hT
    unfold frz at hf
    dsimp only at hf
    split at hf
    · rename_i d' q; cases hf
      obtain ⟨w, s, f⟩ := r.fzS q
      rw [hs] at s; cases s
      refine ⟨M, Ex.refl _, ⟨?_, r.el, hloc, r.io⟩, f⟩
      have := r.c.set_fz (i := e.length + T1.length) f
      rw [hE] at this
      rw [hE2, hV]
      have e2 : (σ ++ tV (T1 ++ (Res.loc i, v) :: T2)).set (e.length + T1.length) (some v) = σ ++ tV (T1 ++ (Res.loc i, v) :: T2) := set_same h2
      rw [e2] at this
      exact this
    · rename_i d' q; cases hf
      have hi := (List.getElem?_eq_some_iff.mp q).1
      obtain ⟨a, s, o, _, _⟩ := r.owS q rfl
      rw [hs] at s; cases s
      obtain ⟨M', ex, r', f⟩ := r.c.freeze (left_get q) rfl (by rw [r.sl q]; exact hs)
      rw [set_left hi] at r'
      have r2 := r'.set_fz (i := e.length + T1.length) f
      have e2 : (σ ++ tV (T1 ++ (Res.loc i, V.ref a) :: T2)).set (e.length + T1.length) (some (V.ref a)) = σ ++ tV (T1 ++ (Res.loc i, V.ref a) :: T2) := set_same h2
      have e3 : (e.set i (some (Kd.fz, d)) ++ tE (T1 ++ (Res.loc i, V.ref a) :: T2)).set (e.length + T1.length) (some (Kd.fz, d)) = e.set i (some (Kd.fz, d)) ++ tE (T1 ++ (Res.fz d, V.ref a) :: T2) := by
        rw [tE_app, tE_app, ← List.append_assoc, ← List.append_assoc]
        show ((e.set i (some (Kd.fz, d)) ++ tE T1) ++ tS (.loc i) :: tE T2).set _ _ = _
        rw [set_midd (by simp [tE_len])]
        rfl
      rw [e2, e3] at r2
      refine ⟨M', ex, ⟨?_, by simp [r.el], hloc, fun j w q' => ?_⟩, f⟩
      · rw [hV]; exact r2
      · obtain ⟨s', d'', q''⟩ := r.io j w q'
        refine ⟨s', d'', ?_⟩
        rw [List.getElem?_set]
        split
        · rename_i hij; subst hij; rw [q] at q''; cases q''
        · exact q''
    · cases hf
  | junk => cases hf
theorem RepM.freezeAll : ∀ {rs : List Res} {vs : List V} {T : Tmp} {M : Hp} {e e' : DEnv} {ds : List D}, RepM K P B M ios e σ (T ++ rs.zip vs) H → rs.length = vs.length → frzAll e rs = some (ds, e') →
    ∃ M', Ex M M' ∧ RepM K P B M' ios e' σ (T ++ (ds.map Res.fz).zip vs) H ∧ FzL K M' ds vs
  | [], [], T, M, e, e', ds, r, _, hf => by cases hf; exact ⟨M, Ex.refl _, r, .nil⟩
  | x :: rs, v :: vs, T, M, e, e', ds, r, hl, hf => by
    unfold frzAll at hf
    split at hf
    · rename_i d e1 h1
      split at hf
      · rename_i ds2 e2 h2
        cases hf
        obtain ⟨M1, x1, r1, f1⟩ := RepM.freezeAt (T1 := T) (T2 := rs.zip vs) r h1
        obtain ⟨M2, x2, r2, f2⟩ := RepM.freezeAll (T := T ++ [(.fz d, v)]) (rs := rs) (vs := vs) (by simpa using r1) (by simpa using hl) h2
        exact ⟨M2, x1.trans x2, by simpa using r2, .cons (f1.mono x2 _ _) f2⟩
      · cases hf
    · cases hf
  | [], _ :: _, T, M, e, e', ds, r, hl, hf => by simp at hl
  | _ :: _, [], T, M, e, e', ds, r, hl, hf => by simp at hl
end

/-! ### readings over data -/
abbrev DE := DEnv → (Res → DEnv → Prop) → Prop
abbrev DA := DEnv → (List Res → DEnv → Prop) → Prop
abbrev DT := DEnv → (Bool → DEnv → Prop) → Prop
def tOf (K : PySem.W.Frag) (f : DE) : TE := fun σ H Q => ∃ P B ios e T, Rep K P B ios e σ T H ∧ f e fun r e' => ∀ v H', Rep K P B ios e' σ (T ++ [(r, v)]) H' → Q v H'
def aOf (K : PySem.W.Frag) (f : DA) : TA := fun σ H Q => ∃ P B ios e T, Rep K P B ios e σ T H ∧ f e fun rs e' => ∀ vs H', rs.length = vs.length → Rep K P B ios e' σ (T ++ rs.zip vs) H' → Q vs H'
def ttOf (K : PySem.W.Frag) (f : DT) : TT := fun σ H Q => ∃ P B ios e T, Rep K P B ios e σ T H ∧ f e fun b e' => ∀ H', Rep K P B ios e' σ T H' → Q b H'
theorem pe_imp {X : Cx} {e : Expr} {t t' : TE} (h : PE X e t) (i : ∀ σ H Q, t' σ H Q → t σ H Q) : PE X e t' := ⟨fun pins s σ H Q I q => h.run pins s σ H Q I (i _ _ _ q)⟩
theorem pa_imp {X : Cx} {e : List Expr} {t t' : TA} (h : PA X e t) (i : ∀ σ H Q, t' σ H Q → t σ H Q) : PA X e t' := ⟨fun pos pins s σ H Q I q => h.run pos pins s σ H Q I (i _ _ _ q)⟩
theorem pt_imp {X : Cx} {e : Expr} {t t' : TT} (h : PT X e t) (i : ∀ σ H Q, t' σ H Q → t σ H Q) : PT X e t' := ⟨fun pins s σ H Q I q => h.run pins s σ H Q I (i _ _ _ q)⟩
theorem pw_imp {X : Cx} {e : Expr} {t t' : TT} (h : PW X e t) (i : ∀ σ H Q, t' σ H Q → t σ H Q) : PW X e t' := ⟨fun wh pins s σ H Q I q => h.run wh pins s σ H Q I (i _ _ _ q)⟩

structure FE (X : Cx) (e : Expr) (f : DE) : Prop where
  pe : PE X e (tOf X.K f)
  mono : ∀ e Q Q', (∀ r e', Q r e' → Q' r e') → f e Q → f e Q'
structure FA (X : Cx) (e : List Expr) (f : DA) : Prop where
  pa : PA X e (aOf X.K f)
  mono : ∀ e Q Q', (∀ r e', Q r e' → Q' r e') → f e Q → f e Q'
structure FT (X : Cx) (e : Expr) (f : DT) : Prop where
  pt : PT X e (ttOf X.K f)
  mono : ∀ e Q Q', (∀ r e', Q r e' → Q' r e') → f e Q → f e Q'
structure FW (X : Cx) (e : Expr) (f : DT) : Prop where
  pw : PW X e (ttOf X.K f)
  mono : ∀ e Q Q', (∀ r e', Q r e' → Q' r e') → f e Q → f e Q'
theorem FW.ft {X : Cx} {e : Expr} {f : DT} (h : FW X e f) : FT X e f := ⟨h.pw.pt, h.mono⟩

section
variable {X : Cx} {a b c : Expr} {es : List Expr} {fa fb fc : DE} {pos : Pos}
/-! ### names, constants -/
def rVar (i : Nat) : Kd × D → Res
  | (.fz, d) => .fz d
  | _ => .loc i
def wVar (i : Nat) : DE := fun e Q => match e[i]? with
  | some (some x) => Q (rVar i x) e
  | _ => False
theorem fe_var {i : Nat} (h : PE X a (tVar i)) : FE X a (wVar i) := by
  refine ⟨pe_imp h ?_, ?_⟩
  · rintro σ H Q ⟨P, B, ios, e, T, ⟨M, r⟩, w⟩
    unfold wVar at w
    split at w
    · rename_i x q
      obtain ⟨k, d⟩ := x
      cases k with
      | fz =>
        obtain ⟨v, s, f⟩ := r.fzS q
        exact ⟨v, s, w v H ⟨M, r.push_fz f⟩⟩
      | ow => obtain ⟨a, s, _⟩ := r.owS q rfl; exact ⟨_, s, w _ H ⟨M, r.push_loc s⟩⟩
      | io => obtain ⟨a, s, _⟩ := r.owS q rfl; exact ⟨_, s, w _ H ⟨M, r.push_loc s⟩⟩
      | sc => obtain ⟨a, n, s, _⟩ := r.scS q; exact ⟨_, s, w _ H ⟨M, r.push_loc s⟩⟩
    · exact w.elim
  · intro e Q Q' h w
    unfold wVar at w ⊢
    split
    · rename_i x q; rw [q] at w; exact h _ _ w
    · rename_i h1
      split at w
      · rename_i x q; exact absurd q (h1 x)
      · exact w
def wC (d : D) : DE := fun e Q => Q (.fz d) e
theorem fe_c {v : V} {d : D} (h : PE X a (tC v)) (hd : ∀ M, Fz X.K M d v) : FE X a (wC d) := by
  refine ⟨pe_imp h ?_, fun e Q Q' h w => h _ _ w⟩
  rintro σ H Q ⟨P, B, ios, e, T, ⟨M, r⟩, w⟩
  exact w v H ⟨M, r.push_fz (hd M)⟩
theorem fe_int {i : Int} {j : Nat} : FE X (.Constant (.int i) j pos) (wC (.int i)) := fe_c pe_int fun _ => by simp [Fz]
theorem fe_bl {i : Bool} {j : Nat} : FE X (.Constant (.bool i) j pos) (wC (.bool i)) := fe_c pe_bl fun _ => by simp [Fz]
theorem fe_str {i : Str} {j : Nat} : FE X (.Constant (.str i) j pos) (wC (.str i)) := fe_c pe_str fun _ => by simp [Fz]
theorem fe_non {j : Nat} : FE X (.Constant .none j pos) (wC .none) := fe_c pe_non fun _ => by simp [Fz]

/-! ### argument lists, displays -/
def wNil : DA := fun e Q => Q [] e
def wCons (f : DE) (g : DA) : DA := fun e Q => f e fun r e1 => g e1 fun rs e2 => Q (r :: rs) e2
theorem fa_nil : FA X [] wNil := by
  refine ⟨pa_imp pa_nil ?_, fun e Q Q' h w => h _ _ w⟩
  rintro σ H Q ⟨P, B, ios, e, T, r, w⟩
  exact w [] H rfl (by simpa using r)
theorem fa_cons {f : DE} {g : DA} (ha : FE X a f) (hr : FA X es g) (hs : starEach (a :: es) X.env = (false, eval a X.env) :: starEach es X.env := by rfl) : FA X (a :: es) (wCons f g) := by
  refine ⟨pa_imp (pa_cons ha.pe hr.pa hs) ?_, fun e Q Q' h w => ha.mono _ _ _ (fun r e1 w1 => hr.mono _ _ _ (fun rs e2 w2 => h _ _ w2) w1) w⟩
  rintro σ H Q ⟨P, B, ios, e, T, r, w⟩
  refine ⟨P, B, ios, e, T, r, ha.mono _ _ _ (fun r1 e1 w1 v H1 h1 => ?_) w⟩
  refine ⟨P, B, ios, e1, T ++ [(r1, v)], h1, hr.mono _ _ _ (fun rs e2 w2 vs H2 hl h2 => ?_) w1⟩
  exact w2 (v :: vs) H2 (by simp [hl]) (by simpa using h2)

theorem zip_left {α β : Type} : ∀ {l : List α} {m : List β}, l.length = m.length → (l.zip m).length = l.length
  | l, m, h => by rw [List.length_zip, h]; simp

/-! ### what an operation gives -/
inductive Out
  | val (d : D)
  | new (d : D)
  | tup (ds : List D)
def Out.res : Out → Res
  | .val d => .fz d
  | .new d => .ow d
  | .tup ds => .fz (.tuple ds)
def Gives (K : PySem.W.Frag) (M H : Hp) (Q : VK) : Out → Prop
  | .val d => ∀ v, Fz K M d v → Q v H
  | .new d => ∀ p o, H p = none → OwnAt K M (upd H p o) d p → Q (.ref p) (upd H p o)
  | .tup ds => (∀ v, Fz K M (.tuple ds) v → Q v H) ∧ ∀ p vs, H p = none → FzL K M ds vs → Q (.ref p) (upd H p (.tup vs))
theorem RepM.grow {K : PySem.W.Frag} {P B M : Hp} {ios : List (Nat × V)} {e : DEnv} {σ : L2.St} {T : Tmp} {H : Hp} {p : Addr} {o : HO} (r : RepM K P B M ios e σ T H) (hp : H p = none) : RepM K P B (upd M p o) ios e σ T (upd H p o) := by
  refine ⟨?_, r.el, r.loc, r.io⟩
  refine (r.c.alloc hp).grow upd_same (r.c.ph.none hp) (fun i k d q hk => ?_) (r.mh.none hp)
  intro z
  exact r.c.ne_new hp q hk z
theorem gives_of {K : PySem.W.Frag} {P B M : Hp} {ios : List (Nat × V)} {e : DEnv} {σ : L2.St} {T : Tmp} {H : Hp} {Q : VK} {o : Out} (r : RepM K P B M ios e σ T H) (q : ∀ v H', Rep K P B ios e σ (T ++ [(o.res, v)]) H' → Q v H') : Gives K M H Q o := by
  cases o with
  | val d => intro v f; exact q v H ⟨M, r.push_fz f⟩
  | new d =>
    intro p o hp ow
    refine q (.ref p) _ ⟨M, (r.alloc hp).push_ow ow (r.mh.none hp) (r.c.ph.none hp) fun i k d' h hk => ?_⟩
    exact r.c.ne_new hp h hk
  | tup ds =>
    refine ⟨fun v f => q v H ⟨M, r.push_fz f⟩, ?_⟩
    intro p vs hp f
    refine q (.ref p) _ ⟨_, (r.grow hp).push_fz ?_⟩
    show Fz K (upd M p (.tup vs)) (.tuple ds) (.ref p)
    simp only [Fz]
    exact ⟨p, vs, rfl, .inl (.inl upd_same), f.mono (Ex.updN (r.mh.none hp))⟩

/-! ### displays -/
def wTup (g : DA) : DE := fun e Q => g e fun rs e1 => rs.length ≤ 1000 ∧ ∃ ds e2, frzAll e1 rs = some (ds, e2) ∧ Q (.fz (.tuple ds)) e2
def wLst (g : DA) : DE := fun e Q => g e fun rs e1 => rs.length ≤ 1000 ∧ ∃ ds e2, frzAll e1 rs = some (ds, e2) ∧ Q (.ow (.list ds)) e2
theorem le_line {n : Nat} (h : n ≤ 1000) : n ≤ sizeLine := Nat.le_trans h (by decide)
theorem fe_tup {g : DA} {x1} (h : FA X es g) : FE X (.Tuple es x1 pos) (wTup g) := by
  refine ⟨pe_imp (pe_tup h.pa) ?_, fun e Q Q' hq w => h.mono _ _ _ (fun rs e1 w1 => let ⟨l, ds, e2, w2, w3⟩ := w1; ⟨l, ds, e2, w2, hq _ _ w3⟩) w⟩
  rintro σ H Q ⟨P, B, ios, e, T, r, w⟩
  refine ⟨P, B, ios, e, T, r, h.mono _ _ _ (fun rs e1 w1 vs H1 hl h1 => ?_) w⟩
  obtain ⟨l, ds, e2, hf, w2⟩ := w1
  obtain ⟨M, h1⟩ := h1
  obtain ⟨M2, _, r2, f2⟩ := h1.freezeAll hl hf
  exact ⟨le_line (by omega), fun p hp => (gives_of (o := .tup ds) r2.popN (fun v H' q => w2 v H' q)).2 p vs hp f2⟩
theorem fe_lst {g : DA} (h : FA X es g) : FE X (.List es pos) (wLst g) := by
  refine ⟨pe_imp (pe_lst h.pa) ?_, fun e Q Q' hq w => h.mono _ _ _ (fun rs e1 w1 => let ⟨l, ds, e2, w2, w3⟩ := w1; ⟨l, ds, e2, w2, hq _ _ w3⟩) w⟩
  rintro σ H Q ⟨P, B, ios, e, T, r, w⟩
  refine ⟨P, B, ios, e, T, r, h.mono _ _ _ (fun rs e1 w1 vs H1 hl h1 => ?_) w⟩
  obtain ⟨l, ds, e2, hf, w2⟩ := w1
  obtain ⟨M, h1⟩ := h1
  obtain ⟨M2, _, r2, f2⟩ := h1.freezeAll hl hf
  exact ⟨le_line (by omega), fun p hp => gives_of (o := .new (.list ds)) r2.popN (fun v H' q => w2 v H' q) p _ hp ⟨vs, upd_same, f2⟩⟩

/-! ### operators -/
structure Op2 (K : PySem.W.Frag) (r : R2) (g : D → D → (Out → Prop) → Prop) : Prop where
  run : ∀ M H d1 d2 x y Q, Ex M H → Vw K M H d1 x → Vw K M H d2 y → g d1 d2 (Gives K M H Q) → r x y H Q
  mono : ∀ d1 d2 Q Q', (∀ o, Q o → Q' o) → g d1 d2 Q → g d1 d2 Q'
def w2 (g : D → D → (Out → Prop) → Prop) (fa fb : DE) : DE := fun e Q => fa e fun r1 e1 => fb e1 fun r2 e2 => ∃ d1 d2, look e2 r1 = some d1 ∧ look e2 r2 = some d2 ∧ g d1 d2 fun o => Q o.res e2
theorem w2_mono {r : R2} {g : D → D → (Out → Prop) → Prop} (hg : Op2 X.K r g) (ha : FE X a fa) (hb : FE X b fb) : ∀ e Q Q', (∀ r e', Q r e' → Q' r e') → w2 g fa fb e Q → w2 g fa fb e Q' :=
  fun e Q Q' h w => ha.mono _ _ _ (fun r1 e1 w1 => hb.mono _ _ _ (fun r2 e2 ⟨d1, d2, l1, l2, w3⟩ => ⟨d1, d2, l1, l2, hg.mono _ _ _ _ (fun o q => h _ _ q) w3⟩) w1) w
theorem w2_run {r : R2} {g : D → D → (Out → Prop) → Prop} (hg : Op2 X.K r g) (ha : FE X a fa) (hb : FE X b fb) (σ : L2.St) (H : Hp) (Q : VK) : tOf X.K (w2 g fa fb) σ H Q → tOp r (tOf X.K fa) (tOf X.K fb) σ H Q := by
  rintro ⟨P, B, ios, e, T, h, w⟩
  refine ⟨P, B, ios, e, T, h, ha.mono _ _ _ (fun r1 e1 w1 x H1 h1 => ?_) w⟩
  refine ⟨P, B, ios, e1, _, h1, hb.mono _ _ _ (fun r2 e2 w2 y H2 h2 => ?_) w1⟩
  obtain ⟨d1, d2, l1, l2, w3⟩ := w2
  obtain ⟨M2, h2⟩ := h2
  refine hg.run M2 H2 d1 d2 x y Q h2.mh (h2.view (by simp) l1) (h2.view (by simp) l2) (hg.mono _ _ _ _ (fun o q => ?_) w3)
  exact gives_of h2.popN.popN q
theorem fe_op {op : Operator} {r : R2} {g : D → D → (Out → Prop) → Prop} (ho : OpR X (binaryOp op) r) (hg : Op2 X.K r g) (ha : FE X a fa) (hb : FE X b fb) : FE X (.BinOp a op b pos) (w2 g fa fb) :=
  ⟨pe_imp (pe_op ho ha.pe hb.pe) (w2_run hg ha hb), w2_mono hg ha hb⟩
theorem fe_cmp {op : CmpOp} {r : R2} {g : D → D → (Out → Prop) → Prop} (ho : OpR X (compareOp op) r) (hg : Op2 X.K r g) (ha : FE X a fa) (hb : FE X b fb) (hm : behindInMarks op b = false) : FE X (.Compare a [op] [b] pos) (w2 g fa fb) :=
  ⟨pe_imp (pe_cmpR ho ha.pe hb.pe hm) (w2_run hg ha hb), w2_mono hg ha hb⟩
/-- a reading whose answer is a bool, as a test -/
def wT (f : DE) : DT := fun e Q => f e fun r e' => ∃ b, r = .fz (.bool b) ∧ Q b e'
theorem wT_mono {f : DE} (hf : ∀ e Q Q', (∀ r e', Q r e' → Q' r e') → f e Q → f e Q') : ∀ e Q Q', (∀ r e', Q r e' → Q' r e') → wT f e Q → wT f e Q' :=
  fun e Q Q' h w => hf _ _ _ (fun r e' ⟨b, h1, h2⟩ => ⟨b, h1, h _ _ h2⟩) w
theorem wT_run {f : DE} (hf : ∀ e Q Q', (∀ r e', Q r e' → Q' r e') → f e Q → f e Q') {t : TE} (ht : ∀ σ H Q, tOf X.K f σ H Q → t σ H Q) (σ : L2.St) (H : Hp) (Q : Bool → Hp → Prop) : ttOf X.K (wT f) σ H Q → tTest t σ H Q := by
  rintro ⟨P, B, ios, e, T, h, w⟩
  refine ht _ _ _ ⟨P, B, ios, e, T, h, hf _ _ _ (fun r e' w1 v H1 h1 => ?_) w⟩
  obtain ⟨b, rfl, w2⟩ := w1
  obtain ⟨M, h1⟩ := h1
  have f := h1.tfz (d := .bool b) (v := v) (by simp)
  simp only [Fz] at f
  exact ⟨b, f, w2 H1 ⟨M, h1.popN⟩⟩
theorem ft_cmp {op : CmpOp} {r : R2} {g : D → D → (Out → Prop) → Prop} (ho : OpR X (compareOp op) r) (hg : Op2 X.K r g) (ha : FE X a fa) (hb : FE X b fb) (hm : behindInMarks op b = false) : FT X (.Compare a [op] [b] pos) (wT (w2 g fa fb)) :=
  ⟨pt_imp (pt_cmpR ho ha.pe hb.pe hm) (wT_run (w2_mono hg ha hb) (w2_run hg ha hb)), wT_mono (w2_mono hg ha hb)⟩
/-- an expression that gives a bool, as a test -/
theorem ft_val (h : FE X a fa) (he : ∀ whole, isTrue a X.env whole = (do let v ← whole; standAt a.pos; holding [v] (truthy v)) := by intro _; rfl) : FT X a (wT fa) :=
  ⟨pt_imp (pt_val h.pe he) (wT_run (t := tOf X.K fa) h.mono fun _ _ _ q => q), wT_mono h.mono⟩

/-! ### truth -/
def truth : D → Bool
  | .none => false
  | .bool b => b
  | .int i => i != 0
  | .str s => (s.length : Int) != 0
  | .list ds => !ds.isEmpty
  | .tuple ds => !ds.isEmpty
  | .dict kds => !kds.isEmpty
end
end PL
set_option Elab.async false
set_option linter.all false
set_option autoImplicit false
set_option maxRecDepth 100000
set_option maxHeartbeats 4000000
/-! PLc: chains, truth, and, or, not, if; subscripts, slices; calls of built-ins; methods that read; methods that change. -/
namespace PL
open PySem PySem.Spec PyProof.Rows L2

section
variable {X : Cx} {a b c : Expr} {es : List Expr} {fa fb fc : DE} {pos : Pos}
theorem fzb {K : PySem.W.Frag} {M : Hp} {b : Bool} {v : V} : Fz K M (.bool b) v ↔ v = .bl b := by simp [Fz]
theorem fzi {K : PySem.W.Frag} {M : Hp} {b : Int} {v : V} : Fz K M (.int b) v ↔ v = .int b := by simp [Fz]
theorem fzs {K : PySem.W.Frag} {M : Hp} {b : Str} {v : V} : Fz K M (.str b) v ↔ v = .str b := by simp [Fz]
theorem fzn {K : PySem.W.Frag} {M : Hp} {v : V} : Fz K M .none v ↔ v = .non := by simp [Fz]

theorem vwb {K : PySem.W.Frag} {M H : Hp} {b : Bool} {v : V} : Vw K M H (.bool b) v ↔ v = .bl b := by simp [Vw, Fz]
theorem vwi {K : PySem.W.Frag} {M H : Hp} {b : Int} {v : V} : Vw K M H (.int b) v ↔ v = .int b := by simp [Vw, Fz]
theorem vws {K : PySem.W.Frag} {M H : Hp} {b : Str} {v : V} : Vw K M H (.str b) v ↔ v = .str b := by simp [Vw, Fz]
theorem vwn {K : PySem.W.Frag} {M H : Hp} {v : V} : Vw K M H .none v ↔ v = .non := by simp [Vw, Fz]

/-! ### chains -/
def wChain (g g' : D → D → (Out → Prop) → Prop) (fa fb fc : DE) : DE := fun e Q => fa e fun r1 e1 => fb e1 fun r2 e2 => ∃ d1 d2, look e2 r1 = some d1 ∧ look e2 r2 = some d2 ∧ g d1 d2 fun o => ∃ k, o = .val (.bool k) ∧
  if k = true then fc e2 fun r3 e3 => ∃ d2 d3, look e3 r2 = some d2 ∧ look e3 r3 = some d3 ∧ g' d2 d3 fun o => Q o.res e3 else Q (.fz (.bool false)) e2
theorem wChain_mono {r r' : R2} {g g' : D → D → (Out → Prop) → Prop} (hg : Op2 X.K r g) (hg' : Op2 X.K r' g') (ha : FE X a fa) (hb : FE X b fb) (hc : FE X c fc) : ∀ e Q Q', (∀ r e', Q r e' → Q' r e') → wChain g g' fa fb fc e Q → wChain g g' fa fb fc e Q' :=
  fun e Q Q' h w => by
    refine ha.mono _ _ _ (fun r1 e1 w1 => hb.mono _ _ _ (fun r2 e2 w2 => ?_) w1) w
    obtain ⟨d1, d2, l1, l2, w3⟩ := w2
    refine ⟨d1, d2, l1, l2, hg.mono _ _ _ _ (fun o q => ?_) w3⟩
    obtain ⟨k, q1, q2⟩ := q
    refine ⟨k, q1, ?_⟩
    cases k with
    | true =>
      refine iteT (hc.mono _ _ _ (fun r3 e3 w4 => ?_) ((if_pos (rfl : true = true)).mp q2))
      obtain ⟨d2, d3, l2, l3, w4⟩ := w4
      exact ⟨d2, d3, l2, l3, hg'.mono _ _ _ _ (fun o q => h _ _ q) w4⟩
    | false => exact iteF (h _ _ (by simpa using q2))
theorem wChain_run {r r' : R2} {g g' : D → D → (Out → Prop) → Prop} (hg : Op2 X.K r g) (hg' : Op2 X.K r' g') (ha : FE X a fa) (hb : FE X b fb) (hc : FE X c fc) (σ : L2.St) (H : Hp) (Q : VK) :
    tOf X.K (wChain g g' fa fb fc) σ H Q → tChain r r' (tOf X.K fa) (tOf X.K fb) (tOf X.K fc) σ H Q := by
  rintro ⟨P, B, ios, e, T, h, w⟩
  refine ⟨P, B, ios, e, T, h, ha.mono _ _ _ (fun r1 e1 w1 x H1 h1 => ?_) w⟩
  refine ⟨P, B, ios, e1, _, h1, hb.mono _ _ _ (fun r2 e2 w2 y H2 h2 => ?_) w1⟩
  obtain ⟨d1, d2, l1, l2, w3⟩ := w2
  obtain ⟨M2, h2⟩ := h2
  refine hg.run M2 H2 d1 d2 x y _ h2.mh (h2.view (by simp) l1) (h2.view (by simp) l2) (hg.mono _ _ _ _ (fun o q => ?_) w3)
  obtain ⟨k, rfl, q2⟩ := q
  intro v hv
  rw [fzb] at hv
  subst hv
  refine ⟨k, rfl, ?_⟩
  cases k with
  | false =>
    refine iteF ?_
    have q3 : ∀ v H', Rep X.K P B ios e2 σ (T ++ [(.fz (.bool false), v)]) H' → Q v H' := by simpa using q2
    exact q3 _ H2 ⟨M2, h2.popN.popN.push_fz (fzb.mpr rfl)⟩
  | true =>
    refine iteT ?_
    have q3 := (if_pos (rfl : true = true)).mp q2
    refine ⟨P, B, ios, e2, _, ⟨M2, h2⟩, hc.mono _ _ _ (fun r3 e3 w4 z H3 h3 => ?_) q3⟩
    obtain ⟨d2', d3, l2', l3, w4⟩ := w4
    obtain ⟨M3, h3⟩ := h3
    refine hg'.run M3 H3 d2' d3 y z Q h3.mh (h3.view (by simp) l2') (h3.view (by simp) l3) (hg'.mono _ _ _ _ (fun o q => ?_) w4)
    exact gives_of h3.popN.popN.popN q
theorem fe_chain {op op' : CmpOp} {r r' : R2} {g g' : D → D → (Out → Prop) → Prop} (ho : OpR X (compareOp op) r) (ho' : OpR X (compareOp op') r') (hg : Op2 X.K r g) (hg' : Op2 X.K r' g') (ha : FE X a fa) (hb : FE X b fb) (hc : FE X c fc)
    (hm : lastMarks [op, op'] [b, c] = false := by with_unfolding_all rfl) : FE X (.Compare a [op, op'] [b, c] pos) (wChain g g' fa fb fc) :=
  ⟨pe_imp (pe_chain ho ho' ha.pe hb.pe hc.pe hm) (wChain_run hg hg' ha hb hc), wChain_mono hg hg' ha hb hc⟩
theorem ft_chain {op op' : CmpOp} {r r' : R2} {g g' : D → D → (Out → Prop) → Prop} (ho : OpR X (compareOp op) r) (ho' : OpR X (compareOp op') r') (hg : Op2 X.K r g) (hg' : Op2 X.K r' g') (ha : FE X a fa) (hb : FE X b fb) (hc : FE X c fc)
    (hm : lastMarks [op, op'] [b, c] = false := by with_unfolding_all rfl) : FT X (.Compare a [op, op'] [b, c] pos) (wT (wChain g g' fa fb fc)) :=
  ⟨pt_imp (pt_chain ho ho' ha.pe hb.pe hc.pe hm) (wT_run (wChain_mono hg hg' ha hb hc) (wChain_run hg hg' ha hb hc)), wT_mono (wChain_mono hg hg' ha hb hc)⟩

/-! ### truth -/
def truOk : D → Prop
  | .str s => s.length ≤ 100000
  | .dict _ => False
  | _ => True
theorem tru_of {K : PySem.W.Frag} {M H : Hp} {d : D} {v : V} (e : Ex M H) (h : Vw K M H d v) (ok : truOk d) : TruV K v H (truth d) := by
  cases d with
  | none => cases vwn.mp h; rfl
  | bool b => cases vwb.mp h; rfl
  | int i => cases vwi.mp h; rfl
  | str s => cases vws.mp h; exact ⟨Nat.le_trans ok (by decide), rfl⟩
  | list ds =>
    obtain ⟨p, vs, rfl, r, f⟩ := h
    refine .inl ⟨vs, .inl (.inl r), ?_⟩
    cases ds with
    | nil => simp only [FzL] at f; subst f; rfl
    | cons => simp only [FzL] at f; obtain ⟨v, r, rfl, _⟩ := f; rfl
  | tuple ds =>
    have h : Fz K M (.tuple ds) v := h
    simp only [Fz] at h
    obtain ⟨p, vs, rfl, r, f⟩ := h
    refine .inr (.inl ⟨vs, e.t r, ?_⟩)
    cases ds with
    | nil => simp only [FzL] at f; subst f; rfl
    | cons => simp only [FzL] at f; obtain ⟨v, r, rfl, _⟩ := f; rfl
  | dict => exact ok.elim
def wTru (fa : DE) : DT := fun e Q => fa e fun r e1 => ∃ d, look e1 r = some d ∧ truOk d ∧ Q (truth d) e1
theorem ft_truth (ha : FE X a fa) (he : ∀ whole, isTrue a X.env whole = (do let v ← whole; standAt a.pos; holding [v] (truthy v)) := by intro _; rfl) : FT X a (wTru fa) := by
  refine ⟨pt_imp (pt_truth ha.pe he) ?_, fun e Q Q' h w => ha.mono _ _ _ (fun r e1 ⟨d, l, o, q⟩ => ⟨d, l, o, h _ _ q⟩) w⟩
  rintro σ H Q ⟨P, B, ios, e, T, h, w⟩
  refine ⟨P, B, ios, e, T, h, ha.mono _ _ _ (fun r1 e1 w1 x H1 h1 => ?_) w⟩
  obtain ⟨d, l, o, q⟩ := w1
  obtain ⟨M, h1⟩ := h1
  exact ⟨_, tru_of h1.mh (h1.view (by simp) l) o, q H1 ⟨M, h1.popN⟩⟩

/-! ### and, or, not, if -/
variable {ta tb : DT} {rest : List Expr}
def wAndT (f g : DT) : DT := fun e Q => f e fun k e1 => if k = true then g e1 Q else Q false e1
def wOrT (f g : DT) : DT := fun e Q => f e fun k e1 => if k = true then Q true e1 else g e1 Q
def wNotT (f : DT) : DT := fun e Q => f e fun k e1 => Q (!k) e1
theorem fw_and1 (ha : FT X a ta) : FW X (.BoolOp .And [a] pos) ta := ⟨pw_and1 ha.pt, ha.mono⟩
theorem fw_or1 (ha : FT X a ta) : FW X (.BoolOp .Or [a] pos) ta := ⟨pw_or1 ha.pt, ha.mono⟩
theorem fw_and (ha : FT X a ta) (hb : FW X (.BoolOp .And (b :: rest) pos) tb) : FW X (.BoolOp .And (a :: b :: rest) pos) (wAndT ta tb) := by
  refine ⟨pw_imp (pw_and ha.pt hb.pw) ?_, fun e Q Q' h w => ha.mono _ _ _ (fun k e1 w1 => ?_) w⟩
  · rintro σ H Q ⟨P, B, ios, e, T, h, w⟩
    refine ⟨P, B, ios, e, T, h, ha.mono _ _ _ (fun k e1 w1 H1 h1 => ?_) w⟩
    cases k with
    | true => exact iteT ⟨P, B, ios, e1, T, h1, (if_pos (rfl : true = true)).mp w1⟩
    | false => exact iteF ((show (∀ H', Rep X.K P B ios e1 σ T H' → Q false H') by simpa using w1) H1 h1)
  · cases k with
    | true => exact iteT (hb.mono _ _ _ h (by simpa using w1))
    | false => exact iteF (h _ _ (by simpa using w1))
theorem fw_or (ha : FT X a ta) (hb : FW X (.BoolOp .Or (b :: rest) pos) tb) : FW X (.BoolOp .Or (a :: b :: rest) pos) (wOrT ta tb) := by
  refine ⟨pw_imp (pw_or ha.pt hb.pw) ?_, fun e Q Q' h w => ha.mono _ _ _ (fun k e1 w1 => ?_) w⟩
  · rintro σ H Q ⟨P, B, ios, e, T, h, w⟩
    refine ⟨P, B, ios, e, T, h, ha.mono _ _ _ (fun k e1 w1 H1 h1 => ?_) w⟩
    cases k with
    | false => exact iteF ⟨P, B, ios, e1, T, h1, by simpa using w1⟩
    | true => exact iteT ((show (∀ H', Rep X.K P B ios e1 σ T H' → Q true H') by simpa using w1) H1 h1)
  · cases k with
    | false => exact iteF (hb.mono _ _ _ h (by simpa using w1))
    | true => exact iteT (h _ _ (by simpa using w1))
theorem ft_not (ha : FT X a ta) : FT X (.UnaryOp .Not a pos) (wNotT ta) := by
  refine ⟨pt_imp (pt_not ha.pt) ?_, fun e Q Q' h w => ha.mono _ _ _ (fun k e1 w1 => h _ _ w1) w⟩
  rintro σ H Q ⟨P, B, ios, e, T, h, w⟩
  exact ⟨P, B, ios, e, T, h, w⟩
/-- as values: the operand itself is what comes out -/
def wAndV (f g : DE) : DE := fun e Q => f e fun r e1 => ∃ d, look e1 r = some d ∧ truOk d ∧ if truth d = true then g e1 Q else Q r e1
def wOrV (f g : DE) : DE := fun e Q => f e fun r e1 => ∃ d, look e1 r = some d ∧ truOk d ∧ if truth d = true then Q r e1 else g e1 Q
theorem fe_one {op : BoolOp} (ha : FE X a fa) : FE X (.BoolOp op [a] pos) fa := ⟨pe_one ha.pe, ha.mono⟩
theorem fe_and (ha : FE X a fa) (hb : FE X (.BoolOp .And (b :: rest) pos) fb) : FE X (.BoolOp .And (a :: b :: rest) pos) (wAndV fa fb) := by
  refine ⟨pe_imp (pe_andT ha.pe hb.pe) ?_, fun e Q Q' h w => ha.mono _ _ _ (fun r e1 ⟨d, l, o, w1⟩ => ⟨d, l, o, ?_⟩) w⟩
  · rintro σ H Q ⟨P, B, ios, e, T, h, w⟩
    refine ⟨P, B, ios, e, T, h, ha.mono _ _ _ (fun r e1 w1 x H1 h1 => ?_) w⟩
    obtain ⟨d, l, o, w1⟩ := w1
    obtain ⟨M, h1⟩ := h1
    refine ⟨truth d, tru_of h1.mh (h1.view (by simp) l) o, ?_⟩
    by_cases hd : truth d = true
    · rw [if_pos hd] at w1 ⊢
      exact ⟨P, B, ios, e1, T, ⟨M, h1.popN⟩, w1⟩
    · rw [if_neg hd] at w1 ⊢
      exact w1 x H1 ⟨M, h1⟩
  · by_cases hd : truth d = true
    · rw [if_pos hd] at w1 ⊢; exact hb.mono _ _ _ h w1
    · rw [if_neg hd] at w1 ⊢; exact h _ _ w1
theorem fe_or (ha : FE X a fa) (hb : FE X (.BoolOp .Or (b :: rest) pos) fb) : FE X (.BoolOp .Or (a :: b :: rest) pos) (wOrV fa fb) := by
  refine ⟨pe_imp (pe_orT ha.pe hb.pe) ?_, fun e Q Q' h w => ha.mono _ _ _ (fun r e1 ⟨d, l, o, w1⟩ => ⟨d, l, o, ?_⟩) w⟩
  · rintro σ H Q ⟨P, B, ios, e, T, h, w⟩
    refine ⟨P, B, ios, e, T, h, ha.mono _ _ _ (fun r e1 w1 x H1 h1 => ?_) w⟩
    obtain ⟨d, l, o, w1⟩ := w1
    obtain ⟨M, h1⟩ := h1
    refine ⟨truth d, tru_of h1.mh (h1.view (by simp) l) o, ?_⟩
    by_cases hd : truth d = true
    · rw [if_pos hd] at w1 ⊢
      exact w1 x H1 ⟨M, h1⟩
    · rw [if_neg hd] at w1 ⊢
      exact ⟨P, B, ios, e1, T, ⟨M, h1.popN⟩, w1⟩
  · by_cases hd : truth d = true
    · rw [if_pos hd] at w1 ⊢; exact h _ _ w1
    · rw [if_neg hd] at w1 ⊢; exact hb.mono _ _ _ h w1
def wNotV (f : DE) : DE := fun e Q => f e fun r e1 => ∃ d, look e1 r = some d ∧ truOk d ∧ Q (.fz (.bool (!truth d))) e1
theorem fe_not (ha : FE X a fa) : FE X (.UnaryOp .Not a pos) (wNotV fa) := by
  refine ⟨pe_imp (pe_notT ha.pe) ?_, fun e Q Q' h w => ha.mono _ _ _ (fun r e1 ⟨d, l, o, w1⟩ => ⟨d, l, o, h _ _ w1⟩) w⟩
  rintro σ H Q ⟨P, B, ios, e, T, h, w⟩
  refine ⟨P, B, ios, e, T, h, ha.mono _ _ _ (fun r e1 w1 x H1 h1 => ?_) w⟩
  obtain ⟨d, l, o, w1⟩ := w1
  obtain ⟨M, h1⟩ := h1
  exact ⟨truth d, tru_of h1.mh (h1.view (by simp) l) o, w1 _ H1 ⟨M, h1.popN.push_fz (fzb.mpr rfl)⟩⟩
def wIfE (t : DT) (f g : DE) : DE := fun e Q => t e fun k e1 => if k = true then f e1 Q else g e1 Q
theorem fe_if (hc : FT X c ta) (ha : FE X a fa) (hb : FE X b fb) : FE X (.IfExp c a b pos) (wIfE ta fa fb) := by
  refine ⟨pe_imp (pe_ifExp hc.pt ha.pe hb.pe) ?_, fun e Q Q' h w => hc.mono _ _ _ (fun k e1 w1 => ?_) w⟩
  · rintro σ H Q ⟨P, B, ios, e, T, h, w⟩
    refine ⟨P, B, ios, e, T, h, hc.mono _ _ _ (fun k e1 w1 H1 h1 => ?_) w⟩
    cases k with
    | true => exact iteT ⟨P, B, ios, e1, T, h1, (if_pos (rfl : true = true)).mp w1⟩
    | false => exact iteF ⟨P, B, ios, e1, T, h1, by simpa using w1⟩
  · cases k with
    | true => exact iteT (ha.mono _ _ _ h (by simpa using w1))
    | false => exact iteF (hb.mono _ _ _ h (by simpa using w1))
/-! ### -x -/
def wNeg (f : DE) : DE := fun e Q => f e fun r e1 => ∃ i, look e1 r = some (.int i) ∧ Q (.fz (.int (-i))) e1
theorem fe_neg (ha : FE X a fa) : FE X (.UnaryOp .USub a pos) (wNeg fa) := by
  refine ⟨pe_imp (pe_un un_neg ha.pe) ?_, fun e Q Q' h w => ha.mono _ _ _ (fun r e1 ⟨d, l, w1⟩ => ⟨d, l, h _ _ w1⟩) w⟩
  rintro σ H Q ⟨P, B, ios, e, T, h, w⟩
  refine ⟨P, B, ios, e, T, h, ha.mono _ _ _ (fun r e1 w1 x H1 h1 => ?_) w⟩
  obtain ⟨d, l, w1⟩ := w1
  obtain ⟨M, h1⟩ := h1
  have hv : x = .int d := fzi.mp (show Fz X.K M (.int d) x from h1.view (v := x) (by simp) l)
  exact ⟨d, hv, w1 _ H1 ⟨M, h1.popN.push_fz (fzi.mpr rfl)⟩⟩

/-! ### subscripts -/
theorem fe_ix {r : R2} {g : D → D → (Out → Prop) → Prop} (hr : IxR X r) (hg : Op2 X.K r g) (ha : FE X a fa) (hb : FE X b fb) (hs : PlainIx b) : FE X (.Subscript a b pos) (w2 g fa fb) :=
  ⟨pe_imp (pe_ix hr ha.pe hb.pe hs) (w2_run hg ha hb), w2_mono hg ha hb⟩
/-- a part of a slice: none, or a number -/
abbrev DO := DEnv → (Option Int → DEnv → Prop) → Prop
def oOf (K : PySem.W.Frag) (f : DO) : TO := fun σ H Q => ∃ P B ios e T, Rep K P B ios e σ T H ∧ f e fun o e' => ∀ H', Rep K P B ios e' σ T H' → Q o H'
structure FO (X : Cx) (e : Option Expr) (f : DO) : Prop where
  po : PO X e (oOf X.K f)
  mono : ∀ e Q Q', (∀ r e', Q r e' → Q' r e') → f e Q → f e Q'
def wNoPart : DO := fun e Q => Q none e
def wPart (f : DE) : DO := fun e Q => f e fun r e1 => ∃ i, look e1 r = some (.int i) ∧ Q (some i) e1
theorem fo_none : FO X none wNoPart := by
  refine ⟨⟨fun pins s σ H Q I h => po_none.run pins s σ H Q I ?_⟩, fun e Q Q' h w => h _ _ w⟩
  obtain ⟨P, B, ios, e, T, r, w⟩ := h
  exact w H r
theorem fo_some (ha : FE X a fa) : FO X (some a) (wPart fa) := by
  refine ⟨⟨fun pins s σ H Q I h => (po_some ha.pe).run pins s σ H Q I ?_⟩, fun e Q Q' h w => ha.mono _ _ _ (fun r e1 ⟨i, l, w1⟩ => ⟨i, l, h _ _ w1⟩) w⟩
  obtain ⟨P, B, ios, e, T, r, w⟩ := h
  refine ⟨P, B, ios, e, T, r, ha.mono _ _ _ (fun r e1 w1 x H1 h1 => ?_) w⟩
  obtain ⟨i, l, w1⟩ := w1
  obtain ⟨M, h1⟩ := h1
  exact ⟨i, fzi.mp (show Fz X.K M (.int i) x from h1.view (v := x) (by simp) l), w1 H1 ⟨M, h1.popN⟩⟩
structure OpS (K : PySem.W.Frag) (r : V → Option Int → Option Int → Hp → VK → Prop) (g : D → Option Int → Option Int → (Out → Prop) → Prop) : Prop where
  run : ∀ M H d x lo hi Q, Ex M H → Vw K M H d x → g d lo hi (Gives K M H Q) → r x lo hi H Q
  mono : ∀ d lo hi Q Q', (∀ o, Q o → Q' o) → g d lo hi Q → g d lo hi Q'
def wSl (g : D → Option Int → Option Int → (Out → Prop) → Prop) (fa : DE) (fl fh : DO) : DE := fun e Q => fa e fun r e1 => fl e1 fun lo e2 => fh e2 fun hi e3 => ∃ d, look e3 r = some d ∧ g d lo hi fun o => Q o.res e3
theorem fe_slice {r : V → Option Int → Option Int → Hp → VK → Prop} {g : D → Option Int → Option Int → (Out → Prop) → Prop} {lo hi : Option Expr} {fl fh : DO} {p2 : Pos} (hr : SlR X r) (hg : OpS X.K r g) (ha : FE X a fa) (hl : FO X lo fl) (hh : FO X hi fh) :
    FE X (.Subscript a (.Slice lo hi none p2) pos) (wSl g fa fl fh) := by
  refine ⟨pe_imp (pe_slice hr ha.pe hl.po hh.po) ?_, fun e Q Q' h w => ha.mono _ _ _ (fun r e1 w1 => hl.mono _ _ _ (fun o e2 w2 => hh.mono _ _ _ (fun o2 e3 ⟨d, l, w3⟩ => ⟨d, l, hg.mono _ _ _ _ _ (fun o q => h _ _ q) w3⟩) w2) w1) w⟩
  rintro σ H Q ⟨P, B, ios, e, T, h, w⟩
  refine ⟨P, B, ios, e, T, h, ha.mono _ _ _ (fun r e1 w1 x H1 h1 => ?_) w⟩
  refine ⟨P, B, ios, e1, _, h1, hl.mono _ _ _ (fun o e2 w2 H2 h2 => ?_) w1⟩
  refine ⟨P, B, ios, e2, _, h2, hh.mono _ _ _ (fun o2 e3 w3 H3 h3 => ?_) w2⟩
  obtain ⟨d, l, w3⟩ := w3
  obtain ⟨M, h3⟩ := h3
  exact hg.run M H3 d x o o2 Q h3.mh (h3.view (by simp) l) (hg.mono _ _ _ _ _ (fun o q => gives_of h3.popN q) w3)

/-! ### calls of built-ins -/
def VwL (K : PySem.W.Frag) (M H : Hp) : List D → List V → Prop
  | [], vs => vs = []
  | d :: ds, vs => ∃ v r, vs = v :: r ∧ Vw K M H d v ∧ VwL K M H ds r
def lookAll (e : DEnv) : List Res → Option (List D)
  | [] => some []
  | r :: rs => match look e r with
    | some d => match lookAll e rs with
      | some ds => some (d :: ds)
      | none => none
    | none => none
theorem RepM.views {K : PySem.W.Frag} {P B M : Hp} {ios : List (Nat × V)} {e : DEnv} {σ : L2.St} {H : Hp} : ∀ {rs : List Res} {vs : List V} {T : Tmp} {ds : List D}, RepM K P B M ios e σ (T ++ rs.zip vs) H → rs.length = vs.length → lookAll e rs = some ds → VwL K M H ds vs
  | [], [], T, ds, r, _, h => by cases h; simp [VwL]
  | x :: rs, v :: vs, T, ds, r, hl, h => by
    unfold lookAll at h
    split at h
    · rename_i d q
      split at h
      · rename_i ds' q'
        cases h
        simp only [VwL]
        refine ⟨v, vs, rfl, r.view (by simp) q, ?_⟩
        exact RepM.views (T := T ++ [(x, v)]) (by simpa using r) (by simpa using hl) q'
      · cases h
    · cases h
  | [], _ :: _, T, ds, r, hl, h => by simp at hl
  | _ :: _, [], T, ds, r, hl, h => by simp at hl
structure OpN (K : PySem.W.Frag) (r : List V → Hp → VK → Prop) (g : List D → (Out → Prop) → Prop) : Prop where
  run : ∀ M H ds vs Q, Ex M H → VwL K M H ds vs → g ds (Gives K M H Q) → r vs H Q
  mono : ∀ ds Q Q', (∀ o, Q o → Q' o) → g ds Q → g ds Q'
def wN (g : List D → (Out → Prop) → Prop) (fa : DA) : DE := fun e Q => fa e fun rs e1 => ∃ ds, lookAll e1 rs = some ds ∧ g ds fun o => Q o.res e1
theorem wN_mono {r : List V → Hp → VK → Prop} {g : List D → (Out → Prop) → Prop} {fs : DA} (hg : OpN X.K r g) (ha : FA X es fs) : ∀ e Q Q', (∀ r e', Q r e' → Q' r e') → wN g fs e Q → wN g fs e Q' :=
  fun e Q Q' h w => ha.mono _ _ _ (fun rs e1 ⟨ds, l, w1⟩ => ⟨ds, l, hg.mono _ _ _ (fun o q => h _ _ q) w1⟩) w
theorem wN_run {r : List V → Hp → VK → Prop} {g : List D → (Out → Prop) → Prop} {fs : DA} (hg : OpN X.K r g) (ha : FA X es fs) (σ : L2.St) (H : Hp) (Q : VK) : tOf X.K (wN g fs) σ H Q → tCB r (aOf X.K fs) σ H Q := by
  rintro ⟨P, B, ios, e, T, h, w⟩
  refine ⟨P, B, ios, e, T, h, ha.mono _ _ _ (fun rs e1 w1 vs H1 hl h1 => ?_) w⟩
  obtain ⟨ds, l, w1⟩ := w1
  obtain ⟨M, h1⟩ := h1
  exact hg.run M H1 ds vs Q h1.mh (h1.views hl l) (hg.mono _ _ _ (fun o q => gives_of h1.popN q) w1)
theorem fe_callB {id x : Str} {bid : String} {p : Pos} {r : List V → Hp → VK → Prop} {g : List D → (Out → Prop) → Prop} {fs : DA} (hc : CallR X (.builtin bid) r) (hg : OpN X.K r g) (hgl : Gl X x) (hm : X.mg x = none) (hv : bootBuiltins x = some (.builtin bid)) (ha : FA X (a :: es) fs)
    (hn : x ≠ "__name__" := by decide) (hdb : (x == ("__debug__" : Str)) = false := by decide) (hs : starEach (a :: es) X.env = (false, eval a X.env) :: starEach es X.env := by rfl) (hp : (backTo pos (starEach es X.env)).any (·.1) = false := by rfl) :
    FE X (.Call (.Name x p) (a :: es) [] pos) (wN g fs) :=
  ⟨pe_imp (pe_callB hc hgl hm hv ha.pa hn hdb hs hp) (wN_run hg ha), wN_mono hg ha⟩
theorem fe_callTy {x : Str} {T : String} {p : Pos} {r : List V → Hp → VK → Prop} {g : List D → (Out → Prop) → Prop} {fs : DA} (hc : CallR X (.type T) r) (hg : OpN X.K r g) (hgl : Gl X x) (hm : X.mg x = none) (hv : bootBuiltins x = some (.type T)) (ha : FA X (a :: es) fs)
    (hn : x ≠ "__name__" := by decide) (hdb : (x == ("__debug__" : Str)) = false := by decide) (hs : starEach (a :: es) X.env = (false, eval a X.env) :: starEach es X.env := by rfl) (hp : (backTo pos (starEach es X.env)).any (·.1) = false := by rfl) :
    FE X (.Call (.Name x p) (a :: es) [] pos) (wN g fs) :=
  ⟨pe_imp (pe_callTy hc hgl hm hv ha.pa hn hdb hs hp) (wN_run hg ha), wN_mono hg ha⟩

/-! ### methods that read -/
structure OpM (K : PySem.W.Frag) (T : String) (r : V → List V → Hp → VK → Prop) (ok : D → Prop) (g : D → List D → (Out → Prop) → Prop) : Prop where
  ty : ∀ M H d x, Ex M H → Vw K M H d x → ok d → tyV K T x H
  run : ∀ M H d ds x vs Q, Ex M H → Vw K M H d x → VwL K M H ds vs → g d ds (Gives K M H Q) → r x vs H Q
  mono : ∀ d ds Q Q', (∀ o, Q o → Q' o) → g d ds Q → g d ds Q'
def wM (ok : D → Prop) (g : D → List D → (Out → Prop) → Prop) (fo : DE) (fa : DA) : DE := fun e Q => fo e fun r e0 => ∃ d, look e0 r = some d ∧ ok d ∧ fa e0 fun rs e1 => ∃ d ds, look e1 r = some d ∧ lookAll e1 rs = some ds ∧ g d ds fun o => Q o.res e1
section
variable {o : Expr} {fo : DE} {fs : DA} {T id : String} {r : V → List V → Hp → VK → Prop} {ok : D → Prop} {g : D → List D → (Out → Prop) → Prop} {name : Str} {apos cpos : Pos}
theorem wM_mono (hg : OpM X.K T r ok g) (ho : FE X o fo) (ha : FA X es fs) : ∀ e Q Q', (∀ r e', Q r e' → Q' r e') → wM ok g fo fs e Q → wM ok g fo fs e Q' :=
  fun e Q Q' h w => ho.mono _ _ _ (fun r e1 ⟨d, l, k, w1⟩ => ⟨d, l, k, ha.mono _ _ _ (fun rs e2 ⟨d2, ds, l2, l3, w2⟩ => ⟨d2, ds, l2, l3, hg.mono _ _ _ _ (fun o q => h _ _ q) w2⟩) w1⟩) w
theorem fe_bm (pa : PlainAttrs T) (slot : PySem.Slot T name id) (hty : typeOf (.builtin id) = pure (.type "method_descriptor")) (hm : MtR X id r) (hg : OpM X.K T r ok g) (ho : FE X o fo) (ha : FA X (a :: es) fs)
    (hbase : attributeBase o name X.env (eval o X.env) = eval o X.env := by rfl)
    (hfew : ((backTo cpos (starEach (a :: es) X.env)).all (fun x => !x.1) && (backToKw cpos (keywordEach [] X.env)).all (fun x => x.1.isSome)
      && decide ((a :: es).length + ([] : List Keyword).length + (if ([] : List Keyword).isEmpty then 0 else 1) < 30)) = true := by rfl)
    (hline : (apos.endLine == cpos.line) = true := by rfl) (hs : starEach (a :: es) X.env = (false, eval a X.env) :: starEach es X.env := by rfl) (hplain : (backTo cpos (starEach es X.env)).any (·.1) = false := by rfl) :
    FE X (.Call (.Attribute o name apos) (a :: es) [] cpos) (wM ok g fo fs) := by
  refine ⟨pe_imp (pe_bm pa slot hty hm ho.pe ha.pa hbase hfew hline hs hplain) ?_, wM_mono hg ho ha⟩
  rintro σ H Q ⟨P, B, ios, e, T, h, w⟩
  refine ⟨P, B, ios, e, T, h, ho.mono _ _ _ (fun r e1 w1 x H1 h1 => ?_) w⟩
  obtain ⟨d, l, k, w1⟩ := w1
  obtain ⟨M, h1⟩ := h1
  refine ⟨hg.ty M H1 d x h1.mh (h1.view (by simp) l) k, P, B, ios, e1, _, ⟨M, h1⟩, ha.mono _ _ _ (fun rs e2 w2 vs H2 hl h2 => ?_) w1⟩
  obtain ⟨d2, ds, l2, l3, w2⟩ := w2
  obtain ⟨M2, h2⟩ := h2
  exact hg.run M2 H2 d2 ds x vs Q h2.mh (h2.view (by simp) l2) (h2.views hl l3) (hg.mono _ _ _ _ (fun o q => gives_of h2.popN.popN q) w2)
theorem fe_bm0 (pa : PlainAttrs T) (slot : PySem.Slot T name id) (hty : typeOf (.builtin id) = pure (.type "method_descriptor")) (hm : MtR X id r) (hg : OpM X.K T r ok g) (ho : FE X o fo)
    (hbase : attributeBase o name X.env (eval o X.env) = eval o X.env := by rfl) (hline : (apos.endLine == cpos.line) = true := by rfl) : FE X (.Call (.Attribute o name apos) [] [] cpos) (wM ok g fo wNil) := by
  refine ⟨pe_imp (pe_bm0 pa slot hty hm ho.pe hbase hline) ?_, wM_mono hg ho (X := X) fa_nil⟩
  rintro σ H Q ⟨P, B, ios, e, T, h, w⟩
  refine ⟨P, B, ios, e, T, h, ho.mono _ _ _ (fun r e1 w1 x H1 h1 => ?_) w⟩
  obtain ⟨d, l, k, d2, ds, l2, l3, w2⟩ := w1
  obtain ⟨M, h1⟩ := h1
  cases l3
  exact ⟨hg.ty M H1 d x h1.mh (h1.view (by simp) l) k, hg.run M H1 d2 [] x [] Q h1.mh (h1.view (by simp) l2) (by simp [VwL]) (hg.mono _ _ _ _ (fun o q => gives_of h1.popN q) w2)⟩
end

/-! ### methods that change what a slot owns -/
structure OpMut (K : PySem.W.Frag) (T : String) (r : V → List V → Hp → VK → Prop) (ok : D → Prop) (g : D → List D → (D → Out → Prop) → Prop) : Prop where
  ty : ∀ M H d a, OwnAt K M H d a → ok d → tyV K T (.ref a) H
  run : ∀ M H d a ds vs Q, Ex M H → M a = none → OwnAt K M H d a → FzL K M ds vs → g d ds (fun d' o => ∀ ob, OwnAt K M (upd H a ob) d' a → Gives K M (upd H a ob) Q o) → r (.ref a) vs H Q
  mono : ∀ d ds Q Q', (∀ d' o, Q d' o → Q' d' o) → g d ds Q → g d ds Q'
def ownAt? (e : DEnv) (i : Nat) : Option (Kd × D) := match e[i]? with
  | some (some (.ow, d)) => some (.ow, d)
  | some (some (.io, d)) => some (.io, d)
  | _ => none
theorem ownAt_spec {e : DEnv} {i : Nat} {k : Kd} {d : D} (h : ownAt? e i = some (k, d)) : e[i]? = some (some (k, d)) ∧ k.own = true := by
  unfold ownAt? at h
  split at h
  · rename_i q; cases h; exact ⟨q, rfl⟩
  · rename_i q; cases h; exact ⟨q, rfl⟩
  · cases h
def wMut (ok : D → Prop) (g : D → List D → (D → Out → Prop) → Prop) (fo : DE) (fa : DA) : DE := fun e Q => fo e fun r e0 => ∃ i k d, r = .loc i ∧ ownAt? e0 i = some (k, d) ∧ ok d ∧ fa e0 fun rs e1 => ∃ ds e2 k d, frzAll e1 rs = some (ds, e2) ∧ ownAt? e2 i = some (k, d) ∧
  g d ds fun d' o => Q o.res (e2.set i (some (k, d')))
theorem RepM.mutate {K : PySem.W.Frag} {P B M : Hp} {ios : List (Nat × V)} {e : DEnv} {σ : L2.St} {T : Tmp} {H : Hp} {i : Nat} {k : Kd} {d d' : D} {a : Addr} {o : HO} (r : RepM K P B M ios e σ T H) (h : e[i]? = some (some (k, d))) (hk : k.own = true)
    (hs : σ[i]? = some (some (.ref a))) (h' : OwnAt K M (upd H a o) d' a) : RepM K P B M ios (e.set i (some (k, d'))) σ T (upd H a o) := by
  have hi := (List.getElem?_eq_some_iff.mp h).1
  refine ⟨?_, by simp [r.el], r.loc, fun j w q => ?_⟩
  · have := r.c.mutate (left_get h) hk (by rw [r.sl h]; exact hs) h'
    rwa [set_left hi] at this
  · obtain ⟨s', d'', q''⟩ := r.io j w q
    refine ⟨s', ?_⟩
    rw [List.getElem?_set]
    split
    · rename_i hij; subst hij
      rw [h] at q''; cases q''
      (try rw [if_pos hi]); exact ⟨_, rfl⟩
    · exact ⟨_, q''⟩
section
variable {o : Expr} {fo : DE} {fs : DA} {T id : String} {r : V → List V → Hp → VK → Prop} {ok : D → Prop} {g : D → List D → (D → Out → Prop) → Prop} {name : Str} {apos cpos : Pos}
theorem wMut_mono (hg : OpMut X.K T r ok g) (ho : FE X o fo) (ha : FA X es fs) : ∀ e Q Q', (∀ r e', Q r e' → Q' r e') → wMut ok g fo fs e Q → wMut ok g fo fs e Q' :=
  fun e Q Q' h w => ho.mono _ _ _ (fun r e1 ⟨i, k, d, z, l, ko, w1⟩ => ⟨i, k, d, z, l, ko, ha.mono _ _ _ (fun rs e2 ⟨ds, e3, k2, d2, l2, l3, w2⟩ => ⟨ds, e3, k2, d2, l2, l3, hg.mono _ _ _ _ (fun d' o q => h _ _ q) w2⟩) w1⟩) w
theorem mut_end {P B M : Hp} {ios : List (Nat × V)} {e e2 : DEnv} {σ : L2.St} {T : Tmp} {H : Hp} {Q : VK} {i : Nat} {v : V} {rs : List Res} {vs : List V} {ds : List D} {k : Kd} {d : D} {Tn : String} (hg : OpMut X.K Tn r ok g)
    (h : RepM X.K P B M ios e σ (T ++ [(.loc i, v)] ++ rs.zip vs) H) (hl : rs.length = vs.length) (hf : frzAll e rs = some (ds, e2)) (ho : ownAt? e2 i = some (k, d))
    (w : g d ds fun d' o => ∀ v H', Rep X.K P B ios (e2.set i (some (k, d'))) σ (T ++ [(o.res, v)]) H' → Q v H') : r v vs H Q := by
  obtain ⟨M2, x2, h2, f2⟩ := h.freezeAll hl hf
  obtain ⟨q, hk⟩ := ownAt_spec ho
  have hs := h2.loc i v (by simp)
  obtain ⟨a, s, ow, hm, hp⟩ := h2.owS q hk
  rw [hs] at s; cases s
  refine hg.run M2 H d a ds vs Q h2.mh hm ow f2 (hg.mono _ _ _ _ (fun d' o q' ob ow' => ?_) w)
  exact gives_of (h2.popN.popN.mutate q hk hs ow') q'
theorem fe_mut (pa : PlainAttrs T) (slot : PySem.Slot T name id) (hty : typeOf (.builtin id) = pure (.type "method_descriptor")) (hm : MtR X id r) (hg : OpMut X.K T r ok g) (ho : FE X o fo) (ha : FA X (a :: es) fs)
    (hbase : attributeBase o name X.env (eval o X.env) = eval o X.env := by rfl)
    (hfew : ((backTo cpos (starEach (a :: es) X.env)).all (fun x => !x.1) && (backToKw cpos (keywordEach [] X.env)).all (fun x => x.1.isSome)
      && decide ((a :: es).length + ([] : List Keyword).length + (if ([] : List Keyword).isEmpty then 0 else 1) < 30)) = true := by rfl)
    (hline : (apos.endLine == cpos.line) = true := by rfl) (hs : starEach (a :: es) X.env = (false, eval a X.env) :: starEach es X.env := by rfl) (hplain : (backTo cpos (starEach es X.env)).any (·.1) = false := by rfl) :
    FE X (.Call (.Attribute o name apos) (a :: es) [] cpos) (wMut ok g fo fs) := by
  refine ⟨pe_imp (pe_bm pa slot hty hm ho.pe ha.pa hbase hfew hline hs hplain) ?_, wMut_mono hg ho ha⟩
  rintro σ H Q ⟨P, B, ios, e, T, h, w⟩
  refine ⟨P, B, ios, e, T, h, ho.mono _ _ _ (fun r e1 w1 x H1 h1 => ?_) w⟩
  obtain ⟨i, k, d, rfl, l, ko, w1⟩ := w1
  obtain ⟨M, h1⟩ := h1
  obtain ⟨q, hk⟩ := ownAt_spec l
  have hsl := h1.loc i x (by simp)
  obtain ⟨p, s, ow, _, _⟩ := h1.owS q hk
  rw [hsl] at s; cases s
  refine ⟨hg.ty M H1 d p ow ko, P, B, ios, e1, _, ⟨M, h1⟩, ha.mono _ _ _ (fun rs e2 w2 vs H2 hl h2 => ?_) w1⟩
  obtain ⟨ds, e3, k2, d2, l2, l3, w2⟩ := w2
  obtain ⟨M2, h2⟩ := h2
  exact mut_end hg h2 hl l2 l3 w2
theorem fe_mut0 (pa : PlainAttrs T) (slot : PySem.Slot T name id) (hty : typeOf (.builtin id) = pure (.type "method_descriptor")) (hm : MtR X id r) (hg : OpMut X.K T r ok g) (ho : FE X o fo)
    (hbase : attributeBase o name X.env (eval o X.env) = eval o X.env := by rfl) (hline : (apos.endLine == cpos.line) = true := by rfl) : FE X (.Call (.Attribute o name apos) [] [] cpos) (wMut ok g fo wNil) := by
  refine ⟨pe_imp (pe_bm0 pa slot hty hm ho.pe hbase hline) ?_, wMut_mono hg ho (X := X) fa_nil⟩
  rintro σ H Q ⟨P, B, ios, e, T, h, w⟩
  refine ⟨P, B, ios, e, T, h, ho.mono _ _ _ (fun r e1 w1 x H1 h1 => ?_) w⟩
  obtain ⟨i, k, d, rfl, l, ko, ds, e3, k2, d2, l2, l3, w2⟩ := w1
  obtain ⟨M, h1⟩ := h1
  obtain ⟨q, hk⟩ := ownAt_spec l
  have hsl := h1.loc i x (by simp)
  obtain ⟨p, s, ow, _, _⟩ := h1.owS q hk
  rw [hsl] at s; cases s
  refine ⟨hg.ty M H1 d p ow ko, ?_⟩
  exact mut_end (rs := []) (vs := []) hg (by simpa using h1) rfl l2 l3 w2
end
end
end PL
set_option Elab.async false
set_option linter.all false
set_option autoImplicit false
set_option maxRecDepth 100000
set_option maxHeartbeats 4000000
/-! PLd: statements over data: blocks, return, if, assignments, loops. -/
namespace PL
open PySem PySem.Spec PyProof.Rows L2

structure DEnds where
  nx : DEnv → Prop
  rt : Res → DEnv → Prop
  bk : DEnv → Prop
  ct : DEnv → Prop
abbrev DS := DEnds → DEnv → Prop
structure DLe (D D' : DEnds) : Prop where
  nx : ∀ e, D.nx e → D'.nx e
  rt : ∀ r e, D.rt r e → D'.rt r e
  bk : ∀ e, D.bk e → D'.bk e
  ct : ∀ e, D.ct e → D'.ct e
theorem DLe.refl (D : DEnds) : DLe D D := ⟨fun _ h => h, fun _ _ h => h, fun _ h => h, fun _ h => h⟩
def NoLoc (T : Tmp) : Prop := ∀ t ∈ T, ∀ i, t.1 ≠ .loc i
theorem NoLoc.nil : NoLoc [] := fun t h => by simp at h
theorem NoLoc.app {T T' : Tmp} (h : NoLoc T) (h' : NoLoc T') : NoLoc (T ++ T') := fun t ht i => by
  rcases List.mem_append.mp ht with q | q
  · exact h t q i
  · exact h' t q i
def endsOf (K : PySem.W.Frag) (P B : Hp) (ios : List (Nat × V)) (T : Tmp) (D : Ends) : DEnds where
  nx := fun e => ∀ σ H, Rep K P B ios e σ T H → D.nx σ H
  rt := fun r e => ∀ v σ H, Rep K P B ios e σ (T ++ [(r, v)]) H → D.rt v H
  bk := fun e => ∀ σ H, Rep K P B ios e σ T H → D.bk σ H
  ct := fun e => ∀ σ H, Rep K P B ios e σ T H → D.ct σ H
def sOf (K : PySem.W.Frag) (g : DS) : TS := fun D σ H => ∃ P B ios e T, NoLoc T ∧ Rep K P B ios e σ T H ∧ g (endsOf K P B ios T D) e
theorem ps_imp {X : Cx} {e : Stmt} {t t' : TS} (h : PS X e t) (i : ∀ D σ H, t' D σ H → t D σ H) : PS X e t' := ⟨fun pins s σ H D I q => h.run pins s σ H D I (i _ _ _ q)⟩
theorem pss_imp {X : Cx} {e : List Stmt} {t t' : TS} (h : PSs X e t) (i : ∀ D σ H, t' D σ H → t D σ H) : PSs X e t' := ⟨fun pins s σ H D I q => h.run pins s σ H D I (i _ _ _ q)⟩
structure FS (X : Cx) (st : Stmt) (g : DS) : Prop where
  ps : PS X st (sOf X.K g)
  mono : ∀ D D' e, DLe D D' → g D e → g D' e
structure FSs (X : Cx) (st : List Stmt) (g : DS) : Prop where
  ps : PSs X st (sOf X.K g)
  mono : ∀ D D' e, DLe D D' → g D e → g D' e

section
variable {X : Cx} {a b c : Expr} {es : List Expr} {fa fb fc : DE} {ta : DT} {pos : Pos} {st : Stmt} {sts : List Stmt} {g g' : DS}
/-! ### blocks -/
def wNext : DS := fun D e => D.nx e
def wSeq (g g' : DS) : DS := fun D e => g { D with nx := fun e1 => g' D e1 } e
theorem fss_nil : FSs X [] wNext := by
  refine ⟨pss_imp pss_nil ?_, fun D D' e h w => h.nx _ w⟩
  rintro D σ H ⟨P, B, ios, e, T, nl, r, w⟩
  exact w σ H r
theorem fss_cons (h1 : FS X st g) (h2 : FSs X sts g') : FSs X (st :: sts) (wSeq g g') := by
  refine ⟨pss_imp (pss_cons h1.ps h2.ps) ?_, fun D D' e h w => h1.mono { D with nx := fun e1 => g' D e1 } _ _ ⟨fun e1 w1 => h2.mono _ _ _ h w1, h.rt, h.bk, h.ct⟩ w⟩
  rintro D σ H ⟨P, B, ios, e, T, nl, r, w⟩
  exact ⟨P, B, ios, e, T, nl, r, h1.mono { endsOf X.K P B ios T D with nx := fun e1 => g' (endsOf X.K P B ios T D) e1 } _ _ ⟨fun e1 w1 σ1 H1 r1 => ⟨P, B, ios, e1, T, nl, r1, w1⟩, fun _ _ q => q, fun _ q => q, fun _ q => q⟩ w⟩
theorem fss_one (h1 : FS X st g) : FSs X [st] g := ⟨pss_one h1.ps, h1.mono⟩
def wBreak : DS := fun D e => D.bk e
def wCont : DS := fun D e => D.ct e
theorem fs_pass : FS X (.Pass pos) wNext := by
  refine ⟨ps_imp ps_pass ?_, fun D D' e h w => h.nx _ w⟩
  rintro D σ H ⟨P, B, ios, e, T, nl, r, w⟩
  exact w σ H r
theorem fs_break : FS X (.Break pos) wBreak := by
  refine ⟨ps_imp ps_break ?_, fun D D' e h w => h.bk _ w⟩
  rintro D σ H ⟨P, B, ios, e, T, nl, r, w⟩
  exact w σ H r
theorem fs_cont : FS X (.Continue pos) wCont := by
  refine ⟨ps_imp ps_continue ?_, fun D D' e h w => h.ct _ w⟩
  rintro D σ H ⟨P, B, ios, e, T, nl, r, w⟩
  exact w σ H r
def wDrop (f : DE) : DS := fun D e => f e fun _ e1 => D.nx e1
theorem fs_expr (he : FE X a fa) (hs : swapsWith a none pos.line X.env = pure false := by rfl) : FS X (.Expr a pos) (wDrop fa) := by
  refine ⟨ps_imp (ps_expr he.pe hs) ?_, fun D D' e h w => he.mono _ _ _ (fun _ e1 w1 => h.nx _ w1) w⟩
  rintro D σ H ⟨P, B, ios, e, T, nl, r, w⟩
  exact ⟨P, B, ios, e, T, r, he.mono _ _ _ (fun r1 e1 w1 v H1 h1 => w1 σ H1 h1.popN) w⟩

/-! ### return -/
def retR (r : Res) (e : DEnv) (Q : Res → DEnv → Prop) : Prop := match r with
  | .loc i => ∃ d, e[i]? = some (some (.ow, d)) ∧ Q (.ow d) (e.set i none)
  | r => Q r e
def wRet (f : DE) : DS := fun D e => f e fun r e1 => retR r e1 D.rt
def wRetN : DS := fun D e => D.rt (.fz .none) e
theorem RepM.moveOut {K : PySem.W.Frag} {P B M : Hp} {ios : List (Nat × V)} {e : DEnv} {σ : L2.St} {T : Tmp} {H : Hp} {i : Nat} {d : D} {v : V} (r : RepM K P B M ios e σ (T ++ [(.loc i, v)]) H) (h : e[i]? = some (some (.ow, d))) :
    RepM K P B M ios (e.set i none) σ (T ++ [(.ow d, v)]) H := by
  have hs := r.loc i v (by simp)
  obtain ⟨a, s, o, hm, hp⟩ := r.owS h rfl
  rw [hs] at s; cases s
  have r1 := r.popN
  have hi := (List.getElem?_eq_some_iff.mp h).1
  have r2 : RepM K P B M ios (e.set i none) σ T H := by
    refine ⟨?_, by simp [r1.el], r1.loc, fun j w q => ?_⟩
    · have : (e.set i none) ++ tE T = (e ++ tE T).set i none := by rw [set_left hi]
      rw [this]
      refine r1.c.forget (by simp) fun j x q => ?_
      rw [List.getElem?_set] at q
      split at q
      · split at q <;> simp at q
      · exact q
    · obtain ⟨s', d'', q''⟩ := r1.io j w q
      refine ⟨s', d'', ?_⟩
      rw [List.getElem?_set]
      split
      · rename_i hij; subst hij; rw [h] at q''; cases q''
      · exact q''
  refine r2.push_ow o hm hp fun j k d' q hk z => ?_
  have : (e.set i none) ++ tE T = (e ++ tE T).set i none := by rw [set_left hi]
  rw [this, List.getElem?_set] at q
  split at q
  · split at q <;> simp at q
  · rename_i hij
    exact hij (r1.c.inj i j a .ow k d d' (left_get h) rfl q hk (by rw [r1.sl h]; exact hs) z)
theorem fs_ret (he : FE X a fa) : FS X (.Return (some a) pos) (wRet fa) := by
  refine ⟨ps_imp (ps_ret he.pe) ?_, fun D D' e h w => he.mono _ _ _ (fun r e1 w1 => ?_) w⟩
  · rintro D σ H ⟨P, B, ios, e, T, nl, r, w⟩
    refine ⟨P, B, ios, e, T, r, he.mono _ _ _ (fun r1 e1 w1 v H1 h1 => ?_) w⟩
    cases r1 with
    | loc i =>
      obtain ⟨d, q, w2⟩ := w1
      obtain ⟨M, h1⟩ := h1
      exact w2 v σ H1 ⟨M, h1.moveOut q⟩
    | fz d => exact w1 v σ H1 h1
    | ow d => exact w1 v σ H1 h1
    | junk => exact w1 v σ H1 h1
  · cases r with
    | loc i => obtain ⟨d, q, w2⟩ := w1; exact ⟨d, q, h.rt _ _ w2⟩
    | fz d => exact h.rt _ _ w1
    | ow d => exact h.rt _ _ w1
    | junk => exact h.rt _ _ w1
theorem fs_retN : FS X (.Return none pos) wRetN := by
  refine ⟨ps_imp ps_retN ?_, fun D D' e h w => h.rt _ _ w⟩
  rintro D σ H ⟨P, B, ios, e, T, nl, ⟨M, r⟩, w⟩
  exact w .non σ H ⟨M, r.push_fz (fzn.mpr rfl)⟩

/-! ### if -/
def wIf (t : DT) (g g' : DS) : DS := fun D e => t e fun k e1 => if k = true then g D e1 else g' D e1
theorem fs_if {sts' : List Stmt} (hc : FT X c ta) (ha : FSs X sts g) (hb : FSs X sts' g') : FS X (.If c sts sts' pos) (wIf ta g g') := by
  refine ⟨ps_imp (ps_if hc.pt ha.ps hb.ps) ?_, fun D D' e h w => hc.mono _ _ _ (fun k e1 w1 => ?_) w⟩
  · rintro D σ H ⟨P, B, ios, e, T, nl, r, w⟩
    refine ⟨P, B, ios, e, T, r, hc.mono _ _ _ (fun k e1 w1 H1 h1 => ?_) w⟩
    cases k with
    | true => exact iteT ⟨P, B, ios, e1, T, nl, h1, (if_pos (rfl : true = true)).mp w1⟩
    | false => exact iteF ⟨P, B, ios, e1, T, nl, h1, by simpa using w1⟩
  · cases k with
    | true => exact iteT (ha.mono _ _ _ h (by simpa using w1))
    | false => exact iteF (hb.mono _ _ _ h (by simpa using w1))

/-! ### targets -/
abbrev DG := Res → DEnv → (DEnv → Prop) → Prop
abbrev DGs := List D → DEnv → (DEnv → Prop) → Prop
def SameBut (js : List Nat) (σ σ' : L2.St) : Prop := σ'.length = σ.length ∧ ∀ j, j ∉ js → σ'[j]? = σ[j]?
theorem SameBut.refl (js : List Nat) (σ : L2.St) : SameBut js σ σ := ⟨rfl, fun _ _ => rfl⟩
theorem SameBut.trans {js ks : List Nat} {σ σ' σ'' : L2.St} (h : SameBut js σ σ') (h' : SameBut ks σ' σ'') : SameBut (js ++ ks) σ σ'' :=
  ⟨h'.1.trans h.1, fun j hj => (h'.2 j fun z => hj (List.mem_append_right _ z)).trans (h.2 j fun z => hj (List.mem_append_left _ z))⟩
def gOf (K : PySem.W.Frag) (js : List Nat) (g : DG) : TG := fun v σ H Q => ∃ P B ios e T r, NoLoc T ∧ Rep K P B ios e σ (T ++ [(r, v)]) H ∧ g r e fun e' => ∀ σ' H', SameBut js σ σ' → Rep K P B ios e' σ' T H' → Q σ' H'
def gsOf (K : PySem.W.Frag) (js : List Nat) (g : DGs) : TGs := fun vs σ H Q => ∃ P B ios e T ds, NoLoc T ∧ Rep K P B ios e σ (T ++ (ds.map Res.fz).zip vs) H ∧ ds.length = vs.length ∧ g ds e fun e' => ∀ σ' H', SameBut js σ σ' → Rep K P B ios e' σ' T H' → Q σ' H'
theorem pg_imp {X : Cx} {e : Expr} {t t' : TG} (h : PG X e t) (i : ∀ v σ H Q, t' v σ H Q → t v σ H Q) : PG X e t' := ⟨fun pins s σ H v u Q I r q => h.run pins s σ H v u Q I r (i _ _ _ _ q)⟩
theorem pgs_imp {X : Cx} {e : List Expr} {t t' : TGs} (h : PGs X e t) (i : ∀ v σ H Q, t' v σ H Q → t v σ H Q) : PGs X e t' := ⟨fun pins s σ H v u Q I r q => h.run pins s σ H v u Q I r (i _ _ _ _ q)⟩
structure FG (X : Cx) (e : Expr) (js : List Nat) (g : DG) : Prop where
  pg : PG X e (gOf X.K js g)
  mono : ∀ r e Q Q', (∀ e', Q e' → Q' e') → g r e Q → g r e Q'
structure FGs (X : Cx) (e : List Expr) (js : List Nat) (g : DGs) : Prop where
  pg : PGs X e (gsOf X.K js g)
  mono : ∀ r e Q Q', (∀ e', Q e' → Q' e') → g r e Q → g r e Q'
/-- may the slot be written -/
def okSlot (e : DEnv) (i : Nat) : Bool := match e[i]? with
  | some (some (.io, _)) => false
  | some _ => true
  | none => false
def asgn (i : Nat) : DG := fun r e Q => okSlot e i = true ∧ match r with
  | .fz d => Q (e.set i (some (.fz, d)))
  | .ow d => Q (e.set i (some (.ow, d)))
  | .loc j => ∃ d e', frz e (.loc j) = some (d, e') ∧ Q (e'.set i (some (.fz, d)))
  | .junk => False
theorem okSlot_lt {e : DEnv} {i : Nat} (h : okSlot e i = true) : i < e.length := by
  unfold okSlot at h
  split at h
  · cases h
  · rename_i q; exact (List.getElem?_eq_some_iff.mp q).1
  · cases h
theorem okSlot_io {e : DEnv} {i : Nat} {d : D} (h : okSlot e i = true) : e[i]? ≠ some (some (.io, d)) := by
  intro q
  unfold okSlot at h
  rw [q] at h
  cases h
theorem RepM.setS {K : PySem.W.Frag} {P B M : Hp} {ios : List (Nat × V)} {e : DEnv} {σ : L2.St} {T : Tmp} {H : Hp} {i : Nat} {v : V} {x : Kd × D} (r : RepM K P B M ios e σ T H) (nl : NoLoc T) (ok : okSlot e i = true)
    (h : RepC K P B M ((e ++ tE T).set i (some x)) ((σ ++ tV T).set i (some v)) H) : RepM K P B M ios (e.set i (some x)) (σ.set i (some v)) T H := by
  have hi := okSlot_lt ok
  rw [set_left hi, set_left (by rw [← r.el]; exact hi)] at h
  refine ⟨h, by simp [r.el], fun j w q => absurd rfl (nl _ q j), fun j w q => ?_⟩
  obtain ⟨s, d, q'⟩ := r.io j w q
  have hne : i ≠ j := by rintro rfl; exact okSlot_io ok q'
  exact ⟨by rw [List.getElem?_set, if_neg hne]; exact s, d, by rw [List.getElem?_set, if_neg hne]; exact q'⟩
theorem okSlot_set {e : DEnv} {i j : Nat} {d : D} (ok : okSlot e i = true) : okSlot (e.set j (some (.fz, d))) i = true := by
  have hi := okSlot_lt ok
  unfold okSlot
  rw [List.getElem?_set]
  by_cases hij : j = i
  · subst hij
    rw [if_pos rfl, if_pos hi]
  · rw [if_neg hij]
    unfold okSlot at ok
    exact ok
theorem asgn_run {K : PySem.W.Frag} {i : Nat} {v : V} {σ : L2.St} {H : Hp} {Q : L2.St → Hp → Prop} : gOf K [i] (asgn i) v σ H Q → gName i v σ H Q := by
  have hsame : ∀ (σ : L2.St) (v : V), SameBut [i] σ (σ.set i (some v)) := fun σ v => ⟨by simp, fun j hj => by
    rw [List.getElem?_set, if_neg]
    rintro rfl
    exact hj (by simp)⟩
  rintro ⟨P, B, ios, e, T, r, nl, ⟨M, h1⟩, ok, w⟩
  have h0 := h1.popN
  cases r with
  | fz d =>
    have f := h1.tfz (d := d) (v := v) (by simp)
    exact w _ H (hsame σ v) ⟨M, h0.setS nl ok (h0.c.set_fz f)⟩
  | ow d =>
    obtain ⟨p, rfl, o, hm, hp⟩ := h1.tow (d := d) (v := v) (by simp)
    refine w _ H (hsame σ _) ⟨M, h0.setS nl ok (h0.c.set_ow o hm hp fun j k d' q hk z => ?_)⟩
    have ht : (T ++ [(Res.ow d, V.ref p)])[T.length]? = some (.ow d, .ref p) := by simp
    obtain ⟨t1, t2⟩ := h1.tget ht
    have hj := (List.getElem?_eq_some_iff.mp q).1
    have q2 : (e ++ tE (T ++ [(Res.ow d, V.ref p)]))[j]? = some (some (k, d')) := by rw [tE_app, ← List.append_assoc]; exact left_get q
    have z2 : (σ ++ tV (T ++ [(Res.ow d, V.ref p)]))[j]? = some (some (.ref p)) := by rw [tV_app, ← List.append_assoc]; exact left_get z
    have := h1.c.inj j _ p k .ow d' d q2 hk t1 rfl z2 t2
    rw [List.length_append, tE_len] at hj
    omega
  | loc j =>
    obtain ⟨d, e', hf, w⟩ := w
    obtain ⟨M', x, h2, f⟩ := h1.freezeAt (T1 := T) (T2 := []) hf
    have h3 := h2.popN
    have ok' : okSlot e' i = true := by
      unfold frz at hf
      dsimp only at hf
      split at hf
      · cases hf; exact ok
      · cases hf; exact okSlot_set ok
      · cases hf
    exact w _ H (hsame σ v) ⟨M', h3.setS nl ok' (h3.c.set_fz f)⟩
  | junk => exact w.elim
theorem asgn_mono (i : Nat) : ∀ r e Q Q', (∀ e', Q e' → Q' e') → asgn i r e Q → asgn i r e Q' := fun r e Q Q' hq w => by
  obtain ⟨ok, w⟩ := w
  refine ⟨ok, ?_⟩
  cases r with
  | fz d => exact hq _ w
  | ow d => exact hq _ w
  | loc j => obtain ⟨d, e', hf, w⟩ := w; exact ⟨d, e', hf, hq _ w⟩
  | junk => exact w
theorem fg_name {i : Nat} (h : PG X a (gName i)) : FG X a [i] (asgn i) := ⟨pg_imp h fun _ _ _ _ => asgn_run, asgn_mono i⟩
def wGNil : DGs := fun ds e Q => ds = [] ∧ Q e
def wGCons (g : DG) (gs : DGs) : DGs := fun ds e Q => ∃ d r, ds = d :: r ∧ g (.fz d) e fun e1 => gs r e1 Q
theorem fgs_nil : FGs X [] [] wGNil := by
  refine ⟨pgs_imp pgs_nil ?_, fun r e Q Q' hq w => ⟨w.1, hq _ w.2⟩⟩
  rintro vs σ H Q ⟨P, B, ios, e, T, ds, nl, h, hl, rfl, w⟩
  cases vs with
  | nil => exact ⟨rfl, w σ H (.refl _ _) (by simpa using h)⟩
  | cons => simp at hl
theorem fgs_cons {js ks : List Nat} {gd : DG} {gs : DGs} (h1 : FG X a js gd) (h2 : FGs X es ks gs) (hs : (assignEach (a :: es) X.env).map (·.2) = assign a X.env :: (assignEach es X.env).map (·.2) := by rfl) : FGs X (a :: es) (js ++ ks) (wGCons gd gs) := by
  refine ⟨pgs_imp (pgs_cons h1.pg h2.pg hs) ?_, fun r e Q Q' hq w => ?_⟩
  · rintro vs σ H Q ⟨P, B, ios, e, T, ds, nl, ⟨M, h⟩, hl, d, rr, rfl, w⟩
    cases vs with
    | nil => simp at hl
    | cons v vs =>
      refine ⟨v, vs, rfl, P, B, ios, e, T ++ (rr.map Res.fz).zip vs, .fz d, ?_, ?_, ?_⟩
      · refine nl.app fun t ht i z => ?_
        have := (List.of_mem_zip ht).1
        rw [z] at this
        obtain ⟨y, _, q⟩ := List.mem_map.mp this
        cases q
      · have f := h.tfz (d := d) (v := v) (by simp)
        have : RepM X.K P B M ios e σ (T ++ [(.fz d, v)] ++ (rr.map Res.fz).zip vs) H := by simpa using h
        exact ⟨M, this.mid.push_fz f⟩
      · refine h1.mono _ _ _ _ (fun e1 w1 σ1 H1 sm r1 => ?_) w
        exact ⟨P, B, ios, e1, T, rr, nl, r1, by simpa using hl, h2.mono _ _ _ _ (fun e2 w2 σ2 H2 sm2 r2 => w2 σ2 H2 (sm.trans sm2) r2) w1⟩
  · obtain ⟨d, rr, e1, w⟩ := w
    exact ⟨d, rr, e1, h1.mono _ _ _ _ (fun e1 w1 => h2.mono _ _ _ _ hq w1) w⟩
def wGTup (n : Nat) (gs : DGs) : DG := fun r e Q => ∃ ds, look e r = some (.tuple ds) ∧ ds.length = n ∧ gs ds e Q
theorem RepM.pushList {K : PySem.W.Frag} {P B M : Hp} {ios : List (Nat × V)} {e : DEnv} {σ : L2.St} {H : Hp} : ∀ {ds : List D} {vs : List V} {T : Tmp}, RepM K P B M ios e σ T H → FzL K M ds vs → RepM K P B M ios e σ (T ++ (ds.map Res.fz).zip vs) H
  | [], vs, T, r, f => by simpa using r
  | d :: ds, [], T, r, f => by simpa using r
  | d :: ds, v :: vs, T, r, f => by
    obtain ⟨f1, f2⟩ := FzL.cons_iff.mp f
    have := RepM.pushList (r.push_fz f1) f2
    simpa using this
theorem fg_tup {js : List Nat} {k : Nat} {gs : DGs} {n : Nat} (hc : X.calm = true) (h : FGs X es js gs) (hn : (assignEach es X.env).length = n := by rfl) (hst : (assignEach es X.env).findIdx? (·.1) = none := by rfl) : FG X (.Tuple es k pos) js (wGTup n gs) := by
  refine ⟨pg_imp (pg_tup hc h.pg hn hst) ?_, fun r e Q Q' hq w => ?_⟩
  · rintro v σ H Q ⟨P, B, ios, e, T, r, nl, ⟨M, h1⟩, ds, l, ln, w⟩
    have hv : Fz X.K M (.tuple ds) v := h1.view (v := v) (by simp) l
    simp only [Fz] at hv
    obtain ⟨p, vs, rfl, q, f⟩ := hv
    exact ⟨p, vs, rfl, h1.mh.t q, by rw [← f.length]; exact ln, P, B, ios, e, T, ds, nl, ⟨M, h1.popN.pushList f⟩, f.length, w⟩
  · obtain ⟨ds, l, ln, w⟩ := w
    exact ⟨ds, l, ln, h.mono _ _ _ _ hq w⟩
/-- o[i] = .. of a slot's own list or dict -/
structure OpSet (K : PySem.W.Frag) (t : TSet) (g : D → D → D → (D → Prop) → Prop) : Prop where
  run : ∀ M H d a dk dv k v (Q : Hp → Prop), Ex M H → M a = none → OwnAt K M H d a → Fz K M dk k → Fz K M dv v → g d dk dv (fun d' => ∀ ob, OwnAt K M (upd H a ob) d' a → Q (upd H a ob)) → t (.ref a) k v H Q
  mono : ∀ d dk dv Q Q', (∀ d', Q d' → Q' d') → g d dk dv Q → g d dk dv Q'
def wGSub (g : D → D → D → (D → Prop) → Prop) (fo fi : DE) : DG := fun r e Q => fo e fun ro e1 => ∃ i, ro = .loc i ∧ fi e1 fun rk e2 => ∃ dv dk e3 k d, frzAll e2 [r, rk] = some ([dv, dk], e3) ∧ ownAt? e3 i = some (k, d) ∧ g d dk dv fun d' => Q (e3.set i (some (k, d')))
theorem fg_sub {t : TSet} {gd : D → D → D → (D → Prop) → Prop} (ho : FE X a fa) (hi : FE X b fb) (hs : PSet X t) (hg : OpSet X.K t gd)
    (ha : ∀ v, assign (.Subscript a b pos) X.env v = (do
      let ov ← holding [v] (eval a X.env)
      let iv ← holding [v, ov] (eval b X.env)
      standAt pos
      holding [v, ov, iv] (setItem ov iv v)
      release [v, ov, iv] []) := by intro _; rfl) : FG X (.Subscript a b pos) [] (wGSub gd fa fb) := by
  refine ⟨pg_imp (pg_sub ho.pe hi.pe hs ha) ?_, fun r e Q Q' hq w => ?_⟩
  · rintro v σ H Q ⟨P, B, ios, e, T, r, nl, h, w⟩
    refine ⟨P, B, ios, e, _, h, ho.mono _ _ _ (fun ro e1 w1 o H1 h1 => ?_) w⟩
    obtain ⟨i, rfl, w1⟩ := w1
    refine ⟨P, B, ios, e1, _, h1, hi.mono _ _ _ (fun rk e2 w2 y H2 h2 => ?_) w1⟩
    obtain ⟨dv, dk, e3, k, d, hf, ow, w3⟩ := w2
    obtain ⟨M, h2⟩ := h2
    -- the value and the key, frozen
    have h2' : RepM X.K P B M ios e2 σ (T ++ (r, v) :: ([(.loc i, o)] ++ [(rk, y)])) H2 := by simpa using h2
    unfold frzAll at hf
    split at hf
    · rename_i dv' e2' f1
      split at hf
      · rename_i ds2 e2'' f2
        unfold frzAll at f2
        split at f2
        · rename_i dk' e3' f3
          have f2' : some (dk' :: ([] : List D), e3') = some (ds2, e2'') := f2
          cases f2'
          cases hf
          obtain ⟨M1, x1, r1, q1⟩ := h2'.freezeAt f1
          have r1' : RepM X.K P B M1 ios e2' σ ((T ++ [(.fz dv, v)] ++ [(.loc i, o)]) ++ (rk, y) :: []) H2 := by simpa using r1
          obtain ⟨M2, x2, r2, q2⟩ := r1'.freezeAt f3
          obtain ⟨q, hk⟩ := ownAt_spec ow
          have hsl := r2.loc i o (by simp)
          obtain ⟨p, s, own, hm, hp⟩ := r2.owS q hk
          rw [hsl] at s; cases s
          refine hg.run M2 H2 d p dk dv y v _ r2.mh hm own q2 (q1.mono x2 _ _) (hg.mono _ _ _ _ _ (fun d' w4 ob ow' => ?_) w3)
          have r3 : RepM X.K P B M2 ios e3 σ (T ++ ([(.fz dv, v)] ++ [(.loc i, .ref p)] ++ [(.fz dk, y)])) H2 := by simpa using r2
          exact w4 σ _ (.refl _ _) ⟨M2, r3.popN.mutate q hk hsl ow'⟩
        · cases f2
      · cases hf
    · cases hf
  · refine ho.mono _ _ _ (fun ro e1 w1 => ?_) w
    obtain ⟨i, q, w1⟩ := w1
    refine ⟨i, q, hi.mono _ _ _ (fun rk e2 w2 => ?_) w1⟩
    obtain ⟨dv, dk, e3, k, d, hf, ow, w3⟩ := w2
    exact ⟨dv, dk, e3, k, d, hf, ow, hg.mono _ _ _ _ _ (fun d' w4 => hq _ w4) w3⟩
/-! ### assignments -/
def wAsg (f : DE) (g : DG) : DS := fun D e => f e fun r e1 => g r e1 D.nx
theorem fs_asg {tg : Expr} {js : List Nat} {gd : DG} (he : FE X a fa) (hg : FG X tg js gd) (hs : swapsWithSole [tg] a pos.line X.env = pure false := by rfl) (hw : swappedStores [tg] a X.env = pure none := by rfl)
    (h1 : (assignEach [tg] X.env).map (·.2) = [assign tg X.env] := by rfl) : FS X (.Assign [tg] a pos) (wAsg fa gd) := by
  refine ⟨ps_imp (ps_asg he.pe hg.pg hs hw h1) ?_, fun D D' e h w => he.mono _ _ _ (fun r e1 w1 => hg.mono _ _ _ _ h.nx w1) w⟩
  rintro D σ H ⟨P, B, ios, e, T, nl, r, w⟩
  refine ⟨P, B, ios, e, T, r, he.mono _ _ _ (fun r1 e1 w1 v H1 h1 => ?_) w⟩
  exact ⟨P, B, ios, e1, T, r1, nl, h1, hg.mono _ _ _ _ (fun e2 w2 σ2 H2 _ r2 => w2 σ2 H2 r2) w1⟩
/-- name = e -/
theorem fs_setT {i : Nat} {t : TE} (hp : PS X st (tAsg t (gName i))) (ht : ∀ σ H Q, tOf X.K fa σ H Q → t σ H Q) (hm : ∀ e Q Q', (∀ r e', Q r e' → Q' r e') → fa e Q → fa e Q') : FS X st (wAsg fa (asgn i)) := by
  refine ⟨ps_imp hp ?_, fun D D' e h w => hm _ _ _ (fun r e1 w1 => asgn_mono i _ _ _ _ h.nx w1) w⟩
  rintro D σ H ⟨P, B, ios, e, T, nl, r, w⟩
  refine ht _ _ _ ⟨P, B, ios, e, T, r, hm _ _ _ (fun r1 e1 w1 v H1 h1 => ?_) w⟩
  exact asgn_run (K := X.K) ⟨P, B, ios, e1, T, r1, nl, h1, asgn_mono i _ _ _ _ (fun e2 w2 σ2 H2 _ r2 => w2 σ2 H2 r2) w1⟩
theorem fs_set {i : Nat} {x : Str} {pos' : Pos} (he : FE X a fa) (hN : X.N.Nodup) (hi : X.N[i]? = some x) (hx : Loc X.env.scope x) (hs : swapsWith a (some (.Name x pos')) pos.line X.env = pure false := by rfl) (hf : X.fn x = true ∨ X.env.scope.names.lookup x = some .local := by first | exact .inl rfl | exact .inr rfl | assumption) :
    FS X (.Assign [.Name x pos'] a pos) (wAsg fa (asgn i)) := fs_setT (ps_set hN hi hx he.pe hs hf) (fun _ _ _ q => q) he.mono
end
end PL
set_option Elab.async false
set_option linter.all false
set_option autoImplicit false
set_option maxRecDepth 100000
set_option maxHeartbeats 4000000
/-! PLe: loops and comprehensions over data. -/
namespace PL
open PySem PySem.Spec PyProof.Rows L2

/-- the held temps of a loop: frozen ones alone -/
def AllFz (T : Tmp) : Prop := ∀ t ∈ T, ∃ d, t.1 = .fz d
theorem AllFz.noLoc {T : Tmp} (h : AllFz T) : NoLoc T := fun t ht i z => by
  obtain ⟨d, q⟩ := h t ht
  rw [q] at z; cases z
theorem allFz_zip (ds : List D) (vs : List V) : AllFz ((ds.map Res.fz).zip vs) := fun t ht => by
  have := (List.of_mem_zip (show (t.1, t.2) ∈ _ from ht)).1
  obtain ⟨d, _, q⟩ := List.mem_map.mp this
  exact ⟨d, q.symm⟩
abbrev DI := DEnv → (List D → DEnv → Prop) → Prop
/-- an iterator gives these items, while the held temps stand -/
structure WalkOk (K : PySem.W.Frag) (P B : Hp) (ios : List (Nat × V)) (T0 : Tmp) (items : List D) (J : It) : Prop where
  go : ∀ (i : Nat) ios' σ e T2 H d, Rep K P B ios' e σ (T0 ++ T2) H → items[i]? = some d → J.go i H ∧ ∀ x H2, J.yld i H x H2 → Rep K P B ios' e σ (T0 ++ T2 ++ [(.fz d, x)]) H2
  stop : ∀ (i : Nat) ios' σ e T2 H, Rep K P B ios' e σ (T0 ++ T2) H → items.length ≤ i → J.stop i H
def iOf (K : PySem.W.Frag) (f : DI) : TI := fun σ H R => ∃ P B ios e T, Rep K P B ios e σ T H ∧ f e fun items e' => ∀ J H' T', AllFz T' → Rep K P B ios e' σ (T ++ T') H' → (∀ T1, (∀ t ∈ T', t ∈ T1) → WalkOk K P B ios T1 items J) → R J H'
structure FI (X : Cx) (tg it : Expr) (f : DI) : Prop where
  pi : PI X tg it (iOf X.K f)
  mono : ∀ e Q Q', (∀ r e', Q r e' → Q' r e') → f e Q → f e Q'
theorem pi_imp {X : Cx} {tg it : Expr} {t t' : TI} (h : PI X tg it t) (i : ∀ σ H Q, t' σ H Q → t σ H Q) : PI X tg it t' := ⟨fun pins s σ H Q I q => h.run pins s σ H Q I (i _ _ _ q)⟩

/-! ### for -/
def forL (g : DG) (b : DS) (D : DEnds) : List PyData → DEnv → Prop
  | [], e => D.nx e
  | d :: ds, e => g (.fz d) e fun e1 => b { D with nx := fun e2 => forL g b D ds e2, ct := fun e2 => forL g b D ds e2, bk := D.nx } e1
def wFor (fi : DI) (g : DG) (b : DS) : DS := fun D e => fi e fun items e1 => forL g b D items e1
section
variable {X : Cx} {a b c : Expr} {es : List Expr} {fa fb fc : DE} {ta : DT} {pos : Pos} {sts : List Stmt}
theorem forL_mono {gd : DG} {bd : DS} (hg : ∀ r e Q Q', (∀ e', Q e' → Q' e') → gd r e Q → gd r e Q') (hb : ∀ D D' e, DLe D D' → bd D e → bd D' e) : ∀ (ds : List PyData) (D D' : DEnds) e, DLe D D' → forL gd bd D ds e → forL gd bd D' ds e
  | [], D, D', e, h, w => h.nx _ w
  | d :: ds, D, D', e, h, w => by
    refine hg _ _ _ _ (fun e1 w1 => ?_) w
    exact hb { D with nx := fun e2 => forL gd bd D ds e2, ct := fun e2 => forL gd bd D ds e2, bk := D.nx } _ _ ⟨fun e2 w2 => forL_mono hg hb ds D D' e2 h w2, h.rt, fun e2 w2 => h.nx e2 w2, fun e2 w2 => forL_mono hg hb ds D D' e2 h w2⟩ w1
theorem fs_for {tg iter : Expr} {js : List Nat} {fi : DI} {gd : DG} {bd : DS} (hp : PassesOwn (model X.prog X.w) X.A X.env X.xe) (hc : X.calm = true) (hi : FI X tg iter fi) (hg : FG X tg js gd) (hb : FSs X sts bd)
    (hs : ∀ x, foldedSetIterable iter X.env x = pure x := by intro _; rfl) : FS X (.For tg iter sts [] pos) (wFor fi gd bd) := by
  refine ⟨ps_imp (ps_for hp hc hi.pi hg.pg hb.ps hs) ?_, fun D D' e h w => hi.mono _ _ _ (fun items e1 w1 => forL_mono hg.mono hb.mono items D D' e1 h w1) w⟩
  rintro Dh σ H ⟨P, B, ios, e, T, nl, r, w⟩
  refine ⟨P, B, ios, e, T, r, hi.mono _ _ _ (fun items e1 w1 J H1 T' hf r1 wk => ?_) w⟩
  have nl' : NoLoc (T ++ T') := nl.app hf.noLoc
  have wk1 := wk (T ++ T') fun t ht => List.mem_append_right _ ht
  refine ⟨fun i m σ' H' => m = items.length - i ∧ i ≤ items.length ∧ ∃ e2, Rep X.K P B ios e2 σ' (T ++ T') H' ∧ forL gd bd (endsOf X.K P B ios T Dh) (items.drop i) e2, ⟨items.length, by omega, by omega, e1, r1, by simpa using w1⟩, ?_⟩
  rintro i m σ2 H2 ⟨rfl, hle, e2, r2, w2⟩
  by_cases hlt : i < items.length
  · have hd : items.drop i = items[i] :: items.drop (i + 1) := List.drop_eq_getElem_cons hlt
    rw [hd] at w2
    obtain ⟨hgo, hyl⟩ := wk1.go i ios σ2 e2 [] H2 items[i] (by simpa using r2) (List.getElem?_eq_getElem hlt)
    refine .inr ⟨hgo, fun σ' H' => ∃ e3, Rep X.K P B ios e3 σ' (T ++ T') H' ∧ forL gd bd (endsOf X.K P B ios T Dh) (items.drop (i + 1)) e3, fun σ' H' hN => ⟨items.length - (i + 1), by omega, rfl, hlt, hN⟩, fun x H3 hy => ?_⟩
    have r3 : Rep X.K P B ios e2 σ2 (T ++ T' ++ [(.fz items[i], x)]) H3 := by simpa using hyl x H3 hy
    refine ⟨P, B, ios, e2, T ++ T', .fz items[i], nl', r3, hg.mono _ _ _ _ (fun e3 w3 σ4 H4 _ r4 => ?_) w2⟩
    refine ⟨P, B, ios, e3, T ++ T', nl', r4, hb.mono _ _ _ ⟨?_, ?_, ?_, ?_⟩ w3⟩
    · exact fun e5 w5 σ5 H5 r5 => ⟨e5, r5, w5⟩
    · exact fun rr e5 w5 v σ5 H5 r5 => w5 v σ5 H5 r5.mid
    · exact fun e5 w5 σ5 H5 r5 => w5 σ5 H5 r5.popN
    · exact fun e5 w5 σ5 H5 r5 => ⟨e5, r5, w5⟩
  · have hi' : i = items.length := by omega
    subst hi'
    rw [List.drop_length] at w2
    exact .inl ⟨wk1.stop _ ios σ2 e2 [] H2 (by simpa using r2) (Nat.le_refl _), w2 σ2 H2 r2.popN⟩

/-! ### while -/
def wWhile (c : DT) (b : DS) : DS := fun D e => ∃ W : Nat → DEnv → Prop, (∃ m, W m e) ∧ ∀ m e, W m e → c e fun k e1 => if k = true then ∃ N : DEnv → Prop, (∀ e', N e' → ∃ m', m' < m ∧ W m' e') ∧ b { D with nx := N, ct := N, bk := D.nx } e1 else D.nx e1
theorem fs_while {bd : DS} (hp : PassesOwn (model X.prog X.w) X.A X.env X.xe) (hc : FT X c ta) (hb : FSs X sts bd) : FS X (.While c sts [] pos) (wWhile ta bd) := by
  refine ⟨ps_imp (ps_while hp hc.pt hb.ps) ?_, fun D D' e h w => ?_⟩
  · rintro Dh σ H ⟨P, B, ios, e, T, nl, r, W, ⟨m0, w0⟩, turn⟩
    refine ⟨fun m σ' H' => ∃ e', Rep X.K P B ios e' σ' T H' ∧ W m e', ⟨m0, e, r, w0⟩, ?_⟩
    rintro m σ1 H1 ⟨e1, r1, w1⟩
    refine ⟨P, B, ios, e1, T, r1, hc.mono _ _ _ (fun k e2 w2 H2 r2 => ?_) (turn m e1 w1)⟩
    cases k with
    | true =>
      obtain ⟨N, hN, w3⟩ := (if_pos (rfl : true = true)).mp w2
      refine iteT ⟨fun σ' H' => ∃ e', Rep X.K P B ios e' σ' T H' ∧ N e', ?_, ?_⟩
      · rintro σ' H' ⟨e', r', n'⟩
        obtain ⟨m', hm, w'⟩ := hN e' n'
        exact ⟨m', hm, e', r', w'⟩
      · exact ⟨P, B, ios, e2, T, nl, r2, hb.mono { endsOf X.K P B ios T Dh with nx := N, ct := N, bk := (endsOf X.K P B ios T Dh).nx } _ _ ⟨fun e5 w5 σ5 H5 r5 => ⟨e5, r5, w5⟩, fun _ _ q => q, fun _ q => q, fun e5 w5 σ5 H5 r5 => ⟨e5, r5, w5⟩⟩ w3⟩
    | false =>
      refine iteF ?_
      have w3 : (endsOf X.K P B ios T Dh).nx e2 := by simpa using w2
      exact w3 σ1 H2 r2
  · obtain ⟨W, w0, turn⟩ := w
    refine ⟨W, w0, fun m e1 w1 => hc.mono _ _ _ (fun k e2 w2 => ?_) (turn m e1 w1)⟩
    cases k with
    | true =>
      obtain ⟨N, hN, w3⟩ := (if_pos (rfl : true = true)).mp w2
      exact iteT ⟨N, hN, hb.mono { D with nx := N, ct := N, bk := D.nx } _ _ ⟨fun _ q => q, h.rt, fun e q => h.nx e q, fun _ q => q⟩ w3⟩
    | false => exact iteF (h.nx _ (by simpa using w2))

/-! ### comprehensions -/
def wipeE (e : DEnv) : List Nat → DEnv
  | [] => e
  | v :: vs => (wipeE e vs).set v none
def restE (e1 e2 : DEnv) : List Nat → DEnv
  | [] => e2
  | v :: vs => match e1[v]? with
    | some (some (.fz, d)) => (restE e1 e2 vs).set v (some (.fz, d))
    | _ => restE e1 e2 vs
def lcL (g : DG) (t : DT) (f : DE) (vs : List Nat) (Q : List D → DEnv → Prop) : List D → List D → DEnv → Prop
  | [], acc, e => Q acc e
  | d :: ds, acc, e => g (.fz d) e fun e1 => t e1 fun k e2 => if k = true then f e2 fun r e3 => ∃ y e4, frz e3 r = some (y, e4) ∧ lcL g t f vs Q ds (acc ++ [y]) (wipeE e4 vs) else lcL g t f vs Q ds acc (wipeE e2 vs)
def wLc (fi : DI) (g : DG) (t : DT) (f : DE) (vs : List Nat) : DE := fun e Q => fi e fun items e1 => items.length ≤ 100000 ∧ (∀ v ∈ vs, okSlot e1 v = true) ∧ lcL g t f vs (fun acc e2 => Q (.ow (.list acc)) (restE e1 e2 vs)) items [] (wipeE e1 vs)
theorem lcL_mono {gd : DG} {t : DT} {f : DE} {vs : List Nat} (hg : ∀ r e Q Q', (∀ e', Q e' → Q' e') → gd r e Q → gd r e Q') (ht : ∀ e Q Q', (∀ r e', Q r e' → Q' r e') → t e Q → t e Q') (hf : ∀ e Q Q', (∀ r e', Q r e' → Q' r e') → f e Q → f e Q')
    {Q Q' : List D → DEnv → Prop} (h : ∀ acc e, Q acc e → Q' acc e) : ∀ (ds acc : List D) e, lcL gd t f vs Q ds acc e → lcL gd t f vs Q' ds acc e
  | [], acc, e, w => h _ _ w
  | d :: ds, acc, e, w => by
    refine hg _ _ _ _ (fun e1 w1 => ht _ _ _ (fun k e2 w2 => ?_) w1) w
    cases k with
    | true =>
      refine iteT (hf _ _ _ (fun r e3 w3 => ?_) ((if_pos (rfl : true = true)).mp w2))
      obtain ⟨y, e4, q, w4⟩ := w3
      exact ⟨y, e4, q, lcL_mono hg ht hf h ds _ _ w4⟩
    | false => exact iteF (lcL_mono hg ht hf h ds _ _ (by simpa using w2))
theorem wipeE_len (e : DEnv) : ∀ vs, (wipeE e vs).length = e.length
  | [] => rfl
  | v :: vs => by unfold wipeE; rw [List.length_set, wipeE_len e vs]
theorem wipeE_get {e : DEnv} : ∀ {vs : List Nat} {i : Nat} {x : Kd × D}, (wipeE e vs)[i]? = some (some x) → e[i]? = some (some x) ∧ i ∉ vs
  | [], i, x, h => ⟨h, by simp⟩
  | v :: vs, i, x, h => by
    unfold wipeE at h
    rw [List.getElem?_set] at h
    split at h
    · split at h <;> simp at h
    · rename_i hij
      obtain ⟨h1, h2⟩ := wipeE_get h
      exact ⟨h1, by simp only [List.mem_cons, not_or]; exact ⟨fun z => hij z.symm, h2⟩⟩
theorem wipe_get {σ : L2.St} : ∀ {vs : List Nat} {i : Nat}, (wipe σ vs)[i]? = if i ∈ vs then (if i < σ.length then some none else none) else σ[i]?
  | [], i => by simp [wipe]
  | v :: vs, i => by
    unfold wipe
    rw [List.getElem?_set, wipe_length]
    by_cases hv : v = i
    · subst hv; simp
    · rw [if_neg hv, wipe_get]
      have : (i ∈ v :: vs) ↔ i ∈ vs := by
        simp only [List.mem_cons]
        exact ⟨fun h => h.resolve_left fun z => hv z.symm, .inr⟩
      simp only [this]
theorem wipe_same {js vs : List Nat} {σ σ2 : L2.St} (h : SameBut js (wipe σ vs) σ2) (hj : ∀ j ∈ js, j ∈ vs) : wipe σ2 vs = wipe σ vs := by
  apply List.ext_getElem?
  intro i
  rw [wipe_get, wipe_get]
  have hl : σ2.length = σ.length := h.1.trans (wipe_length σ vs)
  rw [hl]
  split
  · rfl
  · rename_i hi
    rw [h.2 i fun z => hi (hj i z), wipe_get, if_neg hi]
def junkT (T : Tmp) : Tmp := T.map fun t => match t.1 with
  | .loc _ => (.junk, t.2)
  | _ => t
theorem junk_tE (T : Tmp) : tE (junkT T) = tE T := by
  unfold tE junkT
  rw [List.map_map]
  apply List.map_congr_left
  intro t _
  obtain ⟨r, v⟩ := t
  cases r <;> rfl
theorem junk_tV (T : Tmp) : tV (junkT T) = tV T := by
  unfold tV junkT
  rw [List.map_map]
  apply List.map_congr_left
  intro t _
  obtain ⟨r, v⟩ := t
  cases r <;> rfl
theorem junk_noLoc (T : Tmp) : NoLoc (junkT T) := fun t ht i z => by
  obtain ⟨⟨r, v⟩, _, q⟩ := List.mem_map.mp ht
  cases r <;> (dsimp only at q; rw [← q] at z; cases z)
theorem okSlot_ne {e : DEnv} {i j : Nat} {d : D} (h : okSlot e i = true) (q : e[j]? = some (some (.io, d))) : i ≠ j := by
  rintro rfl; exact okSlot_io h q
/-- the own slots of a comprehension forgotten -/
theorem RepM.wipe {K : PySem.W.Frag} {P B M : Hp} {ios : List (Nat × V)} {e : DEnv} {σ : L2.St} {T : Tmp} {H : Hp} {vs : List Nat} (r : RepM K P B M ios e σ T H) (hv : ∀ j w, (j, w) ∈ ios → j ∉ vs) :
    RepM K P B M ios (wipeE e vs) (wipe σ vs) (junkT T) H := by
  refine ⟨?_, by rw [wipeE_len, wipe_length]; exact r.el, fun i v q => absurd rfl (junk_noLoc T _ q i), fun j w q => ?_⟩
  · rw [junk_tE, junk_tV]
    refine r.c.forget2 (by simp [wipeE_len]) (by simp [wipe_length]) fun i x q => ?_
    by_cases hi : i < e.length
    · rw [List.getElem?_append_left (by rw [wipeE_len]; exact hi)] at q
      obtain ⟨q1, q2⟩ := wipeE_get q
      refine ⟨left_get q1, ?_⟩
      rw [List.getElem?_append_left (by rw [wipe_length, ← r.el]; exact hi), List.getElem?_append_left (by rw [← r.el]; exact hi), wipe_out q2]
    · rw [List.getElem?_append_right (by rw [wipeE_len]; omega), wipeE_len] at q
      rw [List.getElem?_append_right (by omega)]
      refine ⟨q, ?_⟩
      rw [List.getElem?_append_right (by rw [wipe_length, ← r.el]; omega), List.getElem?_append_right (by rw [← r.el]; omega), wipe_length]
  · obtain ⟨s, d, q'⟩ := r.io j w q
    have hj : j ∉ vs := hv j w q
    refine ⟨by rw [wipe_out hj]; exact s, d, ?_⟩
    have : ∀ vs : List Nat, j ∉ vs → (wipeE e vs)[j]? = some (some (.io, d)) := by
      intro vs
      induction vs with
      | nil => intro _; exact q'
      | cons v vs ih =>
        intro h
        simp only [List.mem_cons, not_or] at h
        unfold wipeE
        rw [List.getElem?_set, if_neg fun z => h.1 z.symm]
        exact ih h.2
    exact this vs hj
/-- the saved ones -/
def savT (e : DEnv) (σ : L2.St) (vs : List Nat) : Tmp := vs.filterMap fun v => match e[v]?, σ[v]? with
  | some (some (.fz, d)), some (some w) => some (.fz d, w)
  | _, _ => none
theorem savT_fz (e : DEnv) (σ : L2.St) (vs : List Nat) : AllFz (savT e σ vs) := fun t ht => by
  obtain ⟨v, _, q⟩ := List.mem_filterMap.mp ht
  try dsimp only at q
  split at q
  · cases q; exact ⟨_, rfl⟩
  · cases q
theorem RepM.sav {K : PySem.W.Frag} {P B M : Hp} {ios : List (Nat × V)} {e : DEnv} {σ : L2.St} {H : Hp} {T' : Tmp} (r : RepM K P B M ios e σ T' H) {ios2 : List (Nat × V)} {e2 : DEnv} {σ2 : L2.St} : ∀ {vs : List Nat} {T : Tmp}, RepM K P B M ios2 e2 σ2 T H → RepM K P B M ios2 e2 σ2 (T ++ savT e σ vs) H
  | [], T, r2 => by simpa [savT] using r2
  | v :: vs, T, r2 => by
    unfold savT
    rw [List.filterMap_cons]
    try dsimp only
    split
    · exact RepM.sav r r2
    · rename_i t q
      split at q
      · rename_i d w q1 q2
        cases q
        obtain ⟨w', s, f⟩ := r.fzS q1
        rw [q2] at s; cases s
        have := RepM.sav r (vs := vs) (r2.push_fz f)
        simpa [savT] using this
      · cases q
theorem restE_len (e1 e2 : DEnv) : ∀ vs, (restE e1 e2 vs).length = e2.length
  | [] => rfl
  | v :: vs => by
    unfold restE
    split
    · rw [List.length_set, restE_len e1 e2 vs]
    · exact restE_len e1 e2 vs
/-- back from a comprehension's block -/
theorem RepM.unwipe {K : PySem.W.Frag} {P B M M1 : Hp} {ios : List (Nat × V)} {e1 e2 : DEnv} {σ : L2.St} {T T1 : Tmp} {H H1 : Hp} {vs : List Nat} (r0 : RepM K P B M1 ios e1 σ T1 H1) (hT : ∀ i v, (Res.loc i, v) ∈ T → (Res.loc i, v) ∈ T1) (hv : ∀ v ∈ vs, okSlot e1 v = true) (hl : e2.length = e1.length)
    (r : RepM K P B M ios e2 (L2.wipe σ vs) (junkT T) H) (h2 : ∀ v ∈ vs, ∀ x, e2[v]? ≠ some (some x)) (hs : ∀ t ∈ savT e1 σ vs, ∀ d w, t = (.fz d, w) → Fz K M d w) : RepM K P B M ios (restE e1 e2 vs) σ T H := by
  have step1 : RepC K P B M (e2 ++ tE T) (σ ++ tV T) H := by
    have c := r.c
    rw [junk_tE, junk_tV] at c
    refine c.forget2 rfl (by simp [wipe_length]) fun i x q => ⟨q, ?_⟩
    by_cases hi : i < e2.length
    · rw [List.getElem?_append_left hi] at q
      have hn : i ∉ vs := fun z => h2 i z x q
      rw [List.getElem?_append_left (by rw [← r0.el]; omega), List.getElem?_append_left (by rw [wipe_length, ← r0.el]; omega), wipe_out hn]
    · rw [List.getElem?_append_right (by rw [← r0.el]; omega), List.getElem?_append_right (by rw [wipe_length, ← r0.el]; omega), wipe_length]
  have step2 : ∀ us : List Nat, (∀ u ∈ us, u ∈ vs) → RepC K P B M (restE e1 e2 us ++ tE T) (σ ++ tV T) H := by
    intro us
    induction us with
    | nil => intro _; exact step1
    | cons u us ih =>
      intro hu
      have ih := ih fun x hx => hu x (List.mem_cons_of_mem _ hx)
      unfold restE
      split
      · rename_i x d q
        obtain ⟨w, s, _⟩ := r0.fzS q
        have hlt := (List.getElem?_eq_some_iff.mp q).1
        have f : Fz K M d w := hs (.fz d, w) (by
          refine List.mem_filterMap.mpr ⟨u, hu u (by simp), ?_⟩
          try dsimp only
          rw [q, s]) d w rfl
        have := ih.set_fz (i := u) f
        rw [set_left (by rw [restE_len]; omega), set_same (show (σ ++ tV T)[u]? = some (some w) from left_get s)] at this
        exact this
      · exact ih
  refine ⟨step2 vs fun _ h => h, by rw [restE_len, hl]; exact r0.el, fun i v q => r0.loc i v (hT i v q), fun j w q => ?_⟩
  obtain ⟨s, d, q'⟩ := r0.io j w q
  obtain ⟨s2, d2, q2⟩ := r.io j w q
  have hj : j ∉ vs := fun z => okSlot_ne (hv j z) q' rfl
  refine ⟨s, d2, ?_⟩
  have : ∀ us : List Nat, j ∉ us → (restE e1 e2 us)[j]? = some (some (.io, d2)) := by
    intro us
    induction us with
    | nil => intro _; exact q2
    | cons u us ih =>
      intro h
      simp only [List.mem_cons, not_or] at h
      unfold restE
      split
      · rw [List.getElem?_set, if_neg fun z => h.1 z.symm]; exact ih h.2
      · exact ih h.2
  exact this vs hj
theorem junk_app (T T' : Tmp) : junkT (T ++ T') = junkT T ++ junkT T' := List.map_append
theorem junk_of {T : Tmp} (h : NoLoc T) : junkT T = T := by
  unfold junkT
  conv => rhs; rw [← List.map_id T]
  apply List.map_congr_left
  intro t ht
  obtain ⟨r, v⟩ := t
  cases r with
  | loc i => exact absurd rfl (h _ ht i)
  | _ => rfl
structure FTs (X : Cx) (e : List Expr) (f : DT) : Prop where
  pt : PTs X e (ttOf X.K f)
  mono : ∀ e Q Q', (∀ r e', Q r e' → Q' r e') → f e Q → f e Q'
theorem pts_imp {X : Cx} {e : List Expr} {t t' : TT} (h : PTs X e t) (i : ∀ σ H Q, t' σ H Q → t σ H Q) : PTs X e t' := ⟨fun pins s σ H Q I q => h.run pins s σ H Q I (i _ _ _ q)⟩
def wYes : DT := fun e Q => Q true e
theorem fts_nil {X : Cx} : FTs X [] wYes := by
  refine ⟨pts_imp pts_nil ?_, fun e Q Q' h w => h _ _ w⟩
  rintro σ H Q ⟨P, B, ios, e, T, r, w⟩
  exact w H r
theorem fts_one {X : Cx} {c : Expr} {t : DT} (h : FT X c t) : FTs X [c] t := ⟨pts_one h.pt, h.mono⟩
/-- a temp that is owned is changed -/
theorem RepM.mutT {K : PySem.W.Frag} {P B M : Hp} {ios : List (Nat × V)} {e : DEnv} {σ : L2.St} {T T2 : Tmp} {H : Hp} {d d' : D} {p : Addr} {o : HO} (r : RepM K P B M ios e σ (T ++ (.ow d, .ref p) :: T2) H) (h' : OwnAt K M (upd H p o) d' p) :
    RepM K P B M ios e σ (T ++ (.ow d', .ref p) :: T2) (upd H p o) := by
  have ht : (T ++ (Res.ow d, V.ref p) :: T2)[T.length]? = some (.ow d, .ref p) := by simp
  obtain ⟨t1, t2⟩ := r.tget ht
  have c := r.c.mutate t1 rfl t2 h'
  refine ⟨?_, r.el, fun i v q => r.loc i v (mem_mid q (by intro z; cases z)), r.io⟩
  have e1 : (e ++ tE (T ++ (Res.ow d, V.ref p) :: T2)).set (e.length + T.length) (some (.ow, d')) = e ++ tE (T ++ (Res.ow d', V.ref p) :: T2) := by
    rw [tE_app, tE_app, ← List.append_assoc, ← List.append_assoc]
    show ((e ++ tE T) ++ tS (.ow d) :: tE T2).set _ _ = _
    rw [set_midd (by simp [tE_len])]
    rfl
  rw [e1] at c
  have e2 : tV (T ++ (Res.ow d', V.ref p) :: T2) = tV (T ++ (Res.ow d, V.ref p) :: T2) := by rw [tV_app, tV_app]; rfl
  rw [e2]
  exact c
theorem lc_run {tg iter elt : Expr} {ifs : List Expr} {js vs : List Nat} {fi : DI} {gd : DG} {t : DT} {f : DE} (hi : ∀ e Q Q', (∀ r e', Q r e' → Q' r e') → fi e Q → fi e Q')
    (hg : ∀ r e Q Q', (∀ e', Q e' → Q' e') → gd r e Q → gd r e Q') (ht : ∀ e Q Q', (∀ r e', Q r e' → Q' r e') → t e Q → t e Q') (hf : ∀ e Q Q', (∀ r e', Q r e' → Q' r e') → f e Q → f e Q') (hj : ∀ j ∈ js, j ∈ vs) (σ : L2.St) (H : Hp) (Q : VK) :
    tOf X.K (wLc fi gd t f vs) σ H Q → tLc (iOf X.K fi) (gOf X.K js gd) (ttOf X.K t) (tOf X.K f) vs σ H Q := by
  rintro ⟨P, B, ios, e, T, r, w⟩
  refine ⟨P, B, ios, e, T, r, hi _ _ _ (fun items e1 w1 J H1 T' hfz r1 wk p hp => ?_) w⟩
  obtain ⟨hlen, hok, w1⟩ := w1
  obtain ⟨M1, m1⟩ := r1
  have hio : ∀ j w, (j, w) ∈ ios → j ∉ vs := fun j w q z => by
    obtain ⟨_, d, q'⟩ := m1.io j w q
    exact okSlot_ne (hok j z) q' rfl
  have m2 := m1.wipe hio
  rw [junk_app, junk_of hfz.noLoc] at m2
  have m3 := m1.sav (vs := vs) m2
  have hS := savT_fz e1 σ vs
  generalize hT0 : junkT T ++ T' ++ savT e1 σ vs = T0 at m3
  have nl0 : NoLoc T0 := by rw [← hT0]; exact ((junk_noLoc T).app hfz.noLoc).app hS.noLoc
  have hT' : ∀ x ∈ T', x ∈ T0 := fun x hx => by rw [← hT0]; exact List.mem_append_left _ (List.mem_append_right _ hx)
  have m4 : RepM X.K P B M1 ios (wipeE e1 vs) (L2.wipe σ vs) (T0 ++ [(.ow (.list []), .ref p)]) (upd H1 p (.lst [])) :=
    (m3.alloc hp).push_ow ⟨[], upd_same, .nil⟩ (m3.mh.none hp) (m3.c.ph.none hp) fun i k d' h hk => m3.c.ne_new hp h hk
  have none_of : ∀ (e2 : DEnv), ∀ v ∈ vs, ∀ x, (wipeE e2 vs)[v]? ≠ some (some x) := fun e2 v hv x q => (wipeE_get q).2 hv
  refine ⟨fun i m H' => m = items.length - i ∧ i ≤ items.length ∧ ∃ e2 acc, Rep X.K P B ios e2 (L2.wipe σ vs) (T0 ++ [(.ow (.list acc), .ref p)]) H' ∧ acc.length ≤ i ∧ (∀ v ∈ vs, ∀ x, e2[v]? ≠ some (some x)) ∧
    lcL gd t f vs (fun acc e2 => ∀ v H', Rep X.K P B ios (restE e1 e2 vs) σ (T ++ [(.ow (.list acc), v)]) H' → Q v H') (items.drop i) acc e2, ⟨items.length, by omega, by omega, _, [], ⟨M1, m4⟩, Nat.le_refl _, none_of e1, by simpa using w1⟩, ?_⟩
  rintro i m H2 ⟨rfl, hle, e2, acc, r2, hacc, hn2, w2⟩
  have nlo : NoLoc [((Res.ow (.list acc)), V.ref p)] := fun t ht i z => by
    rw [List.mem_singleton] at ht
    rw [ht] at z
    cases z
  by_cases hlt : i < items.length
  · have hd : items.drop i = items[i] :: items.drop (i + 1) := List.drop_eq_getElem_cons hlt
    rw [hd] at w2
    obtain ⟨hgo, hyl⟩ := (wk (T0 ++ [(.ow (.list acc), .ref p)]) fun x hx => List.mem_append_left _ (hT' x hx)).go i ios (L2.wipe σ vs) e2 [] H2 items[i] (by simpa using r2) (List.getElem?_eq_getElem hlt)
    refine .inr ⟨hgo, fun H' => ∃ e2 acc, Rep X.K P B ios e2 (L2.wipe σ vs) (T0 ++ [(.ow (.list acc), .ref p)]) H' ∧ acc.length ≤ i + 1 ∧ (∀ v ∈ vs, ∀ x, e2[v]? ≠ some (some x)) ∧
      lcL gd t f vs (fun acc e2 => ∀ v H', Rep X.K P B ios (restE e1 e2 vs) σ (T ++ [(.ow (.list acc), v)]) H' → Q v H') (items.drop (i + 1)) acc e2, fun H' hN => ⟨items.length - (i + 1), by omega, rfl, hlt, hN⟩, fun x H3 hy => ?_⟩
    have r3 : Rep X.K P B ios e2 (L2.wipe σ vs) (T0 ++ [(.ow (.list acc), .ref p)] ++ [(.fz items[i], x)]) H3 := by simpa using hyl x H3 hy
    refine ⟨P, B, ios, e2, _, .fz items[i], nl0.app nlo, r3, hg _ _ _ _ (fun e3 w3 σ3 H4 sm r4 => ⟨wipe_same sm hj, ?_⟩) w2⟩
    have ws : L2.wipe σ3 vs = L2.wipe σ vs := wipe_same sm hj
    refine ⟨P, B, ios, e3, _, r4, ht _ _ _ (fun k e4 w4 H5 r5 => ?_) w3⟩
    cases k with
    | false =>
      refine iteF ⟨wipeE e4 vs, acc, ?_, by omega, none_of e4, by simpa using w4⟩
      obtain ⟨M5, m5⟩ := r5
      have := m5.wipe hio
      rw [junk_of (nl0.app nlo), ws] at this
      exact ⟨M5, this⟩
    | true =>
      refine iteT ⟨P, B, ios, e4, _, r5, hf _ _ _ (fun rr e5 w5 y H6 r6 => ?_) ((if_pos (rfl : true = true)).mp w4)⟩
      obtain ⟨yd, e6, hfr, w6⟩ := w5
      obtain ⟨M6, m6⟩ := r6
      obtain ⟨M7, x7, m7, f7⟩ := m6.freezeAt (T2 := []) hfr
      obtain ⟨q, hq, ow, hm, _⟩ := m7.tow (d := .list acc) (v := .ref p) (by simp)
      cases hq
      obtain ⟨us, hus, fl⟩ := ow
      have m8 := RepM.mutT (T := T0) (T2 := [(Res.fz yd, y)]) (d' := .list (acc ++ [yd])) (o := .lst (us ++ [y])) (by simpa using m7) ⟨_, upd_same, fl.append (.cons f7 .nil)⟩
      have m9 : RepM X.K P B M7 ios e6 σ3 (T0 ++ [(.ow (.list (acc ++ [yd])), .ref p)]) (upd H6 p (.lst (us ++ [y]))) := by
        have : RepM X.K P B M7 ios e6 σ3 (T0 ++ [(.ow (.list (acc ++ [yd])), .ref p)] ++ [(Res.fz yd, y)]) (upd H6 p (.lst (us ++ [y]))) := by simpa using m8
        exact this.popN
      have nlo2 : NoLoc [((Res.ow (.list (acc ++ [yd]))), V.ref p)] := fun t ht i z => by
        rw [List.mem_singleton] at ht
        rw [ht] at z
        cases z
      have m10 := m9.wipe hio
      rw [junk_of (nl0.app nlo2), ws] at m10
      have hul := fl.length
      exact ⟨us, hus, Nat.lt_of_lt_of_le (by omega : us.length < 100001) (by decide), wipeE e6 vs, acc ++ [yd], ⟨M7, m10⟩, by simp; omega, none_of e6, w6⟩
  · have hi' : i = items.length := by omega
    subst hi'
    rw [List.drop_length] at w2
    refine .inl ⟨(wk (T0 ++ [(.ow (.list acc), .ref p)]) fun x hx => List.mem_append_left _ (hT' x hx)).stop _ ios (L2.wipe σ vs) e2 [] H2 (by simpa using r2) (Nat.le_refl _), w2 (.ref p) H2 ?_⟩
    obtain ⟨M2, m2'⟩ := r2
    have hel : e2.length = e1.length := by rw [m2'.el, wipe_length, ← m1.el]
    have ms : RepM X.K P B M2 ios e2 (L2.wipe σ vs) (junkT T ++ (T' ++ savT e1 σ vs) ++ [(.ow (.list acc), .ref p)]) H2 := by rw [← hT0] at m2'; simpa using m2'
    have mm := ms.mid
    refine ⟨M2, m1.unwipe (T := T ++ [(.ow (.list acc), .ref p)]) (e2 := e2) (fun i v q => ?_) hok hel ?_ hn2 fun t ht' d w hq => ?_⟩
    · rcases List.mem_append.mp q with q | q
      · exact List.mem_append_left _ q
      · simp at q
    · rw [junk_app, junk_of nlo]; exact mm
    · subst hq
      exact ms.tfz (d := d) (v := w) (List.mem_append_left _ (List.mem_append_right _ (List.mem_append_right _ ht')))
theorem fe_lc {tg iter elt : Expr} {ifs : List Expr} {scope : Scope} {own : List (Str × Nat)} {js : List Nat} {fi : DI} {gd : DG} {t : DT} {f : DE} (hc : X.calm = true) (hN : X.N.Nodup) (hi : FI X tg iter fi) (ok : BlkOk X.N X.env.scope scope own)
    (hg : ∀ (s : Shared) (H : Hp) (C : Addr) (cl : List (Str × Addr)) (fp : List Addr), FG (X.blk s H scope (compEnvC scope cl C X.env) fp) tg js gd) (ht : ∀ (s : Shared) (H : Hp) (C : Addr) (cl : List (Str × Addr)) (fp : List Addr), FTs (X.blk s H scope (compEnvC scope cl C X.env) fp) ifs t)
    (he : ∀ (s : Shared) (H : Hp) (C : Addr) (cl : List (Str × Addr)) (fp : List Addr), FE (X.blk s H scope (compEnvC scope cl C X.env) fp) elt f) (hj : ∀ j ∈ js, j ∈ own.map (·.2)) (hs : ∀ x, foldedSetIterable iter X.env x = pure x := by intro _; rfl) :
    FE X (.ListComp elt [⟨tg, iter, ifs, 0⟩] scope pos) (wLc fi gd t f (own.map (·.2))) := by
  have s0 : Shared := {}
  have gm := (hg s0 (fun _ => none) 0 [] []).mono
  have tm := (ht s0 (fun _ => none) 0 [] []).mono
  have fm := (he s0 (fun _ => none) 0 [] []).mono
  refine ⟨pe_imp (pe_lc hc hN hi.pi ok (fun s H C cl fp => (hg s H C cl fp).pg) (fun s H C cl fp => (ht s H C cl fp).pt) (fun s H C cl fp => (he s H C cl fp).pe) hs) (lc_run (tg := tg) (iter := iter) (elt := elt) (ifs := ifs) hi.mono gm tm fm hj), fun e Q Q' h w => ?_⟩
  refine hi.mono _ _ _ (fun items e1 w1 => ?_) w
  exact ⟨w1.1, w1.2.1, lcL_mono gm tm fm (fun acc e2 w2 => h _ _ w2) _ _ _ w1.2.2⟩
/-- name = [..] on one line, the name a local -/
theorem fs_setLc {i : Nat} {y : Str} {py : Pos} {tg iter elt : Expr} {ifs : List Expr} {scope : Scope} {own : List (Str × Nat)} {js : List Nat} {fi : DI} {gd : DG} {t : DT} {f : DE} {spos : Pos} (hc : X.calm = true) (hN : X.N.Nodup) (hy : X.N[i]? = some y) (hyl : X.env.scope.names.lookup y = some .local)
    (hsw : swapsWith (.ListComp elt [⟨tg, iter, ifs, 0⟩] scope pos) (some (.Name y py)) spos.line X.env = pure true) (hi : FI X tg iter fi) (ok : BlkOk X.N X.env.scope scope own)
    (hg : ∀ (s : Shared) (H : Hp) (C : Addr) (cl : List (Str × Addr)) (fp : List Addr), FG (X.blk s H scope (compEnvC scope cl C X.env) fp) tg js gd) (ht : ∀ (s : Shared) (H : Hp) (C : Addr) (cl : List (Str × Addr)) (fp : List Addr), FTs (X.blk s H scope (compEnvC scope cl C X.env) fp) ifs t)
    (he : ∀ (s : Shared) (H : Hp) (C : Addr) (cl : List (Str × Addr)) (fp : List Addr), FE (X.blk s H scope (compEnvC scope cl C X.env) fp) elt f) (hj : ∀ j ∈ js, j ∈ own.map (·.2)) (hs : ∀ x, foldedSetIterable iter X.env x = pure x := by intro _; rfl) :
    FS X (.Assign [.Name y py] (.ListComp elt [⟨tg, iter, ifs, 0⟩] scope pos) spos) (wAsg (wLc fi gd t f (own.map (·.2))) (asgn i)) := by
  have s0 : Shared := {}
  have gm := (hg s0 (fun _ => none) 0 [] []).mono
  have tm := (ht s0 (fun _ => none) 0 [] []).mono
  have fm := (he s0 (fun _ => none) 0 [] []).mono
  refine fs_setT (ps_setLc hc hN hy hyl hsw hi.pi ok (fun s H C cl fp => (hg s H C cl fp).pg) (fun s H C cl fp => (ht s H C cl fp).pt) (fun s H C cl fp => (he s H C cl fp).pe) hs) (lc_run (tg := tg) (iter := iter) (elt := elt) (ifs := ifs) hi.mono gm tm fm hj) fun e Q Q' h w => ?_
  refine hi.mono _ _ _ (fun items e1 w1 => ?_) w
  exact ⟨w1.1, w1.2.1, lcL_mono gm tm fm (fun acc e2 w2 => h _ _ w2) _ _ _ w1.2.2⟩
end
end PL
set_option Elab.async false
set_option linter.all false
set_option autoImplicit false
set_option maxRecDepth 100000
set_option maxHeartbeats 4000000
/-! PLf: defs: what they promise over data, their bodies, their calls; the law's own call. No guard (a repr that runs) stands around. -/
namespace PL
open PySem PySem.Spec PyProof.Rows L2

/-- a def keeps its promise wherever no repr runs around it -/
structure FnG (pr : Program) (wo : World) (K : PySem.W.Frag) (mg : Str → Option Value) (base : Heap) (CX : CXT) (lv : Nat) (f : Addr) (fd : FuncData) (ps : List Str) (sp : Sp) : Prop where
  arity : ∀ vs H Q E, sp vs H Q E → vs.length = ps.length
  go : ∀ (Ar : Around) (out : List Env) (st : Shared) (H : Hp) (ag : Args) (us : List Value) (vs : List V) (Q : VK) (E : XK), Ar.guards = some [] → Room lv Ar → Env0 pr wo K mg base Ar out st H →
    BindsTo st fd ag (ps.zip us) → Vals vs us → sp vs H Q E → codeAny (model pr wo) Ar (.call (.ref f) ag) (CR CX out pr wo H st Q E) st
theorem FnG.up {pr : Program} {wo : World} {K : PySem.W.Frag} {mg : Str → Option Value} {base : Heap} {CX : CXT} {lv lw : Nat} {f : Addr} {fd : FuncData} {ps : List Str} {sp : Sp} (F : FnG pr wo K mg base CX lv f fd ps sp) (h : lv ≤ lw) : FnG pr wo K mg base CX lw f fd ps sp :=
  ⟨F.arity, fun Ar out st H ag us vs Q E g rm => F.go Ar out st H ag us vs Q E g (rm.mono h)⟩
section
variable {pr : Program} {wo : World} {K : PySem.W.Frag} {mg : Str → Option Value} {base : Heap} {CX : CXT} {lv : Nat} {f : Addr} {fd : FuncData} {ps N : List Str} {sp : Sp}
theorem FnG.of_body {x qual : Str} {pa : Arguments} {bd : List Stmt} {sc : Scope} {dvs : List V} {kws : List (Str × V)} (F : FunD K x qual pa bd sc dvs kws f fd) (S : FnScope N ps sc) (ar : ∀ vs H Q E, sp vs H Q E → vs.length = ps.length)
    (hb : ∀ (cdv : Value) (Ar : Around) (out : List Env) (st : Shared) (H : Hp) (vs : List V) (Q : VK) (E : XK), (Ar.deeper (envOfC qual sc st.heap.objs.size f cdv)).guards = some [] → Room lv (Ar.deeper (envOfC qual sc st.heap.objs.size f cdv)) → sp vs H Q E →
      ∃ t, PSs (cxOf CX pr wo K mg base N qual sc f cdv Ar out st H E) bd t ∧ t { nx := fun _ H' => Q .non H', rt := Q } (start N vs) H) : FnG pr wo K mg base CX (lv + 1) f fd ps sp := by
  obtain ⟨oc, od, dV, kV, doc, pm, an, cdv, ct, osl, hfd, lk, hcd, _, _⟩ := F.ex
  subst hfd
  refine ⟨ar, fun Ar out st H ag us vs Q E hg rm en bi rv hs => ?_⟩
  have n1 := ar _ _ _ _ hs
  have inK : K.In st.heap := en.mod.kin.keeps fun a o q => (en.bs a o q).1
  have noL : st.heap.NoLimit := en.mod.nolimit.keeps fun a o q => (en.bs a o q).1
  have kinds : ∀ y ∈ ps.zip us, sc.names.lookup y.1 = some .local ∨ (sc.names.lookup y.1 = some .cell ∧ ((cellsFrom (st.heap.objs.size + 1) sc.names []).lookup y.1).isSome = true) := by
    rintro ⟨nm, u⟩ hy
    cases S.par nm (List.of_mem_zip hy).1 with
    | inl q => exact Or.inl q
    | inr q => exact Or.inr ⟨q, PySem.W.cellsFrom_some _ _ _ (Or.inl q)⟩
  apply codeAny_call_function rm.depth (inK _ _ lk) rfl S.co S.gen rfl (PySem.W.codeRec_of inK hcd)
  apply bi
  apply wpAny_newFunctionEnv_cells S.kind kinds
  intro ev hev s1 ic
  subst hev
  refine ⟨noL.keeps ic.toInCall.keep, codeAny_func ?_⟩
  obtain ⟨t, pt, tq⟩ := hb cdv Ar out st H vs Q E hg (rm.deeper _) hs
  have i0 : Inv (cxOf CX pr wo K mg base N qual sc f cdv Ar out st H E) [] (start N vs) H s1 := inv_start S rm.hd en n1 rv ic
  refine wpAny_mono (pt.run [] s1 (start N vs) H _ i0 tq) ?_ (fun _ _ q => q)
  intro fl s2 q
  cases fl with
  | ret u =>
    obtain ⟨v, _, H2, J, rr, q⟩ := q
    exact ⟨v, H2, J.os, J.bare, J.base, J.hok, rr, q⟩
  | next =>
    obtain ⟨_, H2, J, q⟩ := q
    exact ⟨.non, H2, J.os, J.bare, J.base, J.hok, rfl, q⟩
  | brk => exact q.elim fun _ q => q.elim fun _ q => q.2.elim
  | cont => exact q.elim fun _ q => q.elim fun _ q => q.2.elim
end
section
variable {X : Cx} {CX : CXT} {lv : Nat} {f : Addr} {fd : FuncData} {ps : List Str} {sp : Sp} {E : XK} {x : Str} {p pos : Pos} {e : Expr} {es : List Expr} {t : TA}
theorem pe_callG (F : FnG X.prog X.w X.K X.mg X.base CX lv f fd ps sp) (hG : X.A.guards = some []) (rm : Room lv X.A) (hg : Gl X x) (hm : X.mg x = some (.ref f)) (hk : PySem.W.keepIn X.K (.ref f) = true) (hb : Binds X.K fd ps []) (hx : Passes CX X E)
    (ha : PA X (e :: es) t) (hdb : (x == ("__debug__" : Str)) = false := by decide) (he : starEach (e :: es) X.env = (false, eval e X.env) :: starEach es X.env := by rfl) (hpl : (backTo pos (starEach es X.env)).any (·.1) = false := by rfl) :
    PE X (.Call (.Name x p) (e :: es) [] pos) (tCall sp [] E t) := by
  constructor
  intro pins s σ H Q I h
  apply wpAny_Call_Name_kw (ld_glob I hg hm ?_ hdb)
  apply PySem.W.callWith_K (h₀ := X.base) I.ok.mod.kin hk (thn (ha.run pos pins s σ H _ I h) ?_) he hpl
  intro us s1 q
  obtain ⟨vs, H1, I1, rv, q⟩ := q
  refine ⟨I1.kIn, ?_⟩
  rw [List.append_nil] at q
  have hl : (us ++ []).length = ps.length := by rw [List.append_nil, ← rv.length]; exact F.arity _ _ _ _ q
  have bi := hb s1 us I1.kIn hl
  rw [List.append_nil] at bi
  refine wpAny_call (codeAny_mono (F.go X.A X.stack s1 H1 ⟨us, []⟩ us vs Q E hG rm I1.env0 bi rv q) ?_)
  intro r s2 hq
  cases r with
  | error z => exact hx pins σ H1 s1 z s2 I1 hq
  | ok fl =>
    cases fl with
    | ret u => exact I1.after hq
    | next => exact (show False from hq).elim
    | brk => exact (show False from hq).elim
    | cont => exact (show False from hq).elim
theorem pe_callG0 (F : FnG X.prog X.w X.K X.mg X.base CX lv f fd ps sp) (hG : X.A.guards = some []) (rm : Room lv X.A) (hg : Gl X x) (hm : X.mg x = some (.ref f)) (hk : PySem.W.keepIn X.K (.ref f) = true) (hb : Binds X.K fd ps []) (hx : Passes CX X E)
    (hdb : (x == ("__debug__" : Str)) = false := by decide) : PE X (.Call (.Name x p) [] [] pos) (tCall sp [] E tNil) := by
  constructor
  intro pins s σ H Q I h
  apply wpAny_Call_Name_kw (ld_glob I hg hm ?_ hdb)
  have h : sp ([] ++ []) H Q E := h
  have hl : (([] : List Value) ++ []).length = ps.length := (F.arity _ _ _ _ h).symm ▸ rfl
  have bi := hb s [] I.kIn hl
  apply PySem.W.callWith_K0 I.kIn hk
  refine wpAny_call (codeAny_mono (F.go X.A X.stack s H ⟨[], []⟩ [] [] Q E hG rm I.env0 bi .nil h) ?_)
  intro r s2 hq
  cases r with
  | error z => exact hx pins σ H s z s2 I hq
  | ok fl =>
    cases fl with
    | ret u => exact I.after hq
    | next => exact (show False from hq).elim
    | brk => exact (show False from hq).elim
    | cont => exact (show False from hq).elim
end

/-! ### promises over data -/
def Res.good : Res → Bool
  | .fz _ => true
  | .ow _ => true
  | _ => false
theorem Res.good_loc {r : Res} (h : r.good = true) (i : Nat) : r ≠ .loc i := by
  rintro rfl; cases h
abbrev DSp := List D → (Res → List D → Prop) → Prop
def argE : List Kd → List D → DEnv
  | k :: ks, d :: ds => some (k, d) :: argE ks ds
  | _, _ => []
def outE : List Kd → List D → DEnv
  | .io :: ks, d :: ds => some (.io, d) :: outE ks ds
  | _ :: ks, _ :: ds => none :: outE ks ds
  | _, _ => []
def iosFrom : Nat → List Kd → List V → List (Nat × V)
  | i, .io :: ks, v :: vs => (i, v) :: iosFrom (i + 1) ks vs
  | i, _ :: ks, _ :: vs => iosFrom (i + 1) ks vs
  | _, _, _ => []
abbrev iosOf (ks : List Kd) (vs : List V) : List (Nat × V) := iosFrom 0 ks vs
def outsFrom : Nat → List Kd → DEnv → List D
  | i, .io :: ks, e => (match e[i]? with
    | some (some (.io, d)) => d
    | _ => .none) :: outsFrom (i + 1) ks e
  | i, _ :: ks, e => .none :: outsFrom (i + 1) ks e
  | _, [], _ => []
abbrev outsOf (ks : List Kd) (e : DEnv) : List D := outsFrom 0 ks e
/-- the promise of a def whose parameters are of these kinds -/
def spOf (K : PySem.W.Frag) (ks : List Kd) (g : DSp) : Sp := fun vs H Q _ => ∃ P B ds, ds.length = ks.length ∧ vs.length = ks.length ∧ Rep K P B (iosOf ks vs) (argE ks ds) (vs.map some) [] H ∧
  g ds fun r outs => r.good = true → outs.length = ks.length → ∀ v H', Rep K P B (iosOf ks vs) (outE ks outs) (vs.map some) [(r, v)] H' → Q v H'
theorem argE_len : ∀ {ks : List Kd} {ds : List D}, ds.length = ks.length → (argE ks ds).length = ks.length
  | [], [], _ => rfl
  | k :: ks, d :: ds, h => by simp only [argE, List.length_cons]; rw [argE_len (by simpa using h)]
  | [], _ :: _, h => by simp at h
  | _ :: _, [], h => by simp at h
theorem outE_len : ∀ {ks : List Kd} {ds : List D}, ds.length = ks.length → (outE ks ds).length = ks.length
  | [], [], _ => rfl
  | k :: ks, d :: ds, h => by
    have ih := outE_len (ks := ks) (ds := ds) (by simpa using h)
    cases k <;> simp only [outE, List.length_cons, ih]
  | [], _ :: _, h => by simp at h
  | _ :: _, [], h => by simp at h
theorem outsFrom_len : ∀ (i : Nat) (ks : List Kd) (e : DEnv), (outsFrom i ks e).length = ks.length
  | _, [], _ => rfl
  | i, k :: ks, e => by cases k <;> simp only [outsFrom, List.length_cons, outsFrom_len (i + 1) ks e]
theorem outE_get : ∀ {ks : List Kd} {ds : List D} {i : Nat} {x : Kd × D}, (outE ks ds)[i]? = some (some x) → ks[i]? = some .io ∧ ∃ d, ds[i]? = some d ∧ x = (.io, d)
  | [], [], i, x, h => by simp [outE] at h
  | k :: ks, d :: ds, i, x, h => by
    cases i with
    | zero => cases k <;> simp [outE] at h; subst h; exact ⟨rfl, d, rfl, rfl⟩
    | succ i =>
      have : (outE ks ds)[i]? = some (some x) := by cases k <;> simpa [outE] using h
      obtain ⟨a, d', b, c⟩ := outE_get this
      exact ⟨by simpa using a, d', by simpa using b, c⟩
  | [], _ :: _, i, x, h => by simp [outE] at h
  | k :: _, [], i, x, h => by cases k <;> simp [outE] at h
theorem argE_get : ∀ {ks : List Kd} {ds : List D} {i : Nat} {k : Kd} {d : D}, (argE ks ds)[i]? = some (some (k, d)) → ks[i]? = some k ∧ ds[i]? = some d
  | [], _, i, k, d, h => by simp [argE] at h
  | k0 :: ks, d0 :: ds, i, k, d, h => by
    cases i with
    | zero => simp [argE] at h; exact ⟨by simp [h.1], by simp [h.2]⟩
    | succ i =>
      obtain ⟨a, b⟩ := argE_get (ks := ks) (ds := ds) (i := i) (by simpa [argE] using h)
      exact ⟨by simpa using a, by simpa using b⟩
  | _ :: _, [], i, k, d, h => by simp [argE] at h
theorem argE_at : ∀ {ks : List Kd} {ds : List D} {i : Nat} {k : Kd} {d : D}, ks[i]? = some k → ds[i]? = some d → (argE ks ds)[i]? = some (some (k, d))
  | k0 :: ks, d0 :: ds, i, k, d, h, h' => by
    cases i with
    | zero => simp at h h'; subst h h'; rfl
    | succ i => simpa [argE] using argE_at (ks := ks) (ds := ds) (i := i) (by simpa using h) (by simpa using h')
  | [], _, i, k, d, h, _ => by simp at h
  | _ :: _, [], i, k, d, _, h => by simp at h
theorem outE_at : ∀ {ks : List Kd} {ds : List D} {i : Nat} {d : D}, ks[i]? = some .io → ds[i]? = some d → (outE ks ds)[i]? = some (some (.io, d))
  | k0 :: ks, d0 :: ds, i, d, h, h' => by
    cases i with
    | zero => simp at h h'; subst h h'; rfl
    | succ i =>
      have := outE_at (ks := ks) (ds := ds) (i := i) (by simpa using h) (by simpa using h')
      cases k0 <;> simpa [outE] using this
  | [], _, i, d, h, _ => by simp at h
  | _ :: _, [], i, d, _, h => by simp at h
theorem ios_mem : ∀ {i : Nat} {ks : List Kd} {vs : List V} {j : Nat} {v : V}, (j, v) ∈ iosFrom i ks vs ↔ ∃ m, j = i + m ∧ ks[m]? = some .io ∧ vs[m]? = some v
  | i, [], vs, j, v => by simp [iosFrom]
  | i, k :: ks, [], j, v => by cases k <;> simp [iosFrom]
  | i, k :: ks, u :: vs, j, v => by
    have ih := ios_mem (i := i + 1) (ks := ks) (vs := vs) (j := j) (v := v)
    have step : (∃ m, j = i + 1 + m ∧ ks[m]? = some .io ∧ vs[m]? = some v) ↔ ∃ m, j = i + (m + 1) ∧ (k :: ks)[m + 1]? = some .io ∧ (u :: vs)[m + 1]? = some v := by
      constructor
      · rintro ⟨m, h, a, b⟩; exact ⟨m, by omega, by simpa using a, by simpa using b⟩
      · rintro ⟨m, h, a, b⟩; exact ⟨m, by omega, by simpa using a, by simpa using b⟩
    cases k with
    | io =>
      simp only [iosFrom, List.mem_cons, ih, Prod.mk.injEq]
      constructor
      · rintro (⟨rfl, rfl⟩ | h)
        · exact ⟨0, by omega, rfl, rfl⟩
        · obtain ⟨m, a, b, c⟩ := step.mp h; exact ⟨m + 1, a, b, c⟩
      · rintro ⟨m, a, b, c⟩
        cases m with
        | zero => simp at c; exact .inl ⟨by omega, c.symm⟩
        | succ m => exact .inr (step.mpr ⟨m, a, b, c⟩)
    | fz | ow | sc =>
      simp only [iosFrom, ih]
      constructor
      · intro h; obtain ⟨m, a, b, c⟩ := step.mp h; exact ⟨m + 1, a, b, c⟩
      · rintro ⟨m, a, b, c⟩
        cases m with
        | zero => simp at b
        | succ m => exact step.mpr ⟨m, a, b, c⟩
theorem outs_at : ∀ {i : Nat} {ks : List Kd} {e : DEnv} {m : Nat} {d : D}, ks[m]? = some .io → e[i + m]? = some (some (.io, d)) → (outsFrom i ks e)[m]? = some d
  | i, [], e, m, d, h, _ => by simp at h
  | i, k :: ks, e, m, d, h, h' => by
    cases m with
    | zero =>
      simp at h; subst h
      have h' : e[i]? = some (some (.io, d)) := h'
      simp [outsFrom, h']
    | succ m =>
      have := outs_at (i := i + 1) (ks := ks) (e := e) (m := m) (d := d) (by simpa using h) (by rw [show i + 1 + m = i + (m + 1) by omega]; exact h')
      cases k <;> simpa [outsFrom] using this

/-! ### a def's body keeps its promise -/
def endsF (ks : List Kd) (Qd : Res → List D → Prop) : DEnds where
  nx := fun e => Qd (.fz .none) (outsOf ks e)
  rt := fun r e => r.good = true ∧ Qd r (outsOf ks e)
  bk := fun _ => False
  ct := fun _ => False
theorem RepC.push_nones {K : PySem.W.Frag} {P B M : Hp} {e : DEnv} {σ : L2.St} {H : Hp} (r : RepC K P B M e σ H) : ∀ n, RepC K P B M (e ++ List.replicate n none) (σ ++ List.replicate n none) H
  | 0 => by simpa using r
  | n + 1 => by
    have := (RepC.push_nones r n).push_none (v := none)
    simpa [List.replicate_succ', ← List.append_assoc] using this
/-- how the body's end is read outside -/
theorem rep_out {K : PySem.W.Frag} {P B : Hp} {ks : List Kd} {vs : List V} {e : DEnv} {σ : L2.St} {r : Res} {v : V} {H : Hp} (hg : r.good = true) (hl : vs.length = ks.length) (h : Rep K P B (iosOf ks vs) e σ [(r, v)] H) :
    Rep K P B (iosOf ks vs) (outE ks (outsOf ks e)) (vs.map some) [(r, v)] H := by
  obtain ⟨M, h⟩ := h
  have lo : (outE ks (outsOf ks e)).length = ks.length := outE_len (outsFrom_len 0 ks e)
  have hio : ∀ m : Nat, ks[m]? = some Kd.io → ∃ d u, e[m]? = some (some (Kd.io, d)) ∧ vs[m]? = some u ∧ σ[m]? = some (some u) ∧ (outsOf ks e)[m]? = some d := fun m hm => by
    have hml : m < vs.length := by rw [hl]; exact (List.getElem?_eq_some_iff.mp hm).1
    obtain ⟨s, d, q⟩ := h.io m vs[m] (ios_mem.mpr ⟨m, by omega, hm, List.getElem?_eq_getElem hml⟩)
    exact ⟨d, vs[m], q, List.getElem?_eq_getElem hml, s, outs_at (i := 0) hm (by simpa using q)⟩
  have hcase : ∀ (i : Nat) x, (outE ks (outsOf ks e) ++ tE [(r, v)])[i]? = some (some x) → (i < ks.length ∧ i < e.length ∧ (e ++ tE [(r, v)])[i]? = some (some x) ∧ (vs.map some)[i]? = σ[i]?) ∨ (i = ks.length ∧ tS r = some x) := fun i x q => by
    by_cases hi : i < ks.length
    · rw [List.getElem?_append_left (by rw [lo]; exact hi)] at q
      obtain ⟨k1, d, q1, rfl⟩ := outE_get q
      obtain ⟨d', u, z1, z2, z3, z4⟩ := hio i k1
      rw [z4] at q1; cases q1
      exact .inl ⟨hi, (List.getElem?_eq_some_iff.mp z1).1, left_get z1, by rw [List.getElem?_map, z2, z3]; rfl⟩
    · rw [List.getElem?_append_right (by rw [lo]; omega), lo] at q
      have : i - ks.length = 0 := by
        by_cases h0 : i - ks.length = 0
        · exact h0
        · rw [List.getElem?_eq_none (by simp [tE_len]; omega)] at q; cases q
      rw [this] at q
      exact .inr ⟨by omega, by simpa [tE] using q⟩
  refine ⟨M, ?_, by rw [lo, List.length_map, hl], fun i w q => ?_, fun j w q => ?_⟩
  · refine h.c.sub (fun i => if i < ks.length then i else e.length) ?_ ?_ ?_
    · rw [List.length_append, List.length_append, lo, List.length_map, hl, tE_len, tV_len]
    · intro i j x y qi qj hij
      rcases hcase i x qi with ⟨a1, a2, _⟩ | ⟨a1, _⟩ <;> rcases hcase j y qj with ⟨b1, b2, _⟩ | ⟨b1, _⟩
      · rw [if_pos a1, if_pos b1] at hij; exact hij
      · rw [if_pos a1, if_neg (by omega)] at hij; omega
      · rw [if_neg (by omega), if_pos b1] at hij; omega
      · omega
    · intro i x q
      rcases hcase i x q with ⟨a1, a2, a3, a4⟩ | ⟨a1, a2⟩
      · rw [if_pos a1]
        refine ⟨a3, ?_⟩
        rw [List.getElem?_append_left (by rw [List.length_map, hl]; exact a1), List.getElem?_append_left (by rw [← h.el]; exact a2)]
        exact a4
      · rw [if_neg (by omega)]
        subst a1
        constructor
        · rw [List.getElem?_append_right (Nat.le_refl _)]
          simp [tE, a2]
        · rw [List.getElem?_append_right (by rw [List.length_map, hl]; omega), List.getElem?_append_right (by rw [h.el]; omega), List.length_map, hl, h.el, Nat.sub_self, Nat.sub_self]
  · simp at q; exact absurd q.1.symm (Res.good_loc hg i)
  · obtain ⟨m, rfl, a, b⟩ := ios_mem.mp q
    obtain ⟨d, u, q1, q2, q3, q4⟩ := hio m a
    rw [b] at q2; cases q2
    refine ⟨by simp [b], d, ?_⟩
    rw [Nat.zero_add]
    exact outE_at a q4
/-- the rule: the body's reading over data, for arguments of these kinds -/
theorem FnG.of_data {pr : Program} {wo : World} {K : PySem.W.Frag} {mg : Str → Option Value} {base : Heap} {CX : CXT} {lv : Nat} {f : Addr} {fd : FuncData} {ps N : List Str} {x qual : Str} {pa : Arguments} {bd : List Stmt} {sc : Scope} {dvs : List V} {kws : List (Str × V)}
    {ks : List Kd} {g : DSp} {b : DS} (F : FunD K x qual pa bd sc dvs kws f fd) (S : FnScope N ps sc) (hks : ks.length = ps.length)
    (hd : ∀ (cdv : Value) (Ar : Around) (out : List Env) (st : Shared) (H : Hp) (E : XK), (Ar.deeper (envOfC qual sc st.heap.objs.size f cdv)).guards = some [] → Room lv (Ar.deeper (envOfC qual sc st.heap.objs.size f cdv)) →
      FSs (cxOf CX pr wo K mg base N qual sc f cdv Ar out st H E) bd b)
    (hp : ∀ ds Qd, ds.length = ks.length → g ds Qd → b (endsF ks Qd) (argE ks ds ++ List.replicate (N.length - ps.length) none)) : FnG pr wo K mg base CX (lv + 1) f fd ps (spOf K ks g) := by
  refine FnG.of_body F S (fun vs H Q E ⟨P, B, ds, l1, l2, _⟩ => by rw [l2, hks]) fun cdv Ar out st H vs Q E hG rm h => ?_
  obtain ⟨P, B, ds, l1, l2, ⟨M, r⟩, w⟩ := h
  refine ⟨_, (hd cdv Ar out st H E hG rm).ps, P, B, iosOf ks vs, argE ks ds ++ List.replicate (N.length - ps.length) none, [], NoLoc.nil, ⟨M, ?_, ?_, fun i v q => by simp at q, fun j v q => ?_⟩, (hd cdv Ar out st H E hG rm).mono _ _ _ ⟨?_, ?_, fun _ z => (show False from z).elim, fun _ z => (show False from z).elim⟩ (hp ds _ l1 w)⟩
  · have c := r.c
    have := RepC.push_nones (show RepC K P B M (argE ks ds) (vs.map some) H by simpa [tE, tV] using c) (N.length - ps.length)
    have e2 : L2.start N vs = vs.map some ++ List.replicate (N.length - ps.length) none := by unfold L2.start; rw [l2, hks]
    rw [e2]
    show RepC K P B M _ _ H
    simpa [tE, tV] using this
  · unfold L2.start
    simp [argE_len l1, l2, hks]
  · obtain ⟨s, d, q'⟩ := r.io j v q
    refine ⟨?_, d, left_get q'⟩
    unfold L2.start
    exact left_get s
  · intro e1 w1 σ1 H1 r1
    obtain ⟨M1, r1⟩ := r1
    exact w1 rfl (outsFrom_len 0 ks e1) .non H1 (rep_out rfl l2 ⟨M1, r1.push_fz (fzn.mpr rfl)⟩)
  · intro rr e1 w1 v σ1 H1 r1
    exact w1.2 w1.1 (outsFrom_len 0 ks e1) v H1 (rep_out w1.1 l2 r1)

/-! ### a call -/
/-- the arguments made ready: frozen, or lent -/
def prep : List Kd → List Res → DEnv → Option (List D × DEnv)
  | [], [], e => some ([], e)
  | .io :: ks, r :: rs, e => match r with
    | .loc i => match ownAt? e i with
      | some (_, d) => match prep ks rs e with
        | some (ds, e2) => some (d :: ds, e2)
        | none => none
      | none => none
    | _ => none
  | .fz :: ks, r :: rs, e => match frz e r with
    | some (d, e1) => match prep ks rs e1 with
      | some (ds, e2) => some (d :: ds, e2)
      | none => none
    | none => none
  | .sc :: ks, r :: rs, e => match r with
    | .loc i => match e[i]? with
      | some (some (.sc, d)) => match prep ks rs e with
        | some (ds, e2) => some (d :: ds, e2)
        | none => none
      | _ => none
    | _ => none
  | _, _, _ => none
/-- what is lent comes back changed -/
def back : List Kd → List Res → List D → DEnv → DEnv
  | .io :: ks, .loc i :: rs, d :: ds, e => match e[i]? with
    | some (some (k, _)) => (back ks rs ds e).set i (some (k, d))
    | _ => back ks rs ds e
  | _ :: ks, _ :: rs, _ :: ds, e => back ks rs ds e
  | _, _, _, e => e
/-- the lent slots are unlike -/
def lent : List Kd → List Res → List Nat
  | .io :: ks, .loc i :: rs => i :: lent ks rs
  | _ :: ks, _ :: rs => lent ks rs
  | _, _ => []
def lentOk : List Kd → List Res → List D → DEnv → Prop
  | .io :: ks, .loc i :: rs, d :: ds, e => (∃ k, ownAt? e i = some (k, d)) ∧ lentOk ks rs ds e
  | _ :: ks, _ :: rs, _ :: ds, e => lentOk ks rs ds e
  | _, _, _, _ => True
def wCall (ks : List Kd) (g : DSp) (fa : DA) : DE := fun e Q => fa e fun rs e1 => (lent ks rs).Nodup ∧ ∃ ds e2, prep ks rs e1 = some (ds, e2) ∧ lentOk ks rs ds e2 ∧ g ds fun r outs => r.good = true → outs.length = ks.length → Q r (back ks rs outs e2)

theorem lent_mem : ∀ {ks : List Kd} {rs : List Res} {i : Nat}, i ∈ lent ks rs ↔ ∃ j : Nat, ks[j]? = some Kd.io ∧ rs[j]? = some (Res.loc i)
  | [], rs, i => by simp [lent]
  | k :: ks, [], i => by simp [lent]
  | k :: ks, r :: rs, i => by
    have ih := lent_mem (ks := ks) (rs := rs) (i := i)
    have sh : (∃ j : Nat, (k :: ks)[j]? = some Kd.io ∧ (r :: rs)[j]? = some (Res.loc i)) ↔ (k = .io ∧ r = .loc i) ∨ ∃ j : Nat, ks[j]? = some Kd.io ∧ rs[j]? = some (Res.loc i) := by
      constructor
      · rintro ⟨j, a, b⟩
        cases j with
        | zero => simp at a b; exact .inl ⟨a, b⟩
        | succ j => exact .inr ⟨j, by simpa using a, by simpa using b⟩
      · rintro (⟨a, b⟩ | ⟨j, a, b⟩)
        · exact ⟨0, by simp [a], by simp [b]⟩
        · exact ⟨j + 1, by simpa using a, by simpa using b⟩
    rw [sh, ← ih]
    cases k <;> cases r <;> simp [lent, eq_comm]
theorem lent_inj : ∀ {ks : List Kd} {rs : List Res} {i j j' : Nat}, (lent ks rs).Nodup → ks[j]? = some Kd.io → rs[j]? = some (Res.loc i) → ks[j']? = some Kd.io → rs[j']? = some (Res.loc i) → j = j'
  | [], rs, i, j, j', _, h, _, _, _ => by simp at h
  | k :: ks, [], i, j, j', _, _, h, _, _ => by simp at h
  | k :: ks, r :: rs, i, j, j', nd, a, b, a', b' => by
    have tl : (lent ks rs).Nodup := by
      cases k <;> cases r <;> simp only [lent] at nd <;> first | exact nd | exact (List.nodup_cons.mp nd).2
    have hd : k = .io → r = .loc i → i ∉ lent ks rs := by
      rintro rfl rfl
      simp only [lent] at nd
      exact (List.nodup_cons.mp nd).1
    cases j with
    | zero =>
      simp at a b
      cases j' with
      | zero => rfl
      | succ j' => exact absurd (lent_mem.mpr ⟨j', by simpa using a', by simpa using b'⟩) (hd a b)
    | succ j =>
      cases j' with
      | zero =>
        simp at a' b'
        exact absurd (lent_mem.mpr ⟨j, by simpa using a, by simpa using b⟩) (hd a' b')
      | succ j' => exact congrArg (· + 1) (lent_inj (i := i) tl (by simpa using a) (by simpa using b) (by simpa using a') (by simpa using b'))
theorem back_len : ∀ (ks : List Kd) (rs : List Res) (ds : List D) (e : DEnv), (back ks rs ds e).length = e.length
  | [], rs, ds, e => by unfold back; rfl
  | k :: ks, [], ds, e => by cases k <;> rfl
  | k :: ks, r :: rs, [], e => by cases k <;> cases r <;> rfl
  | k :: ks, r :: rs, d :: ds, e => by
    have ih := back_len ks rs ds e
    cases k <;> cases r <;> simp only [back] <;> first | exact ih | skip
    split
    · rw [List.length_set]; exact ih
    · exact ih
theorem back_out : ∀ {ks : List Kd} {rs : List Res} {ds : List D} {e : DEnv} {i : Nat}, i ∉ lent ks rs → (back ks rs ds e)[i]? = e[i]?
  | [], rs, ds, e, i, _ => by unfold back; rfl
  | k :: ks, [], ds, e, i, _ => by cases k <;> rfl
  | k :: ks, r :: rs, [], e, i, _ => by cases k <;> cases r <;> rfl
  | k :: ks, r :: rs, d :: ds, e, i, h => by
    have hi : i ∉ lent ks rs := fun z => h (by cases k <;> cases r <;> simp only [lent] <;> first | exact z | exact List.mem_cons_of_mem _ z)
    have ih := back_out (ds := ds) (e := e) hi
    cases k <;> cases r <;> simp only [back] <;> first | exact ih | skip
    rename_i j
    have hij : j ≠ i := by rintro rfl; exact h (by simp [lent])
    split
    · rw [List.getElem?_set, if_neg hij]; exact ih
    · exact ih
theorem back_in : ∀ {ks : List Kd} {rs : List Res} {ds : List D} {e : DEnv} {i j : Nat} {k : Kd} {d d' : D}, (lent ks rs).Nodup → ks[j]? = some Kd.io → rs[j]? = some (Res.loc i) → ds[j]? = some d → e[i]? = some (some (k, d')) → (back ks rs ds e)[i]? = some (some (k, d))
  | [], rs, ds, e, i, j, k, d, d', _, h, _, _, _ => by simp at h
  | k0 :: ks, [], ds, e, i, j, k, d, d', _, _, h, _, _ => by simp at h
  | k0 :: ks, r :: rs, [], e, i, j, k, d, d', _, _, _, h, _ => by simp at h
  | k0 :: ks, r :: rs, d0 :: ds, e, i, j, k, d, d', nd, a, b, c, he => by
    have tl : (lent ks rs).Nodup := by
      cases k0 <;> cases r <;> simp only [lent] at nd <;> first | exact nd | exact (List.nodup_cons.mp nd).2
    cases j with
    | zero =>
      simp at a b c
      subst a b c
      simp only [back, he]
      rw [List.getElem?_set, if_pos rfl, back_len, if_pos (List.getElem?_eq_some_iff.mp he).1]
    | succ j =>
      have ih := back_in (ds := ds) tl (by simpa using a) (by simpa using b) (by simpa using c) he
      cases k0 <;> cases r <;> simp only [back] <;> first | exact ih | skip
      rename_i i0
      have hne : i0 ≠ i := by
        rintro rfl
        simp only [lent] at nd
        exact (List.nodup_cons.mp nd).1 (lent_mem.mpr ⟨j, by simpa using a, by simpa using b⟩)
      split
      · rw [List.getElem?_set, if_neg hne]; exact ih
      · exact ih
theorem lentOk_at : ∀ {ks : List Kd} {rs : List Res} {ds : List D} {e : DEnv} {i j : Nat} {d : D}, lentOk ks rs ds e → ks[j]? = some Kd.io → rs[j]? = some (Res.loc i) → ds[j]? = some d → ∃ k, ownAt? e i = some (k, d)
  | [], rs, ds, e, i, j, d, _, h, _, _ => by simp at h
  | k0 :: ks, [], ds, e, i, j, d, _, _, h, _ => by simp at h
  | k0 :: ks, r :: rs, [], e, i, j, d, _, _, _, h => by simp at h
  | k0 :: ks, r :: rs, d0 :: ds, e, i, j, d, ok, a, b, c => by
    cases j with
    | zero =>
      simp at a b c
      subst a b c
      exact ok.1
    | succ j =>
      have tl : lentOk ks rs ds e := by
        cases k0 <;> cases r <;> simp only [lentOk] at ok <;> first | exact ok | exact ok.2
      exact lentOk_at tl (by simpa using a) (by simpa using b) (by simpa using c)
/-- what the arguments are, made ready -/
structure ArgsOk (K : PySem.W.Frag) (M : Hp) (σ : L2.St) (ks : List Kd) (rs : List Res) (ds : List D) (vs : List V) : Prop where
  l1 : ds.length = ks.length
  l2 : vs.length = ks.length
  no : ∀ j : Nat, ks[j]? ≠ some Kd.ow
  fz : ∀ (j : Nat) d v, ks[j]? = some Kd.fz → ds[j]? = some d → vs[j]? = some v → Fz K M d v
  sc : ∀ (j : Nat) d v, ks[j]? = some Kd.sc → ds[j]? = some d → vs[j]? = some v → ∃ (a : Addr) (ns : List Int), v = .ref a ∧ SqL K M a (ns.map V.int) ∧ d = .list (ns.map PyData.int)
  io : ∀ (j : Nat) v, ks[j]? = some Kd.io → vs[j]? = some v → ∃ i, rs[j]? = some (Res.loc i) ∧ σ[i]? = some (some v)
theorem ArgsOk.mono {K : PySem.W.Frag} {M M' : Hp} {σ : L2.St} {ks : List Kd} {rs : List Res} {ds : List D} {vs : List V} (h : ArgsOk K M σ ks rs ds vs) (e : Ex M M') : ArgsOk K M' σ ks rs ds vs :=
  ⟨h.l1, h.l2, h.no, fun j d v a b c => (h.fz j d v a b c).mono e _ _, fun j d v a b c => let ⟨p, ns, x, y, z⟩ := h.sc j d v a b c; ⟨p, ns, x, e.l y, z⟩, h.io⟩
theorem ArgsOk.cons {K : PySem.W.Frag} {M : Hp} {σ : L2.St} {ks : List Kd} {rs : List Res} {ds : List D} {vs : List V} {k : Kd} {r : Res} {d : D} {v : V} (h : ArgsOk K M σ ks rs ds vs) (hn : k ≠ .ow) (hf : k = .fz → Fz K M d v)
    (hs : k = .sc → ∃ (a : Addr) (ns : List Int), v = .ref a ∧ SqL K M a (ns.map V.int) ∧ d = .list (ns.map PyData.int)) (hi : k = .io → ∃ i, r = .loc i ∧ σ[i]? = some (some v)) : ArgsOk K M σ (k :: ks) (r :: rs) (d :: ds) (v :: vs) := by
  refine ⟨by simp [h.l1], by simp [h.l2], fun j q => ?_, fun j d' v' a b c => ?_, fun j d' v' a b c => ?_, fun j v' a c => ?_⟩
  · cases j with
    | zero => simp at q; exact hn q
    | succ j => exact h.no j (by simpa using q)
  · cases j with
    | zero => simp at a b c; subst b c; exact hf a
    | succ j => exact h.fz j d' v' (by simpa using a) (by simpa using b) (by simpa using c)
  · cases j with
    | zero => simp at a b c; subst b c; exact hs a
    | succ j => exact h.sc j d' v' (by simpa using a) (by simpa using b) (by simpa using c)
  · cases j with
    | zero => simp at a c; subst c; obtain ⟨i, q, z⟩ := hi a; exact ⟨i, by simp [q], z⟩
    | succ j => obtain ⟨i, q, z⟩ := h.io j v' (by simpa using a) (by simpa using c); exact ⟨i, by simpa using q, z⟩
section
variable {K : PySem.W.Frag} {P B : Hp} {ios : List (Nat × V)} {σ : L2.St} {H : Hp}
/-- the arguments' results may turn frozen on the way; where they are lent they stay -/
theorem RepM.prep : ∀ {ks : List Kd} {rs : List Res} {vs : List V} {T : Tmp} {M : Hp} {e e2 : DEnv} {ds : List D}, RepM K P B M ios e σ (T ++ rs.zip vs) H → rs.length = vs.length → PL.prep ks rs e = some (ds, e2) →
    ∃ M2, Ex M M2 ∧ RepM K P B M2 ios e2 σ T H ∧ ArgsOk K M2 σ ks rs ds vs
  | [], [], [], T, M, e, e2, ds, r, _, h => by
    cases h
    exact ⟨M, Ex.refl _, by simpa using r, rfl, rfl, fun j q => by simp at q, fun j d v a => by simp at a, fun j d v a => by simp at a, fun j v a => by simp at a⟩
  | k :: ks, x :: rs, v :: vs, T, M, e, e2, ds, r, hl, h => by
    have rr : RepM K P B M ios e σ (T ++ (x, v) :: rs.zip vs) H := by simpa using r
    have hl' : rs.length = vs.length := by simpa using hl
    cases k with
    | ow => simp [PL.prep] at h
    | fz =>
      simp only [PL.prep] at h
      split at h
      · rename_i d e1 h1
        split at h
        · rename_i ds' e2' h2
          cases h
          obtain ⟨M1, x1, r1, f1⟩ := rr.freezeAt h1
          have r1' : RepM K P B M1 ios e1 σ (T ++ [(.fz d, v)] ++ rs.zip vs) H := by simpa using r1
          obtain ⟨M2, x2, r2, a2⟩ := RepM.prep r1'.mid hl' h2
          exact ⟨M2, x1.trans x2, r2, a2.cons (by decide) (fun _ => f1.mono x2 _ _) (fun z => by cases z) (fun z => by cases z)⟩
        · cases h
      · cases h
    | io =>
      simp only [PL.prep] at h
      cases x with
      | loc i =>
        simp only at h
        split at h
        · rename_i k d h1
          split at h
          · rename_i ds' e2' h2
            cases h
            have hs := r.loc i v (by simp)
            have r1' : RepM K P B M ios e σ (T ++ [(.loc i, v)] ++ rs.zip vs) H := by simpa using r
            obtain ⟨M2, x2, r2, a2⟩ := RepM.prep r1'.mid hl' h2
            exact ⟨M2, x2, r2, a2.cons (by decide) (fun z => by cases z) (fun z => by cases z) (fun _ => ⟨i, rfl, hs⟩)⟩
          · cases h
        · cases h
      | fz d => simp at h
      | ow d => simp at h
      | junk => simp at h
    | sc =>
      simp only [PL.prep] at h
      cases x with
      | loc i =>
        simp only at h
        split at h
        · rename_i d h1
          split at h
          · rename_i ds' e2' h2
            cases h
            have hs := r.loc i v (by simp)
            obtain ⟨a, ns, s, q, z⟩ := r.scS h1
            rw [hs] at s; cases s
            have r1' : RepM K P B M ios e σ (T ++ [(.loc i, .ref a)] ++ rs.zip vs) H := by simpa using r
            obtain ⟨M2, x2, r2, a2⟩ := RepM.prep r1'.mid hl' h2
            exact ⟨M2, x2, r2, a2.cons (by decide) (fun z => by cases z) (fun _ => ⟨a, ns, rfl, x2.l q, z⟩) (fun z => by cases z)⟩
          · cases h
        · cases h
      | fz d => simp at h
      | ow d => simp at h
      | junk => simp at h
  | [], _ :: _, _, T, M, e, e2, ds, r, hl, h => by simp [PL.prep] at h
  | _ :: _, [], _, T, M, e, e2, ds, r, hl, h => by rename_i k _; cases k <;> simp [PL.prep] at h
  | [], [], _ :: _, T, M, e, e2, ds, r, hl, h => by simp at hl
  | _ :: _, _ :: _, [], T, M, e, e2, ds, r, hl, h => by simp at hl
/-- ahead of a call: what the callee sees -/
theorem RepM.enter {ks : List Kd} {rs : List Res} {vs : List V} {ds : List D} {T : Tmp} {M : Hp} {e : DEnv} (r : RepM K P B M ios e σ T H) (a : ArgsOk K M σ ks rs ds vs) (nd : (lent ks rs).Nodup) (lo : lentOk ks rs ds e) (LA : Addr → Prop) [DecidablePred LA]
    (hLA : ∀ p, LA p ↔ ∃ j : Nat, ks[j]? = some Kd.io ∧ vs[j]? = some (V.ref p)) : RepM K (fun p => if LA p then none else H p) M M (iosOf ks vs) (argE ks ds) (vs.map some) [] H := by
  have kind : ∀ (i : Nat) k d, (argE ks ds ++ tE [])[i]? = some (some (k, d)) → ks[i]? = some k ∧ ds[i]? = some d ∧ ∃ v, vs[i]? = some v ∧ (vs.map some ++ tV [])[i]? = some (some v) := fun i k d q => by
    have q' : (argE ks ds)[i]? = some (some (k, d)) := by simpa [tE] using q
    obtain ⟨q1, q2⟩ := argE_get q'
    have hi : i < vs.length := by rw [a.l2]; exact (List.getElem?_eq_some_iff.mp q1).1
    exact ⟨q1, q2, vs[i], List.getElem?_eq_getElem hi, by simp [tV, hi]⟩
  have ioA : ∀ (j : Nat) d v, ks[j]? = some Kd.io → ds[j]? = some d → vs[j]? = some v → ∃ i k p, rs[j]? = some (Res.loc i) ∧ e[i]? = some (some (k, d)) ∧ k.own = true ∧ σ[i]? = some (some (.ref p)) ∧ v = .ref p ∧ OwnAt K M H d p ∧ M p = none ∧ P p = none := fun j d v h1 h2 h3 => by
    obtain ⟨i, q, s⟩ := a.io j v h1 h3
    obtain ⟨k, z⟩ := lentOk_at lo h1 q h2
    obtain ⟨z1, z2⟩ := ownAt_spec z
    obtain ⟨p, s2, o, m1, p1⟩ := r.owS z1 z2
    rw [s] at s2; cases s2
    exact ⟨i, k, p, q, z1, z2, s, rfl, o, m1, p1⟩
  have own_io : ∀ k : Kd, k.own = true → k ≠ .ow → k = .io := fun k h1 h2 => by cases k <;> first | rfl | exact absurd rfl h2 | cases h1
  refine ⟨⟨r.mh, Ex.refl _, fun p o q => ?_, fun p _ q => q, by simp [argE_len a.l1, a.l2, tE, tV], fun i d q => ?_, fun i d q => ?_, fun i k d q hk => ?_, fun i j p k k' d1 d2 q hk q' hk' s s' => ?_⟩, by simp [argE_len a.l1, a.l2], fun i v q => by simp at q, fun j v q => ?_⟩
  · split at q
    · cases q
    · exact q
  · obtain ⟨q1, q2, v, q3, q4⟩ := kind i _ d q
    exact ⟨v, q4, a.fz i d v q1 q2 q3⟩
  · obtain ⟨q1, q2, v, q3, q4⟩ := kind i _ d q
    obtain ⟨p, ns, rfl, y, z⟩ := a.sc i d v q1 q2 q3
    exact ⟨p, ns, q4, y, z⟩
  · obtain ⟨q1, q2, v, q3, q4⟩ := kind i k d q
    have hk' : k = .io := own_io k hk fun z => a.no i (by rw [q1, z])
    subst hk'
    obtain ⟨i', k', p, _, _, _, _, rfl, o, m1, p1⟩ := ioA i d v q1 q2 q3
    exact ⟨p, q4, o, m1, if_pos ((hLA p).mpr ⟨i, q1, q3⟩)⟩
  · obtain ⟨q1, q2, v, q3, q4⟩ := kind i k d1 q
    obtain ⟨z1, z2, u, z3, z4⟩ := kind j k' d2 q'
    have e1 : k = .io := own_io k hk fun z => a.no i (by rw [q1, z])
    have e2 : k' = .io := own_io k' hk' fun z => a.no j (by rw [z1, z])
    subst e1 e2
    rw [q4] at s; cases s
    rw [z4] at s'; cases s'
    obtain ⟨i1, k1, p1, b1, b2, b3, b4, b5, _⟩ := ioA i d1 _ q1 q2 q3
    obtain ⟨i2, k2, p2, c1, c2, c3, c4, c5, _⟩ := ioA j d2 _ z1 z2 z3
    cases b5; cases c5
    have := r.c.inj i1 i2 p k1 k2 d1 d2 (left_get b2) b3 (left_get c2) c3 (by rw [r.sl b2]; exact b4) (by rw [r.sl c2]; exact c4)
    subst this
    exact lent_inj nd q1 b1 z1 c1
  · obtain ⟨m, rfl, h1, h2⟩ := ios_mem.mp q
    have hm : m < ds.length := by rw [a.l1]; exact (List.getElem?_eq_some_iff.mp h1).1
    refine ⟨by simp [h2], ds[m], ?_⟩
    rw [Nat.zero_add]
    exact argE_at h1 (List.getElem?_eq_getElem hm)
/-- behind a call: what was lent is changed, all else stands, the result is there -/
theorem RepM.leave {ks : List Kd} {rs : List Res} {vs : List V} {ds outs : List D} {T : Tmp} {M M3 : Hp} {e : DEnv} {H' : Hp} {rr : Res} {v : V} (r : RepM K P B M ios e σ T H) (a : ArgsOk K M σ ks rs ds vs) (nd : (lent ks rs).Nodup) (lo : lentOk ks rs ds e) (LA : Addr → Prop) [DecidablePred LA]
    (hLA : ∀ p, LA p ↔ ∃ j : Nat, ks[j]? = some Kd.io ∧ vs[j]? = some (V.ref p)) (hg : rr.good = true) (ho : outs.length = ks.length)
    (c : RepM K (fun p => if LA p then none else H p) M M3 (iosOf ks vs) (outE ks outs) (vs.map some) [(rr, v)] H') : RepM K P B M3 ios (back ks rs outs e) σ (T ++ [(rr, v)]) H' := by
  have dlen : ∀ j : Nat, ks[j]? = some Kd.io → ∃ d v o, ds[j]? = some d ∧ vs[j]? = some v ∧ outs[j]? = some o := fun j h => by
    have hj := (List.getElem?_eq_some_iff.mp h).1
    exact ⟨_, _, _, List.getElem?_eq_getElem (by rw [a.l1]; exact hj), List.getElem?_eq_getElem (by rw [a.l2]; exact hj), List.getElem?_eq_getElem (by rw [ho]; exact hj)⟩
  -- a lent slot: by its parameter
  have lentA : ∀ i, i ∈ lent ks rs → ∃ (j : Nat) (k : Kd) (d o : D) (p : Addr), ks[j]? = some Kd.io ∧ rs[j]? = some (Res.loc i) ∧ vs[j]? = some (V.ref p) ∧ outs[j]? = some o ∧ e[i]? = some (some (k, d)) ∧ k.own = true ∧ σ[i]? = some (some (.ref p)) ∧ P p = none := fun i h => by
    obtain ⟨j, h1, h2⟩ := lent_mem.mp h
    obtain ⟨d, u, o, q1, q2, q3⟩ := dlen j h1
    obtain ⟨k, z⟩ := lentOk_at lo h1 h2 q1
    obtain ⟨z1, z2⟩ := ownAt_spec z
    obtain ⟨p, s2, ow, m1, p1⟩ := r.owS z1 z2
    obtain ⟨i', w1, w2⟩ := a.io j u h1 q2
    rw [h2] at w1; cases w1
    rw [s2] at w2; cases w2
    exact ⟨j, k, d, o, p, h1, h2, q2, q3, z1, z2, s2, p1⟩
  have LA_slot : ∀ p, LA p → ∃ i, i ∈ lent ks rs ∧ σ[i]? = some (some (.ref p)) ∧ P p = none := fun p h => by
    obtain ⟨j, h1, h2⟩ := (hLA p).mp h
    obtain ⟨i, w1, w2⟩ := a.io j _ h1 h2
    obtain ⟨j', k, d, o, p', a1, a2, a3, a4, a5, a6, a7, a8⟩ := lentA i (lent_mem.mpr ⟨j, h1, w1⟩)
    rw [w2] at a7; cases a7
    exact ⟨i, lent_mem.mpr ⟨j, h1, w1⟩, w2, a8⟩
  have P_P' : ∀ p o, P p = some o → (fun p => if LA p then none else H p) p = some o := fun p o q => by
    have hn : ¬ LA p := fun z => by obtain ⟨_, _, _, w⟩ := LA_slot p z; rw [q] at w; cases w
    show (if LA p then none else H p) = some o
    rw [if_neg hn]; exact r.c.ph p o q
  -- an owned slot that is not lent
  have keep : ∀ (i : Nat) k d p, (e ++ tE T)[i]? = some (some (k, d)) → k.own = true → i ∉ lent ks rs → (σ ++ tV T)[i]? = some (some (.ref p)) → OwnAt K M H d p → ¬ LA p ∧ ∃ o, (fun p => if LA p then none else H p) p = some o ∧ H p = some o := fun i k d p q hk hi s o => by
    have hn : ¬ LA p := fun z => by
      obtain ⟨i', h1, h2, _⟩ := LA_slot p z
      obtain ⟨j', k', d', o', p', a1, a2, a3, a4, a5, a6, a7, a8⟩ := lentA i' h1
      have := r.c.inj i i' p k k' d d' q hk (left_get a5) a6 s (by rw [r.sl a5]; exact h2)
      subst this
      exact hi h1
    obtain ⟨ob, w⟩ := o.some
    refine ⟨hn, ob, ?_, w⟩
    show (if LA p then none else H p) = some ob
    rw [if_neg hn]; exact w
  have bl := back_len ks rs outs e
  -- the slots behind the call
  have slot : ∀ (i : Nat) k d, (back ks rs outs e ++ tE T)[i]? = some (some (k, d)) → (i ∉ lent ks rs ∧ (e ++ tE T)[i]? = some (some (k, d))) ∨
      (k.own = true ∧ ∃ d0, i ∈ lent ks rs ∧ (e ++ tE T)[i]? = some (some (k, d0)) ∧ ∃ (j : Nat) (p : Addr), ks[j]? = some Kd.io ∧ rs[j]? = some (Res.loc i) ∧ vs[j]? = some (V.ref p) ∧ outs[j]? = some d ∧ (σ ++ tV T)[i]? = some (some (.ref p)) ∧ P p = none) := fun i k d q => by
    by_cases hi : i < e.length
    · rw [List.getElem?_append_left (by rw [bl]; exact hi)] at q
      by_cases hl : i ∈ lent ks rs
      · obtain ⟨j, k', d', o, p, a1, a2, a3, a4, a5, a6, a7, a8⟩ := lentA i hl
        rw [back_in nd a1 a2 a4 a5] at q
        cases q
        exact .inr ⟨a6, d', hl, left_get a5, j, p, a1, a2, a3, a4, by rw [r.sl a5]; exact a7, a8⟩
      · rw [back_out hl] at q
        exact .inl ⟨hl, left_get q⟩
    · rw [List.getElem?_append_right (by rw [bl]; omega), bl] at q
      refine .inl ⟨fun z => ?_, by rw [List.getElem?_append_right (by omega)]; exact q⟩
      obtain ⟨j, k', d', o, p, a1, a2, a3, a4, a5, _⟩ := lentA i z
      exact hi (List.getElem?_eq_some_iff.mp a5).1
  have calleeOw : ∀ (j : Nat) d p, ks[j]? = some Kd.io → outs[j]? = some d → vs[j]? = some (V.ref p) → OwnAt K M3 H' d p ∧ M3 p = none := fun j d p h1 h2 h3 => by
    have q := outE_at h1 h2
    obtain ⟨p', s, o, m1, _⟩ := c.owS q rfl
    have s' : (vs.map some)[j]? = some (some (V.ref p)) := by simp [h3]
    rw [s'] at s; cases s
    exact ⟨o, m1⟩
  have core : RepC K P B M3 (back ks rs outs e ++ tE T) (σ ++ tV T) H' := by
    refine ⟨c.mh, r.c.bm.trans c.c.bm, fun p o q => c.c.ph p o (P_P' p o q), fun p h1 h2 => ?_, by simp [bl, r.el, tE_len, tV_len], fun i d q => ?_, fun i d q => ?_, fun i k d q hk => ?_, fun i j p k k' d1 d2 q hk q' hk' s s' => ?_⟩
    · obtain ⟨o, ho⟩ := Option.ne_none_iff_exists'.mp h1
      exact r.c.pb p h1 (c.c.pb p (fun z => nomatch (P_P' p o ho).symm.trans z) h2)
    · rcases slot i _ d q with ⟨_, q⟩ | ⟨z, _⟩
      · obtain ⟨w, s, f⟩ := r.c.fz i d q; exact ⟨w, s, f.mono c.c.bm _ _⟩
      · cases z
    · rcases slot i _ d q with ⟨_, q⟩ | ⟨z, _⟩
      · obtain ⟨w, n, s, f, g⟩ := r.c.sc i d q; exact ⟨w, n, s, c.c.bm.l f, g⟩
      · cases z
    · rcases slot i k d q with ⟨hl, q⟩ | ⟨_, d0, hl, q0, j, p, a1, a2, a3, a4, a5, a6⟩
      · obtain ⟨p, s, o, m1, p1⟩ := r.c.ow i k d q hk
        obtain ⟨hn, ob, w1, w2⟩ := keep i k d p q hk hl s o
        refine ⟨p, s, o.step c.c.bm fun o' h => c.c.ph p o' (by rw [w2] at h; cases h; exact w1), ?_, p1⟩
        cases z : M3 p with
        | none => rfl
        | some o3 => exact absurd m1 (c.c.pb p (fun z2 => nomatch w1.symm.trans z2) (by rw [z]; simp))
      · obtain ⟨o, m1⟩ := calleeOw j d p a1 a4 a3
        exact ⟨p, a5, o, m1, a6⟩
    · have g1 : ∃ d0, (e ++ tE T)[i]? = some (some (k, d0)) := by
        rcases slot i k d1 q with ⟨_, q⟩ | ⟨_, d0, _, q0, _⟩
        · exact ⟨_, q⟩
        · exact ⟨_, q0⟩
      have g2 : ∃ d0, (e ++ tE T)[j]? = some (some (k', d0)) := by
        rcases slot j k' d2 q' with ⟨_, q⟩ | ⟨_, d0, _, q0, _⟩
        · exact ⟨_, q⟩
        · exact ⟨_, q0⟩
      obtain ⟨x1, g1⟩ := g1
      obtain ⟨x2, g2⟩ := g2
      exact r.c.inj i j p k k' x1 x2 g1 hk g2 hk' s s'
  have base : RepM K P B M3 ios (back ks rs outs e) σ T H' := by
    refine ⟨core, by rw [bl]; exact r.el, r.loc, fun j w q => ?_⟩
    obtain ⟨s, d, q'⟩ := r.io j w q
    refine ⟨s, ?_⟩
    by_cases hl : j ∈ lent ks rs
    · obtain ⟨j', k', d', o, p, a1, a2, a3, a4, a5, a6, a7, a8⟩ := lentA j hl
      rw [q'] at a5; cases a5
      exact ⟨o, back_in nd a1 a2 a4 q'⟩
    · exact ⟨d, by rw [back_out hl]; exact q'⟩
  cases rr with
  | fz d => exact base.push_fz (c.tfz (by simp))
  | ow d =>
    obtain ⟨p, rfl, o, m1, p1⟩ := c.tow (d := d) (v := v) (by simp)
    have p1' : (if LA p then none else H p) = none := p1
    have hP : P p = none := by
      cases z : P p with
      | none => rfl
      | some o' =>
        have z2 : (if LA p then none else H p) = some o' := P_P' p o' z
        rw [z2] at p1'; cases p1'
    refine base.push_ow o m1 hP fun i k d' q hk s => ?_
    rcases slot i k d' q with ⟨hl, q⟩ | ⟨_, d0, hl, q0, j, p2, a1, a2, a3, a4, a5, a6⟩
    · obtain ⟨p3, s3, o3, _, _⟩ := r.c.ow i k d' q hk
      rw [s3] at s; cases s
      obtain ⟨hn, ob, w1, _⟩ := keep i k d' p q hk hl s3 o3
      have w1' : (if LA p then none else H p) = some ob := w1
      rw [w1'] at p1'; cases p1'
    · rw [a5] at s; cases s
      have t := c.tget (j := 0) (t := (Res.ow d, V.ref p)) rfl
      have q1 := outE_at a1 a4
      have hj := (List.getElem?_eq_some_iff.mp q1).1
      have := c.c.inj j _ p .io .ow d' d (left_get q1) rfl t.1 rfl (left_get (by simp [a3])) t.2
      omega
  | loc i => cases hg
  | junk => cases hg
end
section
variable {X : Cx} {CX : CXT} {lv : Nat} {f : Addr} {fd : FuncData} {ps : List Str} {E : XK} {x : Str} {p pos : Pos} {a : Expr} {es : List Expr} {ks : List Kd} {g : DSp} {fs : DA}
theorem call_run (gm : ∀ ds Q Q', (∀ r o, Q r o → Q' r o) → g ds Q → g ds Q') (ha : FA X es fs) (σ : L2.St) (H : Hp) (Q : VK) : tOf X.K (wCall ks g fs) σ H Q → tCall (spOf X.K ks g) [] E (aOf X.K fs) σ H Q := by
  rintro ⟨P, B, ios, e, T, h, w⟩
  refine ⟨P, B, ios, e, T, h, ha.mono _ _ _ (fun rs e1 w1 vs H1 hl h1 => ?_) w⟩
  obtain ⟨nd, ds, e2, hp, lo, w2⟩ := w1
  obtain ⟨M, h1⟩ := h1
  obtain ⟨M2, x2, r2, a2⟩ := h1.prep hl hp
  rw [List.append_nil]
  let LA : Addr → Prop := fun p => ∃ j : Nat, ks[j]? = some Kd.io ∧ vs[j]? = some (V.ref p)
  haveI : DecidablePred LA := fun p => Classical.propDecidable _
  refine ⟨_, M2, ds, a2.l1, a2.l2, ⟨M2, r2.enter a2 nd lo LA fun p => Iff.rfl⟩, gm _ _ _ (fun r outs q hg ho v H' h3 => ?_) w2⟩
  obtain ⟨M3, h3⟩ := h3
  exact q hg ho v H' ⟨M3, r2.leave a2 nd lo LA (fun p => Iff.rfl) hg ho h3⟩
theorem wCall_mono (gm : ∀ ds Q Q', (∀ r o, Q r o → Q' r o) → g ds Q → g ds Q') (ha : FA X es fs) : ∀ e Q Q', (∀ r e', Q r e' → Q' r e') → wCall ks g fs e Q → wCall ks g fs e Q' :=
  fun e Q Q' h w => ha.mono _ _ _ (fun rs e1 ⟨nd, ds, e2, hp, lo, w2⟩ => ⟨nd, ds, e2, hp, lo, gm _ _ _ (fun r outs q hg ho => h _ _ (q hg ho)) w2⟩) w
theorem fe_call (F : FnG X.prog X.w X.K X.mg X.base CX lv f fd ps (spOf X.K ks g)) (gm : ∀ ds Q Q', (∀ r o, Q r o → Q' r o) → g ds Q → g ds Q') (hG : X.A.guards = some []) (rm : Room lv X.A) (hg : Gl X x) (hm : X.mg x = some (.ref f)) (hk : PySem.W.keepIn X.K (.ref f) = true)
    (hb : Binds X.K fd ps []) (hx : Passes CX X E) (ha : FA X (a :: es) fs) (hdb : (x == ("__debug__" : Str)) = false := by decide) (he : starEach (a :: es) X.env = (false, eval a X.env) :: starEach es X.env := by rfl) (hpl : (backTo pos (starEach es X.env)).any (·.1) = false := by rfl) :
    FE X (.Call (.Name x p) (a :: es) [] pos) (wCall ks g fs) :=
  ⟨pe_imp (pe_callG F hG rm hg hm hk hb hx ha.pa hdb he hpl) (call_run gm ha), wCall_mono gm ha⟩
theorem fe_call0 (F : FnG X.prog X.w X.K X.mg X.base CX lv f fd ps (spOf X.K ks g)) (gm : ∀ ds Q Q', (∀ r o, Q r o → Q' r o) → g ds Q → g ds Q') (hG : X.A.guards = some []) (rm : Room lv X.A) (hg : Gl X x) (hm : X.mg x = some (.ref f)) (hk : PySem.W.keepIn X.K (.ref f) = true)
    (hb : Binds X.K fd ps []) (hx : Passes CX X E) (hdb : (x == ("__debug__" : Str)) = false := by decide) : FE X (.Call (.Name x p) [] [] pos) (wCall ks g wNil) := by
  refine ⟨pe_imp (pe_callG0 F hG rm hg hm hk hb hx hdb) fun σ H Q q => ?_, wCall_mono gm (X := X) fa_nil⟩
  have := call_run (X := X) (E := E) gm fa_nil σ H Q q
  obtain ⟨P, B, ios, e, T, r, w⟩ := this
  exact w [] H rfl (by simpa using r)
end
end PL
set_option Elab.async false
set_option linter.all false
set_option autoImplicit false
set_option maxRecDepth 100000
set_option maxHeartbeats 4000000
/-! PLg: the law's own call: the script comes in, True goes out. -/
namespace PL
open PySem PySem.Spec PyProof.Rows L2

/-- a law of the promise: its one argument is the script -/
def spLaw (K : PySem.W.Frag) (g : DSp) : Sp := spOf K [.sc] g
theorem law_enter {pr : Program} {wo : World} {K : PySem.W.Frag} {mg mb : Str → Option Value} {CX : CXT} {lv : Nat} {fa a : Addr} {fd : FuncData} {x : Str} {sp : Sp} {st : Shared} {us : List Value} {ns : List Int}
    (inK : K.In st.heap) (gl : st.heap.Ns mainGlobals mg) (bl : st.heap.Ns builtinsNs mb) (bb : ∀ y : Str, y ≠ "__name__" → mb y = bootBuiltins y) (nl : st.heap.NoLimit) (gens : st.gens = #[])
    (obj : st.heap.get? a = some { cls := .type "list", data := .seq us.toArray }) (iar : IntsAre us ns) (len : ns.length ≤ sizeLine) (rm : Room lv callerA)
    (F : ∀ base : Heap, K.In base → base.Ns mainGlobals mg → FnG pr wo K mg base CX lv fa fd [x] sp) (bind : ∀ (s : Shared) (u : Value), BindsTo s fd ⟨[u], []⟩ [(x, u)])
    (prom : ∀ H : Hp, SqL K H a (ns.map V.int) → sp [.ref a] H (fun v _ => v = .bl true) fun _ _ _ => False)
    (noX : ∀ H e s', CX [] H st (fun _ _ _ => False) e s' → False) :
    codeAny (model pr wo) callerA (.call (.ref fa) ⟨[.ref a], []⟩) (fun r s' => r = .ok (.ret (.bool true)) ∧ OldK st.heap s'.heap ∧ s'.os = st.os ∧ AllBare s'.gens) st := by
  have vals := vals_ints iar
  have lenV := iar.length
  have main : ∀ H : Hp, (∀ b u, H b = some u → ∃ o xs, u = .frz o (.lst xs)) → SqL K H a (ns.map V.int) → HOk pr wo H st.heap → (∀ b, H b ≠ none → b = a) → (H a ≠ none → K.lookup a = none) →
      codeAny (model pr wo) callerA (.call (.ref fa) ⟨[.ref a], []⟩) (fun r s' => r = .ok (.ret (.bool true)) ∧ OldK st.heap s'.heap ∧ s'.os = st.os ∧ AllBare s'.gens) st := by
    intro H only hS hok atA freeA
    have isA : ∀ {b : Addr} {u : HO}, H b = some u → b = a := fun {b u} q => atA b (by rw [q]; exact fun z => nomatch z)
    have dictFree : ∀ {b : Addr} {o : Obj} {es : Array DictEntry} {n : Nat}, st.heap.get? b = some o → o.data = .dict es n → H b = none := by
      intro b o es n q d
      cases z : H b with
      | none => rfl
      | some u =>
        have := isA z
        subst this
        rw [obj] at q; cases q
        exact nomatch d
    have nsB : ∀ {b : Addr} {m : Str → Option Value}, st.heap.Ns b m → (hidT st.heap H).Ns b m := by
      rintro b m ⟨o, es, n, q, d, r⟩
      exact ⟨o, es, n, hidT_get q (dictFree q d), d, r⟩
    have kB : K.In (hidT st.heap H) := by
      intro b o q
      refine hidT_get (inK b o q) ?_
      cases z : H b with
      | none => rfl
      | some u =>
        have := isA z
        subst this
        rw [freeA (by rw [z]; exact fun z => nomatch z)] at q
        cases q
    obtain ⟨mc, c1, c2⟩ := nl
    have md : Mod K mg (hidT st.heap H) := ⟨kB, nsB gl, ⟨mb, nsB bl, bb⟩, mc, nsB c1, c2⟩
    have en : Env0 pr wo K mg (hidT st.heap H) callerA [] st H := by
      refine ⟨rfl, md, fun b o q => of_hidT q, Nat.le_of_eq (hidT_size _ _), trivial, fun b q => ?_, hok, .of_eq gens⟩
      exact nomatch (show b ∈ ([] : List Addr) from q)
    have call := (F _ kB (nsB gl)).go callerA [] st H ⟨[.ref a], []⟩ [.ref a] [.ref a] _ _ rfl rm en (bind st (.ref a)) (.cons rfl .nil) (prom H hS)
    refine codeAny_mono call ?_
    intro r s2 q
    cases r with
    | error z => exact (noX H z s2 q).elim
    | ok fl =>
      cases fl with
      | next => exact (show False from q).elim
      | brk => exact (show False from q).elim
      | cont => exact (show False from q).elim
      | ret u =>
        obtain ⟨v, H2, os, bare, un, hok2, rv, hv⟩ := q
        have hv : v = .bl true := hv
        subst hv
        have hu : u = Value.bool true := rv
        subst hu
        refine ⟨rfl, OldK.of_keep ?_, os, bare⟩
        intro b o q
        cases z : H b with
        | none => exact un.keep b o q z (fun y => nomatch (show b ∈ ([] : List Addr) from y)) (fun y => nomatch y)
        | some u =>
          obtain ⟨ob, xs, rfl⟩ := only b u z
          obtain ⟨q1, _⟩ := hok b _ z
          obtain ⟨q2, _⟩ := hok2 b _ (un.frzs b ob _ z)
          rw [q] at q1; cases q1
          exact q2
  cases k : K.lookup a with
  | some o =>
    have q := inK a o k
    rw [obj] at q
    cases q
    refine main (fun _ => none) (fun b u z => nomatch z) (.inr ⟨_, us.toArray, _, k, rfl, rfl, rfl, ?_, ?_⟩) (fun b u z => nomatch (show (none : Option HO) = some u from z)) (fun b z => absurd rfl z) (fun z => absurd rfl z)
    · rw [List.size_toArray, lenV]; exact len
    · simpa using vals
  | none =>
    let H0 : Hp := fun b => if b = a then some (.frz { cls := .type "list", data := .seq us.toArray } (.lst (ns.map V.int))) else none
    have at0 : H0 a = some (.frz { cls := .type "list", data := .seq us.toArray } (.lst (ns.map V.int))) := if_pos rfl
    have off : ∀ {b : Addr}, b ≠ a → H0 b = none := fun h => if_neg h
    have on : ∀ {b : Addr} {u : HO}, H0 b = some u → b = a := fun {b u} q => by
      by_cases h : b = a
      · exact h
      · rw [off h] at q; cases q
    refine main H0 (fun b u z => ?_) (.inl (.inr ⟨_, at0⟩)) (fun b u z => ?_) (fun b z => ?_) (fun _ => k)
    · have := on z; subst this
      rw [at0] at z; cases z
      exact ⟨_, _, rfl⟩
    · have := on z; subst this
      rw [at0] at z; cases z
      exact ⟨obj, by rw [List.length_map]; exact len, us, _, vals, obj⟩
    · by_cases h : b = a
      · exact h
      · exact absurd (off h) z
/-- the law's row, from its def's promise over data -/
theorem law_walk {l : PySem.W.OpenLaw} {n lv : Nat} {q : Program} {loose : List Str} {XP : (Str → Option Value) → Heap → Prop} {YP : World → Heap → Prop} {d : DefRec} {CX : CXT} {x : Str} {g : PySem.W.Frag → DSp}
    (hn : l.most = some n) (hn2 : n ≤ sizeLine) (hdf : d.params.defaults = []) (rm : Room lv callerA)
    (F : ∀ (w : World) (mg : Str → Option Value) (fa : Addr) (h : Heap), YP w h → h.Ns mainGlobals mg → mg d.name = some (.ref fa) →
      ∃ (K : PySem.W.Frag) (fd : FuncData), K.In h ∧ (∀ (s : Shared) (u : Value), BindsTo s fd ⟨[u], []⟩ [(x, u)]) ∧
        ∀ base : Heap, K.In base → base.Ns mainGlobals mg → FnG l.prog w K mg base CX lv fa fd [x] (spLaw K (g K)))
    (hg : ∀ (K : PySem.W.Frag) (ns : List Int) (Q : Res → List D → Prop), ns.length ≤ n → (∀ o, Q (.fz (.bool true)) o) → g K [.list (ns.map PyData.int)] Q)
    (noX : ∀ (H : Hp) (s : Shared) (e : Value) (s' : Shared), CX [] H s (fun _ _ _ => False) e s' → False) :
    PySem.W.WalkO q loose XP YP l.row.toRowW d [] (fun f vs => PySem.call f vs) := by
  apply Att.attach_call hn hdf
  intro w s0 s1 mg mb fa o pm cd doc a us ns G Y ho hd hcd hmg obj iar len gens
  obtain ⟨K, fd, inK, bind, hF⟩ := F w mg fa _ Y G.T.g hmg
  refine law_enter inK G.T.g G.T.b G.T.builtins G.T.nolimit gens obj iar (Nat.le_trans len hn2) rm hF bind ?_ (fun H e s' => noX H s1 e s')
  intro H hS
  refine ⟨fun _ => none, H, [.list (ns.map PyData.int)], rfl, rfl, ⟨H, ?_⟩, hg K ns _ len (fun outs hgd ho v H' h => ?_)⟩
  · refine ⟨⟨Ex.refl _, Ex.refl _, (fun _ _ z => nomatch z), fun _ z => absurd rfl z, rfl, fun i dd z => ?_, fun i dd z => ?_, fun i k dd z hk => ?_, fun i j p k k' d1 d2 z hk => ?_⟩, rfl, fun i v z => by simp at z, fun j v z => by simp [iosFrom] at z⟩
    · cases i <;> simp [argE, tE] at z
    · cases i with
      | zero =>
        simp [argE, tE] at z
        exact ⟨a, ns, rfl, hS, z.symm⟩
      | succ i => simp [argE, tE] at z
    · cases i with
      | zero => simp [argE, tE] at z; rw [← z.1] at hk; cases hk
      | succ i => simp [argE, tE] at z
    · cases i with
      | zero => simp [argE, tE] at z; rw [← z.1] at hk; cases hk
      | succ i => simp [argE, tE] at z
  · obtain ⟨M, h⟩ := h
    have f := h.tfz (d := .bool true) (v := v) (by simp)
    exact fzb.mp f
end PL
set_option Elab.async false
set_option linter.all false
set_option autoImplicit false
set_option maxRecDepth 100000
set_option maxHeartbeats 4000000
/-! PLh: Python's operators over data. -/
namespace PL
open PySem PySem.Spec PyProof.Rows L2

theorem line_of {n : Nat} (h : n ≤ 100000) : n ≤ sizeLine := Nat.le_trans h (by decide)
theorem ltline_of {n : Nat} (h : n < 100000) : n < sizeLine := Nat.lt_of_lt_of_le h (by decide)
/-- what a reader sees as a list, a tuple -/
theorem vwl {K : PySem.W.Frag} {M H : Hp} {ds : List D} {v : V} : Vw K M H (.list ds) v ↔ ∃ a vs, v = .ref a ∧ H a = some (.lst vs) ∧ FzL K M ds vs := Iff.rfl
theorem vwt {K : PySem.W.Frag} {M H : Hp} {ds : List D} {v : V} : Vw K M H (.tuple ds) v ↔ ∃ a vs, v = .ref a ∧ SqT K M a vs ∧ FzL K M ds vs := by
  show Fz K M (.tuple ds) v ↔ _
  simp only [Fz]
section
variable {X : Cx}
def gAdd : D → D → (Out → Prop) → Prop
  | .int i, .int j, Q => Q (.val (.int (i + j)))
  | .str a, .str b, Q => a.length + b.length ≤ 100000 ∧ Q (.val (.str (a ++ b)))
  | .list a, .list b, Q => a.length + b.length ≤ 100000 ∧ Q (.new (.list (a ++ b)))
  | .tuple a, .tuple b, Q => a.length + b.length ≤ 100000 ∧ Q (.tup (a ++ b))
  | _, _, _ => False
abbrev rAddAll (K : PySem.W.Frag) : R2 := fun x y H Q => (fun x y H Q => (fun x y H Q => (rI0 fun i j => .int (i + j)) x y H Q ∨ (fun x y H Q => ∃ i j, x = V.str i ∧ y = V.str j ∧ i.length + j.length ≤ sizeLine ∧ Q (V.str (i ++ j)) H) x y H Q) x y H Q ∨ rCat x y H Q) x y H Q ∨ rCatA K x y H Q
theorem op_addAll : OpR X (binaryOp .Add) (rAddAll X.K) := ((op_add.or op_add_str).or op_cat).or op_catA
theorem g_add {K : PySem.W.Frag} : Op2 K (rAddAll K) gAdd where
  run := fun M H d1 d2 x y Q ex v1 v2 w => by
    unfold gAdd at w
    split at w
    · rw [vwi] at v1 v2
      exact .inl (.inl (.inl ⟨_, _, v1, v2, w _ (fzi.mpr rfl)⟩))
    · rw [vws] at v1 v2
      exact .inl (.inl (.inr ⟨_, _, v1, v2, line_of w.1, w.2 _ (fzs.mpr rfl)⟩))
    · obtain ⟨a, vs, rfl, r1, f1⟩ := v1
      obtain ⟨b, us, rfl, r2, f2⟩ := v2
      refine .inl (.inr ⟨a, b, vs, us, rfl, rfl, r1, r2, ?_, fun p hp => w.2 p _ hp ⟨_, upd_same, f1.append f2⟩⟩)
      rw [← f1.length, ← f2.length]; exact line_of w.1
    · rw [vwt] at v1 v2
      obtain ⟨a, vs, rfl, r1, f1⟩ := v1
      obtain ⟨b, us, rfl, r2, f2⟩ := v2
      obtain ⟨w0, w1, w2⟩ := w
      rename_i as bs
      refine .inr ⟨a, b, vs, us, rfl, rfl, ex.t r1, ex.t r2, by rw [← f1.length, ← f2.length]; exact line_of w0, fun h => ?_, fun h h' => ?_, fun h h' p hp => w2 p _ hp (f1.append f2)⟩
      · subst h
        have : as = [] := List.length_eq_zero_iff.mp (by rw [f1.length]; rfl)
        subst this
        exact w1 _ (by simp only [Fz]; exact ⟨b, us, rfl, r2, f2⟩)
      · subst h'
        have : bs = [] := List.length_eq_zero_iff.mp (by rw [f2.length]; rfl)
        subst this
        exact w1 _ (by simp only [Fz, List.append_nil]; exact ⟨a, vs, rfl, r1, f1⟩)
    · exact w.elim
  mono := fun d1 d2 Q Q' h w => by
    unfold gAdd at w ⊢
    split at w
    · exact h _ w
    · exact ⟨w.1, h _ w.2⟩
    · exact ⟨w.1, h _ w.2⟩
    · exact ⟨w.1, h _ w.2⟩
    · exact w.elim
def gSub : D → D → (Out → Prop) → Prop
  | .int i, .int j, Q => Q (.val (.int (i - j)))
  | _, _, _ => False
theorem g_sub {K : PySem.W.Frag} : Op2 K (rI0 fun i j => .int (i - j)) gSub where
  run := fun M H d1 d2 x y Q ex v1 v2 w => by
    unfold gSub at w
    split at w
    · rw [vwi] at v1 v2; exact ⟨_, _, v1, v2, w _ (fzi.mpr rfl)⟩
    · exact w.elim
  mono := fun d1 d2 Q Q' h w => by
    unfold gSub at w ⊢
    split at w
    · exact h _ w
    · exact w.elim
def gMod : D → D → (Out → Prop) → Prop
  | .int i, .int j, Q => 0 < j ∧ Q (.val (.int (i % j)))
  | _, _, _ => False
theorem g_mod {K : PySem.W.Frag} : Op2 K (rI (fun _ j => 0 < j) fun i j => .int (i % j)) gMod where
  run := fun M H d1 d2 x y Q ex v1 v2 w => by
    unfold gMod at w
    split at w
    · rw [vwi] at v1 v2; exact ⟨_, _, v1, v2, w.1, w.2 _ (fzi.mpr rfl)⟩
    · exact w.elim
  mono := fun d1 d2 Q Q' h w => by
    unfold gMod at w ⊢
    split at w
    · exact ⟨w.1, h _ w.2⟩
    · exact w.elim
def gDiv : D → D → (Out → Prop) → Prop
  | .int i, .int j, Q => (0 < j ∧ j < 1073741824) ∧ Q (.val (.int (i / j)))
  | _, _, _ => False
theorem g_div {K : PySem.W.Frag} : Op2 K (rI CDiv fun i j => .int (i / j)) gDiv where
  run := fun M H d1 d2 x y Q ex v1 v2 w => by
    unfold gDiv at w
    split at w
    · rw [vwi] at v1 v2; exact ⟨_, _, v1, v2, w.1, w.2 _ (fzi.mpr rfl)⟩
    · exact w.elim
  mono := fun d1 d2 Q Q' h w => by
    unfold gDiv at w ⊢
    split at w
    · exact ⟨w.1, h _ w.2⟩
    · exact w.elim
def gPow : D → D → (Out → Prop) → Prop
  | .int i, .int j, Q => (0 ≤ j ∧ j ≤ 1000000 ∧ i.natAbs < 2 ^ 64) ∧ Q (.val (.int (i ^ j.toNat)))
  | _, _, _ => False
theorem g_pow {K : PySem.W.Frag} : Op2 K (rI CPow fun i j => .int (i ^ j.toNat)) gPow where
  run := fun M H d1 d2 x y Q ex v1 v2 w => by
    unfold gPow at w
    split at w
    · rw [vwi] at v1 v2; exact ⟨_, _, v1, v2, w.1, w.2 _ (fzi.mpr rfl)⟩
    · exact w.elim
  mono := fun d1 d2 Q Q' h w => by
    unfold gPow at w ⊢
    split at w
    · exact ⟨w.1, h _ w.2⟩
    · exact w.elim
/-! ### * -/
theorem op_mulStr : OpR X (binaryOp .Mult) (fun x y H Q => ∃ a k, x = .str a ∧ y = .int k ∧ MulOk a k ∧ Q (.str (Txt.mul a k)) H) := by
  intro pins s σ H x y v u Q I rx ry h
  obtain ⟨a, k, rfl, rfl, ok, q⟩ := h
  obtain ⟨t, rfl⟩ := rx
  obtain ⟨t', rfl⟩ := ry
  exact SB.mul ok fun t2 k2 => ⟨.str _, H, I.tok k2, ⟨t2, rfl⟩, q⟩
def gMul : D → D → (Out → Prop) → Prop
  | .int i, .int j, Q => ((-(2 ^ 64) < i ∧ i < 2 ^ 64) ∨ (-(2 ^ 64) < j ∧ j < 2 ^ 64)) ∧ Q (.val (.int (i * j)))
  | .str a, .int k, Q => (0 ≤ k ∧ k ≤ 1000 ∧ a.length ≤ 1000) ∧ Q (.val (.str (Txt.mul a k)))
  | .list a, .int k, Q => (0 ≤ k ∧ k ≤ 1000 ∧ a.length ≤ 1000) ∧ Q (.new (.list (List.replicate k.toNat a).flatten))
  | _, _, _ => False
abbrev rMulAll : R2 := fun x y H Q => (fun x y H Q => (rI CMul fun i j => .int (i * j)) x y H Q ∨ (fun x y H Q => ∃ a k, x = V.str a ∧ y = V.int k ∧ MulOk a k ∧ Q (V.str (Txt.mul a k)) H) x y H Q) x y H Q ∨ rRep x y H Q
theorem op_mulAll : OpR X (binaryOp .Mult) rMulAll := (op_mul.or op_mulStr).or op_rep
theorem rep_fz {K : PySem.W.Frag} {M : Hp} {ds : List D} {vs : List V} (h : FzL K M ds vs) : ∀ n : Nat, FzL K M (List.replicate n ds).flatten (List.replicate n vs).flatten
  | 0 => .nil
  | n + 1 => by
    rw [List.replicate_succ, List.replicate_succ, List.flatten_cons, List.flatten_cons]
    exact h.append (rep_fz h n)
theorem mul_ok {a : Str} {k : Int} (h0 : 0 ≤ k) (h1 : k ≤ 1000) (h2 : a.length ≤ 1000) : MulOk a k := by
  exact mulOk_of 4096 4096 (by omega) (by omega) (by omega) (by decide) (by decide)
theorem g_mul {K : PySem.W.Frag} : Op2 K rMulAll gMul where
  run := fun M H d1 d2 x y Q ex v1 v2 w => by
    unfold gMul at w
    split at w
    · rw [vwi] at v1 v2; exact .inl (.inl ⟨_, _, v1, v2, w.1, w.2 _ (fzi.mpr rfl)⟩)
    · rw [vws] at v1; rw [vwi] at v2
      exact .inl (.inr ⟨_, _, v1, v2, mul_ok w.1.1 w.1.2.1 w.1.2.2, w.2 _ (fzs.mpr rfl)⟩)
    · obtain ⟨a, vs, rfl, r1, f1⟩ := v1
      rw [vwi] at v2
      refine .inr ⟨a, _, vs, rfl, v2, r1, by omega, by omega, ?_, fun p hp => w.2 p _ hp ⟨_, upd_same, rep_fz f1 _⟩⟩
      rw [← f1.length]
      rename_i as k
      have h1 : k.toNat ≤ 1000 := by omega
      exact Nat.le_trans (Nat.mul_le_mul w.1.2.2 h1) (by decide)
    · exact w.elim
  mono := fun d1 d2 Q Q' h w => by
    unfold gMul at w ⊢
    split at w
    · exact ⟨w.1, h _ w.2⟩
    · exact ⟨w.1, h _ w.2⟩
    · exact ⟨w.1, h _ w.2⟩
    · exact w.elim
/-! ### order -/
/-- the order of texts, as Python has it -/
def sLt (a b : Str) : Bool := decide (a.cps.toList < b.cps.toList)
def gCmp (p : Int → Int → Bool) (q : Str → Str → Bool) : D → D → (Out → Prop) → Prop
  | .int i, .int j, Q => Q (.val (.bool (p i j)))
  | .str a, .str b, Q => Q (.val (.bool (q a b)))
  | _, _, _ => False
abbrev rCmp (p : Int → Int → Bool) (q : Str → Str → Bool) : R2 := fun x y H Q => (rI0 fun i j => .bl (p i j)) x y H Q ∨ (fun x y H Q => ∃ i j, x = V.str i ∧ y = V.str j ∧ Q (V.bl (q i j)) H) x y H Q
theorem g_cmp {K : PySem.W.Frag} (p : Int → Int → Bool) (q : Str → Str → Bool) : Op2 K (rCmp p q) (gCmp p q) where
  run := fun M H d1 d2 x y Q ex v1 v2 w => by
    unfold gCmp at w
    split at w
    · rw [vwi] at v1 v2; exact .inl ⟨_, _, v1, v2, w _ (fzb.mpr rfl)⟩
    · rw [vws] at v1 v2; exact .inr ⟨_, _, v1, v2, w _ (fzb.mpr rfl)⟩
    · exact w.elim
  mono := fun d1 d2 Q Q' h w => by
    unfold gCmp at w ⊢
    split at w
    · exact h _ w
    · exact h _ w
    · exact w.elim
abbrev gLt := gCmp (fun i j => decide (i < j)) sLt
abbrev gLe := gCmp (fun i j => decide (i ≤ j)) (fun a b => !sLt b a)
abbrev gGt := gCmp (fun i j => decide (j < i)) (fun a b => sLt b a)
abbrev gGe := gCmp (fun i j => decide (j ≤ i)) (fun a b => !sLt a b)
theorem op_ltA : OpR X (compareOp .Lt) (rCmp (fun i j => decide (i < j)) sLt) := op_lt.or op_lt_str
theorem op_leA : OpR X (compareOp .LtE) (rCmp (fun i j => decide (i ≤ j)) (fun a b => !sLt b a)) := op_le.or op_le_str
theorem op_gtA : OpR X (compareOp .Gt) (rCmp (fun i j => decide (j < i)) (fun a b => sLt b a)) := op_gt.or op_gt_str
theorem op_geA : OpR X (compareOp .GtE) (rCmp (fun i j => decide (j ≤ i)) (fun a b => !sLt a b)) := op_ge.or op_ge_str
/-! ### ==, != -/
def flat : D → Bool
  | .list _ => false
  | .tuple _ => false
  | .dict _ => false
  | _ => true
mutual
theorem fz_dp {K : PySem.W.Frag} {M H : Hp} (ex : Ex M H) : ∀ (d : D) (v : V), d.canLay0 = true → Fz K M d v → Dp K H v d
  | .none, v, _, h => by rw [fzn.mp h]; exact .non
  | .bool b, v, _, h => by rw [fzb.mp h]; exact .bl b
  | .int b, v, _, h => by rw [fzi.mp h]; exact .int b
  | .str b, v, _, h => by rw [fzs.mp h]; exact .str b
  | .list ds, v, c, h => by
    simp only [Fz] at h
    obtain ⟨a, vs, rfl, r, f⟩ := h
    exact .lst (.inl (.inl (ex _ _ r))) (fz_dpAll ex ds vs (by simpa [PyData.canLay0] using c) f)
  | .tuple ds, v, c, h => by
    simp only [Fz] at h
    obtain ⟨a, vs, rfl, r, f⟩ := h
    exact .tup (ex.t r) (fz_dpAll ex ds vs (by simpa [PyData.canLay0] using c) f)
  | .dict kds, v, c, h => by simp [PyData.canLay0] at c
theorem fz_dpAll {K : PySem.W.Frag} {M H : Hp} (ex : Ex M H) : ∀ (ds : List D) (vs : List V), PyData.canLayAll0 ds = true → FzL K M ds vs → DpAll K H vs ds
  | [], vs, _, h => by simp only [FzL] at h; subst h; exact .nil
  | d :: ds, vs, c, h => by
    simp only [FzL] at h
    obtain ⟨v, r, rfl, h1, h2⟩ := h
    rw [PyData.canLayAll0, Bool.and_eq_true] at c
    exact .cons (fz_dp ex d v c.1 h1) (fz_dpAll ex ds r c.2 h2)
end
theorem vw_dp {K : PySem.W.Frag} {M H : Hp} (ex : Ex M H) {d : D} {v : V} (c : d.canLay0 = true) (h : Vw K M H d v) : Dp K H v d := by
  cases d with
  | list ds =>
    obtain ⟨a, vs, rfl, r, f⟩ := h
    exact .lst (.inl (.inl r)) (fz_dpAll ex ds vs (by simpa [PyData.canLay0] using c) f)
  | dict kds => simp [PyData.canLay0] at c
  | none => exact fz_dp ex _ v c h
  | bool b => exact fz_dp ex _ v c h
  | int b => exact fz_dp ex _ v c h
  | str b => exact fz_dp ex _ v c h
  | tuple b => exact fz_dp ex _ v c h
def eqOk : D → D → Prop
  | .int _, .int _ => True
  | .str _, .str _ => True
  | .bool _, .bool _ => True
  | .none, .str _ => True
  | .str _, .none => True
  | .none, .int _ => True
  | .int _, .none => True
  | .none, .bool _ => True
  | .bool _, .none => True
  | .none, .none => True
  | .str _, .int _ => True
  | .int _, .str _ => True
  | .str _, .bool _ => True
  | .bool _, .str _ => True
  | d, e => SeqAt.shaped d = true ∧ SeqAt.shaped e = true
def gEq (d e : D) (Q : Out → Prop) : Prop := eqOk d e ∧ Q (.val (.bool (PyData.eqv d e)))
def gNe (d e : D) (Q : Out → Prop) : Prop := eqOk d e ∧ Q (.val (.bool (!PyData.eqv d e)))
abbrev rEqA (K : PySem.W.Frag) : R2 := fun x y H Q => rEq x y H Q ∨ rEqD K x y H Q
abbrev rNeA (K : PySem.W.Frag) : R2 := fun x y H Q => rNe x y H Q ∨ rNeD K x y H Q
theorem op_eqA (hu : X.A.units + 64 < cLine) : OpR X (compareOp .Eq) (rEqA X.K) := op_eq.or (op_eqD hu)
theorem op_neA (hu : X.A.units + 64 < cLine) : OpR X (compareOp .NotEq) (rNeA X.K) := op_ne.or (op_neD hu)
theorem eq_cases {K : PySem.W.Frag} {M H : Hp} (ex : Ex M H) {d1 d2 : D} {x y : V} (ok : eqOk d1 d2) (v1 : Vw K M H d1 x) (v2 : Vw K M H d2 y) :
    (scal x y = true ∧ decide (x = y) = PyData.eqv d1 d2) ∨ (Dp K H x d1 ∧ Dp K H y d2 ∧ SeqAt.shaped d1 = true ∧ SeqAt.shaped d2 = true) := by
  have dec : ∀ (a b : Bool), (a = true ↔ b = true) → a = b := fun a b h => Bool.eq_iff_iff.mpr h
  unfold eqOk at ok
  split at ok
  · rw [vwi] at v1 v2; subst v1 v2; exact .inl ⟨rfl, dec _ _ (by simp [PyData.eqv])⟩
  · rw [vws] at v1 v2; subst v1 v2; exact .inl ⟨rfl, dec _ _ (by simp [PyData.eqv])⟩
  · rw [vwb] at v1 v2; subst v1 v2; exact .inl ⟨rfl, dec _ _ (by simp [PyData.eqv])⟩
  · rw [vwn] at v1; rw [vws] at v2; subst v1 v2; exact .inl ⟨rfl, by simp [PyData.eqv]⟩
  · rw [vws] at v1; rw [vwn] at v2; subst v1 v2; exact .inl ⟨rfl, by simp [PyData.eqv]⟩
  · rw [vwn] at v1; rw [vwi] at v2; subst v1 v2; exact .inl ⟨rfl, by simp [PyData.eqv]⟩
  · rw [vwi] at v1; rw [vwn] at v2; subst v1 v2; exact .inl ⟨rfl, by simp [PyData.eqv]⟩
  · rw [vwn] at v1; rw [vwb] at v2; subst v1 v2; exact .inl ⟨rfl, by simp [PyData.eqv]⟩
  · rw [vwb] at v1; rw [vwn] at v2; subst v1 v2; exact .inl ⟨rfl, by simp [PyData.eqv]⟩
  · rw [vwn] at v1 v2; subst v1 v2; exact .inl ⟨rfl, by simp [PyData.eqv]⟩
  · rw [vws] at v1; rw [vwi] at v2; subst v1 v2; exact .inl ⟨rfl, by simp [PyData.eqv]⟩
  · rw [vwi] at v1; rw [vws] at v2; subst v1 v2; exact .inl ⟨rfl, by simp [PyData.eqv]⟩
  · rw [vws] at v1; rw [vwb] at v2; subst v1 v2; exact .inl ⟨rfl, by simp [PyData.eqv]⟩
  · rw [vwb] at v1; rw [vws] at v2; subst v1 v2; exact .inl ⟨rfl, by simp [PyData.eqv]⟩
  · exact .inr ⟨vw_dp ex (SeqAt.canLay_of_shaped ok.1) v1, vw_dp ex (SeqAt.canLay_of_shaped ok.2) v2, ok.1, ok.2⟩
theorem g_eq {K : PySem.W.Frag} : Op2 K (rEqA K) gEq where
  run := fun M H d1 d2 x y Q ex v1 v2 w => by
    rcases eq_cases ex w.1 v1 v2 with ⟨h1, h2⟩ | ⟨h1, h2, h3, h4⟩
    · exact .inl ⟨h1, by rw [h2]; exact w.2 _ (fzb.mpr rfl)⟩
    · exact .inr ⟨d1, d2, h1, h2, h3, h4, w.2 _ (fzb.mpr rfl)⟩
  mono := fun d1 d2 Q Q' h w => ⟨w.1, h _ w.2⟩
theorem g_ne {K : PySem.W.Frag} : Op2 K (rNeA K) gNe where
  run := fun M H d1 d2 x y Q ex v1 v2 w => by
    rcases eq_cases ex w.1 v1 v2 with ⟨h1, h2⟩ | ⟨h1, h2, h3, h4⟩
    · exact .inl ⟨h1, by rw [h2]; exact w.2 _ (fzb.mpr rfl)⟩
    · exact .inr ⟨d1, d2, h1, h2, h3, h4, w.2 _ (fzb.mpr rfl)⟩
  mono := fun d1 d2 Q Q' h w => ⟨w.1, h _ w.2⟩
/-! ### in, not in -/
/-- one of a list or a tuple of flat things; one sign of a text; a text's part is served where it is one sign -/
def inD (d : D) (ds : List D) : Bool := ds.any fun z => PyData.eqv z d
def gIn (neg : Bool) (d e : D) (Q : Out → Prop) : Prop := match e with
  | .str z => ∃ c, d = .str ⟨#[c]⟩ ∧ Q (.val (.bool (if neg then !decide (c ∈ z.cps.toList) else decide (c ∈ z.cps.toList))))
  | .list ds => (flat d = true ∧ ds.all flat = true) ∧ Q (.val (.bool (if neg then !inD d ds else inD d ds)))
  | .tuple ds => (flat d = true ∧ ds.all flat = true) ∧ Q (.val (.bool (if neg then !inD d ds else inD d ds)))
  | _ => False
theorem flat_v {K : PySem.W.Frag} {M : Hp} {d : D} {v : V} (h : flat d = true) (f : Fz K M d v) : flatV v = true := by
  cases d <;> simp only [flat] at h <;> first | cases h | skip
  · rw [fzn.mp f]; rfl
  · rw [fzb.mp f]; rfl
  · rw [fzi.mp f]; rfl
  · rw [fzs.mp f]; rfl
theorem flat_eq {K : PySem.W.Frag} {M : Hp} {d e : D} {v w : V} (h : flat d = true) (h' : flat e = true) (f : Fz K M d v) (f' : Fz K M e w) : eqV v w = PyData.eqv d e := by
  cases d <;> simp only [flat] at h <;> first | cases h | skip
  all_goals cases e <;> simp only [flat] at h' <;> first | cases h' | skip
  all_goals simp only [Fz] at f f'; subst f f'; rfl
theorem flat_all {K : PySem.W.Frag} {M : Hp} : ∀ {ds : List D} {vs : List V}, ds.all flat = true → FzL K M ds vs → vs.all flatV = true
  | [], vs, _, h => by simp only [FzL] at h; subst h; rfl
  | d :: ds, vs, c, h => by
    simp only [FzL] at h
    obtain ⟨v, r, rfl, h1, h2⟩ := h
    simp only [List.all_cons, Bool.and_eq_true] at c ⊢
    exact ⟨flat_v c.1 h1, flat_all c.2 h2⟩
theorem flat_any {K : PySem.W.Frag} {M : Hp} {d : D} {v : V} (hd : flat d = true) (hv : Fz K M d v) : ∀ {ds : List D} {vs : List V}, ds.all flat = true → FzL K M ds vs → inV v vs = inD d ds
  | [], vs, _, h => by simp only [FzL] at h; subst h; rfl
  | e :: ds, vs, c, h => by
    simp only [FzL] at h
    obtain ⟨w, r, rfl, h1, h2⟩ := h
    simp only [List.all_cons, Bool.and_eq_true] at c
    have ih := flat_any hd hv c.2 h2
    unfold inV inD at ih ⊢
    rw [List.any_cons, List.any_cons, ih, flat_eq c.1 hd h1 hv]
theorem vw_flat {K : PySem.W.Frag} {M H : Hp} {d : D} {v : V} (h : flat d = true) (f : Vw K M H d v) : Fz K M d v := by
  cases d <;> first | exact f | cases h
abbrev rInA (K : PySem.W.Frag) (neg : Bool) : R2 := fun x y H Q => (fun x y H Q => ∃ (c : Nat) (z : Str), x = V.str ⟨#[c]⟩ ∧ y = V.str z ∧ Q (V.bl (if neg then !decide (c ∈ z.cps.toList) else decide (c ∈ z.cps.toList))) H) x y H Q ∨ rIn K neg x y H Q
theorem op_inA : OpR X (compareOp .In) (rInA X.K false) := OpR.or (fun pins s σ H x y v u Q I rx ry ⟨c, z, h1, h2, q⟩ => op_in_sign pins s σ H x y v u Q I rx ry ⟨c, z, h1, h2, q⟩) op_in_seq
theorem op_notInA : OpR X (compareOp .NotIn) (rInA X.K true) := OpR.or (fun pins s σ H x y v u Q I rx ry ⟨c, z, h1, h2, q⟩ => op_notIn_sign pins s σ H x y v u Q I rx ry ⟨c, z, h1, h2, q⟩) op_notIn_seq
theorem g_in {K : PySem.W.Frag} (neg : Bool) : Op2 K (rInA K neg) (gIn neg) where
  run := fun M H d1 d2 x y Q ex v1 v2 w => by
    cases d2 with
    | str z =>
      obtain ⟨c, rfl, w⟩ := w
      rw [vws] at v1 v2
      exact .inl ⟨_, _, v1, v2, w _ (fzb.mpr rfl)⟩
    | list ds =>
      obtain ⟨⟨w1, w2⟩, w⟩ := w
      obtain ⟨a, vs, rfl, r, f⟩ := v2
      have f1 := vw_flat w1 v1
      refine .inr ⟨a, vs, rfl, .inl (.inl (.inl r)), flat_v w1 f1, flat_all w2 f, ?_⟩
      rw [flat_any w1 f1 w2 f]
      exact w _ (fzb.mpr rfl)
    | tuple ds =>
      obtain ⟨⟨w1, w2⟩, w⟩ := w
      rw [vwt] at v2
      obtain ⟨a, vs, rfl, r, f⟩ := v2
      have f1 := vw_flat w1 v1
      refine .inr ⟨a, vs, rfl, .inr (ex.t r), flat_v w1 f1, flat_all w2 f, ?_⟩
      rw [flat_any w1 f1 w2 f]
      exact w _ (fzb.mpr rfl)
    | _ => exact (show False from w).elim
  mono := fun d1 d2 Q Q' h w => by
    cases d2 with
    | str z => obtain ⟨c, e, w⟩ := w; exact ⟨c, e, h _ w⟩
    | list ds => exact ⟨w.1, h _ w.2⟩
    | tuple ds => exact ⟨w.1, h _ w.2⟩
    | _ => exact (show False from w).elim
/-! ### is None, is True -/
def gIs (neg : Bool) : D → D → (Out → Prop) → Prop
  | d, .none, Q => Q (.val (.bool (if neg then !(PyData.eqv d .none) else PyData.eqv d .none)))
  | .bool a, .bool b, Q => Q (.val (.bool (if neg then !decide (a = b) else decide (a = b))))
  | _, _, _ => False
abbrev rIsA (neg : Bool) : R2 := fun x y H Q => (fun x y H Q => y = V.non ∧ Q (V.bl (if neg then !decide (x = V.non) else decide (x = V.non))) H) x y H Q ∨ (fun x y H Q => ∃ a b : Bool, x = V.bl a ∧ y = V.bl b ∧ Q (V.bl (if neg then !decide (a = b) else decide (a = b))) H) x y H Q
theorem op_isA : OpR X (compareOp .Is) (rIsA false) := OpR.or op_isN op_is_bl
theorem op_isNotA : OpR X (compareOp .IsNot) (rIsA true) := OpR.or op_notN op_isnot_bl
theorem is_non {K : PySem.W.Frag} {M H : Hp} {d : D} {x : V} (v : Vw K M H d x) : decide (x = V.non) = PyData.eqv d .none := by
  cases d with
  | none => rw [vwn.mp v]; rfl
  | bool b => rw [vwb.mp v]; rfl
  | int b => rw [vwi.mp v]; rfl
  | str b => rw [vws.mp v]; rfl
  | list ds => obtain ⟨a, vs, rfl, _⟩ := v; rfl
  | tuple ds => rw [vwt] at v; obtain ⟨a, vs, rfl, _⟩ := v; rfl
  | dict ds => obtain ⟨a, rfl, _⟩ := v; rfl
theorem g_is {K : PySem.W.Frag} (neg : Bool) : Op2 K (rIsA neg) (gIs neg) where
  run := fun M H d1 d2 x y Q ex v1 v2 w => by
    unfold gIs at w
    split at w
    · rw [vwn] at v2
      refine .inl ⟨v2, ?_⟩
      rw [is_non v1]
      exact w _ (fzb.mpr rfl)
    · rw [vwb] at v1 v2
      exact .inr ⟨_, _, v1, v2, w _ (fzb.mpr rfl)⟩
    · exact w.elim
  mono := fun d1 d2 Q Q' h w => by
    unfold gIs at w ⊢
    split at w
    · exact h _ w
    · exact h _ w
    · exact w.elim
end
end PL
set_option Elab.async false
set_option linter.all false
set_option autoImplicit false
set_option maxRecDepth 100000
set_option maxHeartbeats 4000000
/-! PLi: subscripts, slices, built-ins, methods, iterables over data. -/
namespace PL
open PySem PySem.Spec PyProof.Rows L2

section
variable {X : Cx}
theorem CallR.or {f : Value} {r r' : List V → Hp → VK → Prop} (h : CallR X f r) (h' : CallR X f r') : CallR X f (fun xs H Q => r xs H Q ∨ r' xs H Q) := by
  intro pins s σ H xs us Q I rv q
  rcases q with q | q
  · exact h pins s σ H xs us Q I rv q
  · exact h' pins s σ H xs us Q I rv q
/-! ### x[i] -/
theorem fz_atI {K : PySem.W.Frag} {M : Hp} {ds : List D} {vs : List V} {i : Int} {d : D} (f : FzL K M ds vs) (h : atI ds i = some d) : ∃ v, atI vs i = some v ∧ Fz K M d v := by
  unfold atI at h ⊢
  rw [f.length] at h
  cases e : ixN vs.length i with
  | none => rw [e] at h; cases h
  | some j =>
    rw [e] at h
    exact f.get (show ds[j]? = some d from h)
def gIx : D → D → (Out → Prop) → Prop
  | .list ds, .int i, Q => ∃ d, atI ds i = some d ∧ Q (.val d)
  | .tuple ds, .int i, Q => ∃ d, atI ds i = some d ∧ Q (.val d)
  | .str z, .int i, Q => z.length ≤ 100000 ∧ ∃ c, atI z.cps.toList i = some c ∧ Q (.val (.str ⟨#[c]⟩))
  | _, _, _ => False
theorem g_ix {K : PySem.W.Frag} : Op2 K (rIx K) gIx where
  run := fun M H d1 d2 x y Q ex v1 v2 w => by
    unfold gIx at w
    split at w
    · obtain ⟨d, h, w⟩ := w
      obtain ⟨a, vs, rfl, r, f⟩ := v1
      rw [vwi] at v2
      obtain ⟨v, q, fv⟩ := fz_atI f h
      exact .inl ⟨a, vs, _, v, rfl, v2, .inl (.inl r), q, w v fv⟩
    · obtain ⟨d, h, w⟩ := w
      rw [vwt] at v1
      obtain ⟨a, vs, rfl, r, f⟩ := v1
      rw [vwi] at v2
      obtain ⟨v, q, fv⟩ := fz_atI f h
      exact .inr (.inl ⟨a, vs, _, v, rfl, v2, ex.t r, q, w v fv⟩)
    · obtain ⟨hz, c, h, w⟩ := w
      rw [vws] at v1; rw [vwi] at v2
      exact .inr (.inr ⟨_, _, c, v1, v2, line_of hz, h, w _ (fzs.mpr rfl)⟩)
    · exact w.elim
  mono := fun d1 d2 Q Q' h w => by
    unfold gIx at w ⊢
    split at w
    · obtain ⟨d, q, w⟩ := w; exact ⟨d, q, h _ w⟩
    · obtain ⟨d, q, w⟩ := w; exact ⟨d, q, h _ w⟩
    · obtain ⟨z, d, q, w⟩ := w; exact ⟨z, d, q, h _ w⟩
    · exact w.elim
/-! ### x[a:b] -/
def cutD (ds : List D) (lo hi : Option Int) : List D := (ds.drop (HT.sIx ds.length 0 lo)).take (HT.sIx ds.length ds.length hi - HT.sIx ds.length 0 lo)
def gSl : D → Option Int → Option Int → (Out → Prop) → Prop
  | .list ds, lo, hi, Q => Q (.new (.list (cutD ds lo hi)))
  | .tuple ds, lo, hi, Q => Q (.tup (cutD ds lo hi))
  | .str z, lo, hi, Q => z.length ≤ 100000 ∧ Q (.val (.str (cutS z lo hi)))
  | _, _, _, _ => False
abbrev rSlAll (K : PySem.W.Frag) : V → Option Int → Option Int → Hp → VK → Prop := fun x lo hi H Q => (fun x lo hi H Q => rSlL K x lo hi H Q ∨ rSlA K x lo hi H Q) x lo hi H Q ∨ rSlS x lo hi H Q
theorem sl_all : SlR X (rSlAll X.K) := (sl_list.or sl_tupA).or sl_str
theorem fz_cut {K : PySem.W.Frag} {M : Hp} {ds : List D} {vs : List V} {lo hi : Option Int} (f : FzL K M ds vs) : FzL K M (cutD ds lo hi) (cutV vs lo hi) := by
  unfold cutD cutV
  rw [f.length]
  exact (f.drop _).take _
theorem g_sl {K : PySem.W.Frag} : OpS K (rSlAll K) gSl where
  run := fun M H d x lo hi Q ex v w => by
    cases d with
    | list ds =>
      obtain ⟨a, vs, rfl, r, f⟩ := v
      exact .inl (.inl ⟨a, vs, rfl, .inl (.inl r), fun p hp => w p _ hp ⟨_, upd_same, fz_cut f⟩⟩)
    | tuple ds =>
      rw [vwt] at v
      obtain ⟨a, vs, rfl, r, f⟩ := v
      have w : Gives K M H Q (.tup (cutD ds lo hi)) := w
      refine .inl (.inr ⟨a, vs, rfl, ex.t r, fun h => ?_, fun _ p hp => w.2 p _ hp (fz_cut f)⟩)
      have e : cutD ds lo hi = ds := by
        unfold cutD
        rw [f.length, h.1, h.2, List.drop_zero, Nat.sub_zero, ← f.length, List.take_length]
      rw [e] at w
      exact w.1 _ (by simp only [Fz]; exact ⟨a, vs, rfl, r, f⟩)
    | str z =>
      rw [vws] at v
      exact .inr ⟨_, v, line_of w.1, w.2 _ (fzs.mpr rfl)⟩
    | _ => exact (show False from w).elim
  mono := fun d lo hi Q Q' h w => by
    cases d with
    | list ds => exact h _ w
    | tuple ds => exact h _ w
    | str z => exact ⟨w.1, h _ w.2⟩
    | _ => exact (show False from w).elim
/-! ### built-ins -/
theorem vwl1 {K : PySem.W.Frag} {M H : Hp} {d : D} {vs : List V} (h : VwL K M H [d] vs) : ∃ v, vs = [v] ∧ Vw K M H d v := by
  simp only [VwL] at h
  obtain ⟨v, r, rfl, h, rfl⟩ := h
  exact ⟨v, rfl, h⟩
theorem vwl2 {K : PySem.W.Frag} {M H : Hp} {d e : D} {vs : List V} (h : VwL K M H [d, e] vs) : ∃ v w, vs = [v, w] ∧ Vw K M H d v ∧ Vw K M H e w := by
  simp only [VwL] at h
  obtain ⟨v, r, rfl, h, w, r', rfl, h', rfl⟩ := h
  exact ⟨v, w, rfl, h, h'⟩
/-- a built-in of one argument -/
def g1 (g : D → (Out → Prop) → Prop) : List D → (Out → Prop) → Prop
  | [d], Q => g d Q
  | _, _ => False
def g2 (g : D → D → (Out → Prop) → Prop) : List D → (Out → Prop) → Prop
  | [d, e], Q => g d e Q
  | _, _ => False
theorem op_g1 {K : PySem.W.Frag} {r : List V → Hp → VK → Prop} {g : D → (Out → Prop) → Prop} (run : ∀ M H d x Q, Ex M H → Vw K M H d x → g d (Gives K M H Q) → r [x] H Q) (mono : ∀ d Q Q', (∀ o, Q o → Q' o) → g d Q → g d Q') : OpN K r (g1 g) where
  run := fun M H ds vs Q ex v w => by
    match ds, w with
    | [d], w =>
      obtain ⟨x, rfl, v'⟩ := vwl1 v
      exact run M H d x Q ex v' w
  mono := fun ds Q Q' h w => by
    match ds, w with
    | [d], w => exact mono d Q Q' h w
theorem op_g2 {K : PySem.W.Frag} {r : List V → Hp → VK → Prop} {g : D → D → (Out → Prop) → Prop} (run : ∀ M H d e x y Q, Ex M H → Vw K M H d x → Vw K M H e y → g d e (Gives K M H Q) → r [x, y] H Q) (mono : ∀ d e Q Q', (∀ o, Q o → Q' o) → g d e Q → g d e Q') : OpN K r (g2 g) where
  run := fun M H ds vs Q ex v w => by
    match ds, w with
    | [d, e], w =>
      obtain ⟨x, y, rfl, v1, v2⟩ := vwl2 v
      exact run M H d e x y Q ex v1 v2 w
  mono := fun ds Q Q' h w => by
    match ds, w with
    | [d, e], w => exact mono d e Q Q' h w
def gLen : D → (Out → Prop) → Prop
  | .list ds, Q => Q (.val (.int ds.length))
  | .tuple ds, Q => Q (.val (.int ds.length))
  | .str z, Q => z.length ≤ 100000 ∧ Q (.val (.int z.length))
  | _, _ => False
theorem g_len {K : PySem.W.Frag} : OpN K (fun xs H Q => ∃ x n, xs = [x] ∧ LenV K x H n ∧ Q (.int n) H) (g1 gLen) := op_g1 (fun M H d x Q ex v w => by
    unfold gLen at w
    split at w
    · obtain ⟨a, vs, rfl, r, f⟩ := v
      exact ⟨_, _, rfl, .inl ⟨vs, .inl (.inl r), rfl⟩, by rw [← f.length]; exact w _ (fzi.mpr rfl)⟩
    · rw [vwt] at v
      obtain ⟨a, vs, rfl, r, f⟩ := v
      exact ⟨_, _, rfl, .inr ⟨vs, ex.t r, rfl⟩, by rw [← f.length]; exact w _ (fzi.mpr rfl)⟩
    · rw [vws] at v; subst v
      exact ⟨_, _, rfl, ⟨line_of w.1, rfl⟩, w.2 _ (fzi.mpr rfl)⟩
    · exact w.elim) fun d Q Q' h w => by
    unfold gLen at w ⊢
    split at w
    · exact h _ w
    · exact h _ w
    · exact ⟨w.1, h _ w.2⟩
    · exact w.elim
def gAbs : D → (Out → Prop) → Prop
  | .int i, Q => Q (.val (.int (if i < 0 then -i else i)))
  | _, _ => False
theorem g_abs {K : PySem.W.Frag} : OpN K (fun xs H Q => ∃ i, xs = [.int i] ∧ Q (.int (if i < 0 then -i else i)) H) (g1 gAbs) := op_g1 (fun M H d x Q ex v w => by
    unfold gAbs at w
    split at w
    · rw [vwi] at v; subst v; exact ⟨_, rfl, w _ (fzi.mpr rfl)⟩
    · exact w.elim) fun d Q Q' h w => by
    unfold gAbs at w ⊢
    split at w
    · exact h _ w
    · exact w.elim
def gInt : D → (Out → Prop) → Prop
  | .int i, Q => Q (.val (.int i))
  | .bool b, Q => Q (.val (.int (if b then 1 else 0)))
  | _, _ => False
theorem g_int {K : PySem.W.Frag} : OpN K (fun xs H Q => (∃ i, xs = [.int i] ∧ Q (.int i) H) ∨ ∃ k, xs = [.bl k] ∧ Q (.int (if k then 1 else 0)) H) (g1 gInt) := op_g1 (fun M H d x Q ex v w => by
    unfold gInt at w
    split at w
    · rw [vwi] at v; subst v; exact .inl ⟨_, rfl, w _ (fzi.mpr rfl)⟩
    · rw [vwb] at v; subst v; exact .inr ⟨_, rfl, w _ (fzi.mpr rfl)⟩
    · exact w.elim) fun d Q Q' h w => by
    unfold gInt at w ⊢
    split at w
    · exact h _ w
    · exact h _ w
    · exact w.elim
/-! max, min of two numbers -/
def gI2 (f : Int → Int → Int) : D → D → (Out → Prop) → Prop
  | .int i, .int j, Q => Q (.val (.int (f i j)))
  | _, _, _ => False
theorem g_i2 {K : PySem.W.Frag} (f : Int → Int → Int) : OpN K (fun xs H Q => ∃ i j, xs = [.int i, .int j] ∧ Q (.int (f i j)) H) (g2 (gI2 f)) := op_g2 (fun M H d e x y Q ex v v' w => by
    unfold gI2 at w
    split at w
    · rw [vwi] at v v'; subst v v'; exact ⟨_, _, rfl, w _ (fzi.mpr rfl)⟩
    · exact w.elim) fun d e Q Q' h w => by
    unfold gI2 at w ⊢
    split at w
    · exact h _ w
    · exact w.elim
abbrev gMax2 := gI2 fun i j => if j > i then j else i
abbrev gMin2 := gI2 fun i j => if j < i then j else i
/-! lists of numbers, of truths, of texts -/
def ints? : List D → Option (List Int)
  | [] => some []
  | .int i :: r => (ints? r).map (i :: ·)
  | _ => none
def bools? : List D → Option (List Bool)
  | [] => some []
  | .bool i :: r => (bools? r).map (i :: ·)
  | _ => none
def strs? : List D → Option (List Str)
  | [] => some []
  | .str i :: r => (strs? r).map (i :: ·)
  | _ => none
theorem ints_fz {K : PySem.W.Frag} {M : Hp} : ∀ {ds : List D} {ns : List Int} {vs : List V}, ints? ds = some ns → FzL K M ds vs → vs = ns.map V.int
  | [], ns, vs, h, f => by cases h; simp only [FzL] at f; exact f
  | .int i :: r, ns, vs, h, f => by
    simp only [FzL] at f
    obtain ⟨v, vr, rfl, f1, f2⟩ := f
    rw [ints?] at h
    cases e : ints? r with
    | none => rw [e] at h; cases h
    | some ms => rw [e] at h; cases h; rw [fzi.mp f1, ints_fz e f2]; rfl
  | .none :: r, ns, vs, h, f => by simp [ints?] at h
  | .bool _ :: r, ns, vs, h, f => by simp [ints?] at h
  | .str _ :: r, ns, vs, h, f => by simp [ints?] at h
  | .list _ :: r, ns, vs, h, f => by simp [ints?] at h
  | .tuple _ :: r, ns, vs, h, f => by simp [ints?] at h
  | .dict _ :: r, ns, vs, h, f => by simp [ints?] at h
theorem bools_fz {K : PySem.W.Frag} {M : Hp} : ∀ {ds : List D} {ns : List Bool} {vs : List V}, bools? ds = some ns → FzL K M ds vs → vs = ns.map V.bl
  | [], ns, vs, h, f => by cases h; simp only [FzL] at f; exact f
  | .bool i :: r, ns, vs, h, f => by
    simp only [FzL] at f
    obtain ⟨v, vr, rfl, f1, f2⟩ := f
    rw [bools?] at h
    cases e : bools? r with
    | none => rw [e] at h; cases h
    | some ms => rw [e] at h; cases h; rw [fzb.mp f1, bools_fz e f2]; rfl
  | .none :: r, ns, vs, h, f => by simp [bools?] at h
  | .int _ :: r, ns, vs, h, f => by simp [bools?] at h
  | .str _ :: r, ns, vs, h, f => by simp [bools?] at h
  | .list _ :: r, ns, vs, h, f => by simp [bools?] at h
  | .tuple _ :: r, ns, vs, h, f => by simp [bools?] at h
  | .dict _ :: r, ns, vs, h, f => by simp [bools?] at h
theorem strs_fz {K : PySem.W.Frag} {M : Hp} : ∀ {ds : List D} {ns : List Str} {vs : List V}, strs? ds = some ns → FzL K M ds vs → vs = ns.map V.str
  | [], ns, vs, h, f => by cases h; simp only [FzL] at f; exact f
  | .str i :: r, ns, vs, h, f => by
    simp only [FzL] at f
    obtain ⟨v, vr, rfl, f1, f2⟩ := f
    rw [strs?] at h
    cases e : strs? r with
    | none => rw [e] at h; cases h
    | some ms => rw [e] at h; cases h; rw [fzs.mp f1, strs_fz e f2]; rfl
  | .none :: r, ns, vs, h, f => by simp [strs?] at h
  | .int _ :: r, ns, vs, h, f => by simp [strs?] at h
  | .bool _ :: r, ns, vs, h, f => by simp [strs?] at h
  | .list _ :: r, ns, vs, h, f => by simp [strs?] at h
  | .tuple _ :: r, ns, vs, h, f => by simp [strs?] at h
  | .dict _ :: r, ns, vs, h, f => by simp [strs?] at h
@[simp] theorem ints_map (ns : List Int) : ints? (ns.map PyData.int) = some ns := by
  induction ns with
  | nil => rfl
  | cons n ns ih => simp [ints?, ih]
@[simp] theorem bools_map (ns : List Bool) : bools? (ns.map PyData.bool) = some ns := by
  induction ns with
  | nil => rfl
  | cons n ns ih => simp [bools?, ih]
@[simp] theorem strs_map (ns : List Str) : strs? (ns.map PyData.str) = some ns := by
  induction ns with
  | nil => rfl
  | cons n ns ih => simp [strs?, ih]
def gSum : D → (Out → Prop) → Prop
  | .list ds, Q => ∃ ns, ints? ds = some ns ∧ Q (.val (.int ns.sum))
  | _, _ => False
theorem g_sum {K : PySem.W.Frag} : OpN K (rSum K) (g1 gSum) := op_g1 (fun M H d x Q ex v w => by
    unfold gSum at w
    split at w
    · obtain ⟨ns, h, w⟩ := w
      obtain ⟨a, vs, rfl, r, f⟩ := v
      have := ints_fz h f; subst this
      exact ⟨a, ns, rfl, .inl (.inl r), w _ (fzi.mpr rfl)⟩
    · exact w.elim) fun d Q Q' h w => by
    unfold gSum at w ⊢
    split at w
    · obtain ⟨ns, q, w⟩ := w; exact ⟨ns, q, h _ w⟩
    · exact w.elim
def gBools (f : List Bool → Bool) : D → (Out → Prop) → Prop
  | .list ds, Q => ∃ ns, bools? ds = some ns ∧ Q (.val (.bool (f ns)))
  | _, _ => False
theorem g_bools {K : PySem.W.Frag} (f : List Bool → Bool) : OpN K (fun vs H Q => ∃ (a : Addr) (bs : List Bool), vs = [V.ref a] ∧ SqL K H a (bs.map V.bl) ∧ Q (.bl (f bs)) H) (g1 (gBools f)) := op_g1 (fun M H d x Q ex v w => by
    unfold gBools at w
    split at w
    · obtain ⟨ns, h, w⟩ := w
      obtain ⟨a, vs, rfl, r, f⟩ := v
      have := bools_fz h f; subst this
      exact ⟨a, ns, rfl, .inl (.inl r), w _ (fzb.mpr rfl)⟩
    · exact w.elim) fun d Q Q' h w => by
    unfold gBools at w ⊢
    split at w
    · obtain ⟨ns, q, w⟩ := w; exact ⟨ns, q, h _ w⟩
    · exact w.elim
abbrev gAll := gBools (fun bs => bs.all id)
abbrev gAny := gBools (fun bs => bs.any id)
/-! tuple(x), list(x) -/
def gTup1 : D → (Out → Prop) → Prop
  | .list ds, Q => Q (.tup ds)
  | .tuple ds, Q => Q (.tup ds)
  | _, _ => False
theorem g_tup1 {K : PySem.W.Frag} : OpN K (fun xs H Q => ∃ p ys, xs = [.ref p] ∧ ((SqL K H p ys ∧ ∀ l, H l = none → Q (.ref l) (upd H l (.tup ys))) ∨ (SqT K H p ys ∧ Q (.ref p) H))) (g1 gTup1) := op_g1 (fun M H d x Q ex v w => by
    unfold gTup1 at w
    split at w
    · obtain ⟨a, vs, rfl, r, f⟩ := v
      exact ⟨a, vs, rfl, .inl ⟨.inl (.inl r), fun l hl => w.2 l vs hl f⟩⟩
    · rw [vwt] at v
      obtain ⟨a, vs, rfl, r, f⟩ := v
      exact ⟨a, vs, rfl, .inr ⟨ex.t r, w.1 _ (by simp only [Fz]; exact ⟨a, vs, rfl, r, f⟩)⟩⟩
    · exact w.elim) fun d Q Q' h w => by
    unfold gTup1 at w ⊢
    split at w
    · exact h _ w
    · exact h _ w
    · exact w.elim
def gLst1 : D → (Out → Prop) → Prop
  | .list ds, Q => Q (.new (.list ds))
  | .tuple ds, Q => Q (.new (.list ds))
  | _, _ => False
theorem g_lst1 {K : PySem.W.Frag} : OpN K (fun xs H Q => ∃ p ys, xs = [.ref p] ∧ (SqL K H p ys ∨ SqT K H p ys) ∧ ∀ l, H l = none → Q (.ref l) (upd H l (.lst ys))) (g1 gLst1) := op_g1 (fun M H d x Q ex v w => by
    unfold gLst1 at w
    split at w
    · obtain ⟨a, vs, rfl, r, f⟩ := v
      exact ⟨a, vs, rfl, .inl (.inl (.inl r)), fun l hl => w l _ hl ⟨vs, upd_same, f⟩⟩
    · rw [vwt] at v
      obtain ⟨a, vs, rfl, r, f⟩ := v
      exact ⟨a, vs, rfl, .inr (ex.t r), fun l hl => w l _ hl ⟨vs, upd_same, f⟩⟩
    · exact w.elim) fun d Q Q' h w => by
    unfold gLst1 at w ⊢
    split at w
    · exact h _ w
    · exact h _ w
    · exact w.elim
/-! ### isinstance -/
def tyN : D → String
  | .none => "NoneType"
  | .bool _ => "bool"
  | .int _ => "int"
  | .str _ => "str"
  | .list _ => "list"
  | .tuple _ => "tuple"
  | .dict _ => "dict"
/-- is the type one of these (True and False are int, too) -/
def isTy (t : String) : String → Bool := fun n => n == t || (n == "int" && t == "bool")
theorem tyx {K : PySem.W.Frag} {M H : Hp} {d : D} {x : V} (ex : Ex M H) (v : Vw K M H d x) (hd : ∀ kds, d ≠ .dict kds) : TyX K H x (.type (tyN d)) := by
  cases d with
  | none => rw [vwn.mp v]; exact .base .non
  | bool b => rw [vwb.mp v]; exact .base (.bl _)
  | int b => rw [vwi.mp v]; exact .base (.int _)
  | str b => rw [vws.mp v]; exact .base (.str _)
  | list ds => obtain ⟨a, vs, rfl, r, _⟩ := v; exact .base (.lst r)
  | tuple ds =>
    rw [vwt] at v
    obtain ⟨a, vs, rfl, r, _⟩ := v
    rcases ex.t r with (r | ⟨o, r⟩) | ⟨o, its, n, k, c, _⟩
    · exact .base (.tup r)
    · exact .fTuple r
    · exact .kTuple k c
  | dict kds => exact absurd rfl (hd kds)
def goodTy (n : String) : Prop := ∀ t ∈ ["NoneType", "bool", "int", "str", "list", "tuple"], kitB t n = some (isTy t n)
theorem goodTys : goodTy "str" ∧ goodTy "int" ∧ goodTy "bool" ∧ goodTy "list" ∧ goodTy "tuple" := by unfold goodTy; decide +kernel
theorem tyN_mem {d : D} (hd : ∀ kds, d ≠ .dict kds) : tyN d ∈ ["NoneType", "bool", "int", "str", "list", "tuple"] := by
  cases d with
  | dict kds => exact absurd rfl (hd kds)
  | _ => simp [tyN]
def noDict : D → Bool
  | .dict _ => false
  | _ => true
theorem noDict_ne {d : D} (h : noDict d = true) : ∀ kds, d ≠ .dict kds := by rintro kds rfl; cases h
def wIsi (n : String) (f : DE) : DE := fun e Q => f e fun r e1 => ∃ d, look e1 r = some d ∧ noDict d = true ∧ Q (.fz (.bool (isTy (tyN d) n))) e1
theorem fe_isi {a b : Expr} {f : DE} {n : String} {p pos : Pos} (gn : goodTy n) (hg : Gl X "isinstance") (hm : X.mg "isinstance" = none) (ha : FE X a f) (hb : PE X b (tC (.ty n)))
    (hs : starEach (a :: [b]) X.env = (false, eval a X.env) :: starEach [b] X.env := by rfl) (hs2 : starEach (b :: []) X.env = (false, eval b X.env) :: starEach [] X.env := by rfl) (hp : (backTo pos (starEach [b] X.env)).any (·.1) = false := by rfl) :
    FE X (.Call (.Name "isinstance" p) [a, b] [] pos) (wIsi n f) := by
  refine ⟨pe_imp (pe_callB call_isi hg hm (by decide +kernel) (pa_cons ha.pe (pa_cons hb pa_nil hs2) hs) (he := hs) (hpl := hp)) ?_, fun e Q Q' h w => ha.mono _ _ _ (fun r e1 ⟨d, l, k, q⟩ => ⟨d, l, k, h _ _ q⟩) w⟩
  rintro σ H Q ⟨P, B, ios, e, T, r, w⟩
  refine ⟨P, B, ios, e, T, r, ha.mono _ _ _ (fun r e1 w1 x H1 h1 => ?_) w⟩
  obtain ⟨d, l, k, q⟩ := w1
  obtain ⟨M, h1⟩ := h1
  have hd := noDict_ne k
  refine ⟨x, .ty n, .type (tyN d), .type n, isTy (tyN d) n, rfl, .ty n, tyx h1.mh (h1.view (by simp) l) hd, kit_ty (gn _ (tyN_mem hd)), ?_⟩
  exact q _ H1 ⟨M, h1.popN.push_fz (fzb.mpr rfl)⟩
/-- isinstance(x, (A, B)) -/
def wIsi2 (n m : String) (f : DE) : DE := fun e Q => f e fun r e1 => ∃ d, look e1 r = some d ∧ noDict d = true ∧ Q (.fz (.bool (isTy (tyN d) n || isTy (tyN d) m))) e1
theorem fe_isi2 {a b c : Expr} {f : DE} {n m : String} {p pos tpos : Pos} {kk} (gn : goodTy n) (gm : goodTy m) (hg : Gl X "isinstance") (hm : X.mg "isinstance" = none) (ha : FE X a f) (hb : PE X b (tC (.ty n))) (hc : PE X c (tC (.ty m)))
    (hs : starEach (a :: [.Tuple [b, c] kk tpos]) X.env = (false, eval a X.env) :: starEach [.Tuple [b, c] kk tpos] X.env := by rfl) (hs2 : starEach ((.Tuple [b, c] kk tpos) :: []) X.env = (false, eval (.Tuple [b, c] kk tpos) X.env) :: starEach [] X.env := by rfl)
    (hs3 : starEach (b :: [c]) X.env = (false, eval b X.env) :: starEach [c] X.env := by rfl) (hs4 : starEach (c :: []) X.env = (false, eval c X.env) :: starEach [] X.env := by rfl) (hp : (backTo pos (starEach [.Tuple [b, c] kk tpos] X.env)).any (·.1) = false := by rfl) :
    FE X (.Call (.Name "isinstance" p) [a, .Tuple [b, c] kk tpos] [] pos) (wIsi2 n m f) := by
  refine ⟨pe_imp (pe_callB call_isiT hg hm (by decide +kernel) (pa_cons ha.pe (pa_cons (pe_tup (pa_cons hb (pa_cons hc pa_nil hs4) hs3)) pa_nil hs2) hs) (he := hs) (hpl := hp)) ?_, fun e Q Q' h w => ha.mono _ _ _ (fun r e1 ⟨d, l, k, q⟩ => ⟨d, l, k, h _ _ q⟩) w⟩
  rintro σ H Q ⟨P, B, ios, e, T, r, w⟩
  refine ⟨P, B, ios, e, T, r, ha.mono _ _ _ (fun r e1 w1 x H1 h1 => ?_) w⟩
  obtain ⟨d, l, k, q⟩ := w1
  obtain ⟨M, h1⟩ := h1
  have hd := noDict_ne k
  refine ⟨by show 2 ≤ sizeLine; decide, fun p hp => ?_⟩
  have h2 := h1.alloc (o := .tup [V.ty n, V.ty m]) hp
  refine ⟨x, p, [.ty n, .ty m], .type (tyN d), [.type n, .type m], isTy (tyN d) n || isTy (tyN d) m, rfl, upd_same, .cons (.ty n) (.cons (.ty m) .nil), tyx h2.mh (h2.view (by simp) l) hd, ?_, ?_⟩
  · refine kitAny_cons (kit_ty (gn _ (tyN_mem hd))) (fun z => ?_) (fun z => by rw [z]; rfl)
    rw [z, Bool.false_or]
    refine kitAny_cons (kit_ty (gm _ (tyN_mem hd))) (fun z => by rw [z]; rfl) (fun z => z)
  · exact q _ _ ⟨M, h2.popN.push_fz (fzb.mpr rfl)⟩
end
end PL
set_option Elab.async false
set_option linter.all false
set_option autoImplicit false
set_option maxRecDepth 100000
set_option maxHeartbeats 4000000
/-! PLj: methods, stores, what loops walk, the script, repr. -/
namespace PL
open PySem PySem.Spec PyProof.Rows L2

section
variable {X : Cx}
/-! ### globals -/
theorem fe_glob {x : Str} {v : V} {u : Value} {d : D} {pos : Pos} (hg : Gl X x) (hm : X.mg x = some u) (r : RelV v u) (hd : ∀ M, Fz X.K M d v) (hdb : (x == ("__debug__" : Str)) = false := by decide) : FE X (.Name x pos) (wC d) := fe_c (pe_glob hg hm r hdb) hd
/-! ### list methods that change -/
theorem fzl1 {K : PySem.W.Frag} {M : Hp} {d : D} {vs : List V} (h : FzL K M [d] vs) : ∃ v, vs = [v] ∧ Fz K M d v := by
  simp only [FzL] at h
  obtain ⟨v, r, rfl, h, rfl⟩ := h
  exact ⟨v, rfl, h⟩
def isL : D → Prop
  | .list _ => True
  | _ => False
theorem ownL {K : PySem.W.Frag} {M H : Hp} {d : D} {a : Addr} (h : OwnAt K M H d a) (l : isL d) : ∃ ds vs, d = .list ds ∧ H a = some (.lst vs) ∧ FzL K M ds vs := by
  cases d with
  | list ds => obtain ⟨vs, q, f⟩ := h; exact ⟨ds, vs, rfl, q, f⟩
  | _ => exact l.elim
theorem tyL {K : PySem.W.Frag} {M H : Hp} {d : D} {a : Addr} (h : OwnAt K M H d a) (l : isL d) : tyV K "list" (.ref a) H := by
  obtain ⟨ds, vs, _, q, _⟩ := ownL h l
  exact .inl ⟨rfl, vs, .inl (.inl q)⟩
def gAppend : D → List D → (D → Out → Prop) → Prop
  | .list ds, [d], Q => ds.length < 100000 ∧ Q (.list (ds ++ [d])) (.val .none)
  | _, _, _ => False
theorem g_append {K : PySem.W.Frag} : OpMut K "list" rAppend isL gAppend where
  ty := fun M H d a o l => tyL o l
  run := fun M H d a ds vs Q ex hm o f w => by
    unfold gAppend at w
    split at w
    · obtain ⟨us, q, fl⟩ := o
      obtain ⟨v, rfl, fv⟩ := fzl1 f
      exact ⟨a, us, v, rfl, rfl, q, by rw [← fl.length]; exact ltline_of w.1, w.2 _ ⟨_, upd_same, fl.append (.cons fv .nil)⟩ _ (fzn.mpr rfl)⟩
    · exact w.elim
  mono := fun d ds Q Q' h w => by
    unfold gAppend at w ⊢
    split at w
    · exact ⟨w.1, h _ _ w.2⟩
    · exact w.elim
/-! ### xs[i] = v -/
def gSetL : D → D → D → (D → Prop) → Prop
  | .list ds, .int i, d, Q => ∃ j, ixN ds.length i = some j ∧ Q (.list (ds.set j d))
  | _, _, _, _ => False
theorem fzl_set {K : PySem.W.Frag} {M : Hp} {d : D} {v : V} : ∀ {ds : List D} {vs : List V} {j : Nat}, FzL K M ds vs → Fz K M d v → FzL K M (ds.set j d) (vs.set j v)
  | [], vs, j, h, _ => by simp only [FzL] at h; subst h; exact .nil
  | e :: ds, vs, j, h, f => by
    simp only [FzL] at h
    obtain ⟨w, r, rfl, h1, h2⟩ := h
    cases j with
    | zero => exact .cons f h2
    | succ j => exact .cons h1 (fzl_set h2 f)
theorem g_setL {K : PySem.W.Frag} : OpSet K rSetL gSetL where
  run := fun M H d a dk dv k v Q ex hm o fk fv w => by
    unfold gSetL at w
    split at w
    · obtain ⟨j, hj, w⟩ := w
      obtain ⟨us, q, fl⟩ := o
      exact ⟨a, us, _, j, rfl, fzi.mp fk, q, by rw [← fl.length]; exact hj, w _ ⟨_, upd_same, fzl_set fl fv⟩⟩
    · exact w.elim
  mono := fun d dk dv Q Q' h w => by
    unfold gSetL at w ⊢
    split at w
    · obtain ⟨j, hj, w⟩ := w; exact ⟨j, hj, h _ w⟩
    · exact w.elim
/-! ### text methods -/
def isS : D → Prop
  | .str _ => True
  | _ => False
theorem tyS {K : PySem.W.Frag} {M H : Hp} {d : D} {x : V} (h : Vw K M H d x) (l : isS d) : tyV K "str" x H := by
  cases d with
  | str z => rw [vws] at h; subst h; rfl
  | _ => exact l.elim
def gCount : D → List D → (Out → Prop) → Prop
  | .str a, [.str b], Q => Q (.val (.int (Txt.count a b)))
  | _, _, _ => False
theorem g_count {K : PySem.W.Frag} : OpM K "str" (fun x xs H Q => ∃ a b, x = .str a ∧ xs = [.str b] ∧ Q (.int (Txt.count a b)) H) isS gCount where
  ty := fun M H d x ex v l => tyS v l
  run := fun M H d ds x vs Q ex v f w => by
    unfold gCount at w
    split at w
    · rw [vws] at v
      obtain ⟨y, rfl, fy⟩ := vwl1 f
      rw [vws] at fy
      exact ⟨_, _, v, by rw [fy], w _ (fzi.mpr rfl)⟩
    · exact w.elim
  mono := fun d ds Q Q' h w => by
    unfold gCount at w ⊢
    split at w
    · exact h _ w
    · exact w.elim
def gUpper : D → List D → (Out → Prop) → Prop
  | .str a, [], Q => a.length ≤ 100000 ∧ Q (.val (.str (Txt.upper a)))
  | _, _, _ => False
theorem g_upper {K : PySem.W.Frag} : OpM K "str" (fun x xs H Q => ∃ a, x = .str a ∧ xs = [] ∧ a.length ≤ 5592405 ∧ Q (.str (Txt.upper a)) H) isS gUpper where
  ty := fun M H d x ex v l => tyS v l
  run := fun M H d ds x vs Q ex v f w => by
    unfold gUpper at w
    split at w
    · rw [vws] at v
      simp only [VwL] at f
      exact ⟨_, v, f, by omega, w.2 _ (fzs.mpr rfl)⟩
    · exact w.elim
  mono := fun d ds Q Q' h w => by
    unfold gUpper at w ⊢
    split at w
    · exact ⟨w.1, h _ w.2⟩
    · exact w.elim
def seqOf : D → Option (List D)
  | .list ds => some ds
  | .tuple ds => some ds
  | _ => none
def gJoin : D → List D → (Out → Prop) → Prop
  | .str a, [d], Q => ∃ ds ys, seqOf d = some ds ∧ strs? ds = some ys ∧ (ys.map (·.length)).sum + ys.length * a.length ≤ 100000 ∧ Q (.val (.str (Txt.join a ys)))
  | _, _, _ => False
theorem g_join {K : PySem.W.Frag} : OpM K "str" (fun x xs H Q => ∃ a p, ∃ ys : List Str, x = .str a ∧ xs = [.ref p] ∧ (SqL K H p (ys.map V.str) ∨ SqT K H p (ys.map V.str)) ∧ (ys.map (·.length)).sum + ys.length * a.length ≤ 16777216 ∧ Q (.str (Txt.join a ys)) H) isS gJoin where
  ty := fun M H d x ex v l => tyS v l
  run := fun M H d ds x vs Q ex v f w => by
    unfold gJoin at w
    split at w
    · rw [vws] at v
      obtain ⟨y, rfl, fy⟩ := vwl1 f
      obtain ⟨ds, ys, h1, h2, h3, w⟩ := w
      rename_i d0
      cases d0 with
      | list es =>
        cases h1
        obtain ⟨p, us, rfl, q, fl⟩ := fy
        have := strs_fz h2 fl; subst this
        exact ⟨_, p, ys, v, rfl, .inl (.inl (.inl q)), by omega, w _ (fzs.mpr rfl)⟩
      | tuple es =>
        cases h1
        rw [vwt] at fy
        obtain ⟨p, us, rfl, q, fl⟩ := fy
        have := strs_fz h2 fl; subst this
        exact ⟨_, p, ys, v, rfl, .inr (ex.t q), by omega, w _ (fzs.mpr rfl)⟩
      | _ => cases h1
    · exact w.elim
  mono := fun d ds Q Q' h w => by
    unfold gJoin at w ⊢
    split at w
    · obtain ⟨ds, ys, h1, h2, h3, w⟩ := w; exact ⟨ds, ys, h1, h2, h3, h _ w⟩
    · exact w.elim
/-! ### what loops walk -/
/-- a list, a tuple, a text: as it stands; what a slot owns is shared from here on -/
def itD : D → Option (List D)
  | .list ds => some ds
  | .tuple ds => some ds
  | .str z => some (z.cps.toList.map fun c => .str ⟨#[c]⟩)
  | _ => none
def iAny (K : PySem.W.Frag) (te : TE) : TI := fun σ H R => te σ H fun x H1 => (∃ a, x = .ref a ∧ (∃ xs, SqL K H1 a xs) ∧ R (Itl K a) H1) ∨ (∃ a, x = .ref a ∧ (∃ xs, SqT K H1 a xs) ∧ R (Itt K a) H1) ∨ ∃ z, x = .str z ∧ R (Its z) H1
theorem pi_any {tg l : Expr} {tl : TE} (hl : PE X l tl) : PI X tg l (iAny X.K tl) := by
  refine ⟨fun pins s σ H R I h => ?_⟩
  refine thn (hl.run pins s σ H _ I h) fun v s1 ⟨x, H1, I1, r1, q1⟩ => ?_
  rcases q1 with ⟨a, e, ⟨xs, hq⟩, q⟩ | ⟨a, e, ⟨xs, hq⟩, q⟩ | ⟨z, e, q⟩
  · subst e
    cases r1
    obtain ⟨its, rv, p, hz⟩ := I1.list hq
    exact wpAny_pyIter_list p.isList (pi_one (tk := s1.toks) I1 _ (turn_list a _) ⟨_, Heap.get?_push_size _ rfl, rfl, rfl⟩ q)
  · subst e
    cases r1
    obtain ⟨its, rv, p, hz⟩ := I1.tuple hq
    exact wpAny_pyIter_tuple (show s1.heap.IsTuple a its.toArray from p) (pi_one (tk := s1.toks) I1 _ (turn_tuple a _) ⟨_, Heap.get?_push_size _ rfl, rfl, rfl⟩ q)
  · subst e
    obtain ⟨t, rfl⟩ := r1
    cases ha : z.cps.all (· < 128)
    · exact wpAny_pyIter_wide ha (pi_one (tk := s1.toks) I1 _ (turn_str _ z t "str_iterator" (.inr rfl)) ⟨_, Heap.get?_push_size _ rfl, rfl, rfl⟩ q)
    · exact wpAny_pyIter_ascii ha (pi_one (tk := s1.toks) I1 _ (turn_str _ z t "str_ascii_iterator" (.inl rfl)) ⟨_, Heap.get?_push_size _ rfl, rfl, rfl⟩ q)
def wIt (f : DE) : DI := fun e Q => f e fun r e1 => ∃ d e2 ds, frz e1 r = some (d, e2) ∧ itD d = some ds ∧ Q ds e2
theorem fi_any {tg a : Expr} {fa : DE} (ha : FE X a fa) : FI X tg a (wIt fa) := by
  refine ⟨pi_imp (pi_any ha.pe) ?_, fun e Q Q' h w => ha.mono _ _ _ (fun r e1 ⟨d, e2, ds, h1, h2, w1⟩ => ⟨d, e2, ds, h1, h2, h _ _ w1⟩) w⟩
  rintro σ H R ⟨P, B, ios, e, T, r, w⟩
  refine ⟨P, B, ios, e, T, r, ha.mono _ _ _ (fun rr e1 w1 x H1 h1 => ?_) w⟩
  obtain ⟨d, e2, ds, hf, hi, w1⟩ := w1
  obtain ⟨M, h1⟩ := h1
  obtain ⟨M2, x2, h2, f⟩ := h1.freezeAt (T2 := []) hf
  have hfz : AllFz [(Res.fz d, x)] := fun t ht => by
    rw [List.mem_singleton] at ht
    rw [ht]; exact ⟨d, rfl⟩
  have hr : Rep X.K P B ios e2 σ (T ++ [(.fz d, x)]) H1 := ⟨M2, by simpa using h2⟩
  cases d with
  | list es =>
    obtain rfl : es = ds := by injection hi
    simp only [Fz] at f
    obtain ⟨a, vs, rfl, q, fl⟩ := f
    refine .inl ⟨a, rfl, ⟨vs, .inl (.inl (h2.mh _ _ q))⟩, w1 _ _ _ hfz hr fun T1 hT => ⟨fun i ios' σ' e' T2 H' d' ⟨M3, r3⟩ hi => ?_, fun i ios' σ' e' T2 H' ⟨M3, r3⟩ hi => ?_⟩⟩
    · have f3 := r3.tfz (d := .list es) (v := .ref a) (List.mem_append_left _ (hT _ (by simp)))
      simp only [Fz] at f3
      obtain ⟨b, us, hb, q3, fl3⟩ := f3
      cases hb
      obtain ⟨v, hv, fv⟩ := fl3.get hi
      have sq : SqL X.K H' a us := .inl (.inl (r3.mh _ _ q3))
      refine ⟨⟨us, v, sq, hv⟩, fun y H2 hy => ?_⟩
      obtain ⟨rfl, hy⟩ := hy
      have := hy us sq
      rw [hv] at this; cases this
      exact ⟨M3, r3.push_fz fv⟩
    · have f3 := r3.tfz (d := .list es) (v := .ref a) (List.mem_append_left _ (hT _ (by simp)))
      simp only [Fz] at f3
      obtain ⟨b, us, hb, q3, fl3⟩ := f3
      cases hb
      exact ⟨us, .inl (.inl (r3.mh _ _ q3)), by rw [← fl3.length]; exact hi⟩
  | tuple es =>
    obtain rfl : es = ds := by injection hi
    simp only [Fz] at f
    obtain ⟨a, vs, rfl, q, fl⟩ := f
    refine .inr (.inl ⟨a, rfl, ⟨vs, h2.mh.t q⟩, w1 _ _ _ hfz hr fun T1 hT => ⟨fun i ios' σ' e' T2 H' d' ⟨M3, r3⟩ hi => ?_, fun i ios' σ' e' T2 H' ⟨M3, r3⟩ hi => ?_⟩⟩)
    · have f3 := r3.tfz (d := .tuple es) (v := .ref a) (List.mem_append_left _ (hT _ (by simp)))
      simp only [Fz] at f3
      obtain ⟨b, us, hb, q3, fl3⟩ := f3
      cases hb
      obtain ⟨v, hv, fv⟩ := fl3.get hi
      have sq : SqT X.K H' a us := r3.mh.t q3
      refine ⟨⟨us, v, sq, hv⟩, fun y H2 hy => ?_⟩
      obtain ⟨rfl, hy⟩ := hy
      have := hy us sq
      rw [hv] at this; cases this
      exact ⟨M3, r3.push_fz fv⟩
    · have f3 := r3.tfz (d := .tuple es) (v := .ref a) (List.mem_append_left _ (hT _ (by simp)))
      simp only [Fz] at f3
      obtain ⟨b, us, hb, q3, fl3⟩ := f3
      cases hb
      exact ⟨us, r3.mh.t q3, by rw [← fl3.length]; exact hi⟩
  | str z =>
    cases hi
    rw [fzs] at f
    refine .inr (.inr ⟨z, f, w1 _ _ _ hfz hr fun T1 hT => ⟨fun i ios' σ' e' T2 H' d' ⟨M3, r3⟩ hi => ?_, fun i ios' σ' e' T2 H' _ hi => ?_⟩⟩)
    · rw [List.getElem?_map, Option.map_eq_some_iff] at hi
      obtain ⟨c, hc, rfl⟩ := hi
      have hlt := (List.getElem?_eq_some_iff.mp hc).1
      refine ⟨show i < z.cps.size by simpa using hlt, fun y H2 hy => ?_⟩
      obtain ⟨rfl, c', hc', rfl⟩ := hy
      have : z.cps[i]? = some c := by simpa using hc
      rw [this] at hc'; cases hc'
      exact ⟨M3, r3.push_fz (fzs.mpr rfl)⟩
    · show z.cps.size ≤ i
      simpa using hi
  | none => cases hi
  | bool b => cases hi
  | int b => cases hi
  | dict b => cases hi
/-! ranges -/
def rngD (lo : Int) (n : Nat) : List D := (List.range n).map fun i => .int (lo + (i : Nat))
theorem walk_rng {K : PySem.W.Frag} {P B : Hp} {ios : List (Nat × V)} {T1 : Tmp} {lo : Int} {n : Nat} : WalkOk K P B ios T1 (rngD lo n) (Itr lo n) := by
  refine ⟨fun i ios' σ' e' T2 H' d' ⟨M3, r3⟩ hi => ?_, fun i ios' σ' e' T2 H' _ hi => ?_⟩
  · unfold rngD at hi
    rw [List.getElem?_map, Option.map_eq_some_iff] at hi
    obtain ⟨c, hc, rfl⟩ := hi
    obtain ⟨hlt, hc⟩ := List.getElem?_eq_some_iff.mp hc
    have hlt' : i < n := by simpa using hlt
    have : c = i := by simpa using hc.symm
    subst this
    refine ⟨hlt', fun y H2 hy => ?_⟩
    obtain ⟨rfl, rfl⟩ := hy
    exact ⟨M3, r3.push_fz (fzi.mpr rfl)⟩
  · show n ≤ i
    simpa [rngD] using hi
def wRng1 (fs : DA) : DI := fun e Q => fs e fun rs e1 => ∃ j : Int, lookAll e1 rs = some [.int j] ∧ (-(2 ^ 62) ≤ j ∧ j < 2 ^ 62) ∧ Q (rngD 0 j.toNat) e1
def wRng2 (fs : DA) : DI := fun e Q => fs e fun rs e1 => ∃ i j : Int, lookAll e1 rs = some [.int i, .int j] ∧ (-(2 ^ 62) ≤ i ∧ i < 2 ^ 62 ∧ -(2 ^ 62) ≤ j ∧ j < 2 ^ 62) ∧ Q (rngD i (j - i).toNat) e1
theorem fi_range1 {tg a : Expr} {fs : DA} {p pos : Pos} (hg : Gl X "range") (hm : X.mg "range" = none) (ha : FA X [a] fs) (hs : starEach [a] X.env = [(false, eval a X.env)] := by rfl) : FI X tg (.Call (.Name "range" p) [a] [] pos) (wRng1 fs) := by
  refine ⟨pi_imp (pi_range1 hg hm ha.pa hs) ?_, fun e Q Q' h w => ha.mono _ _ _ (fun r e1 ⟨j, h1, h2, w1⟩ => ⟨j, h1, h2, h _ _ w1⟩) w⟩
  rintro σ H R ⟨P, B, ios, e, T, r, w⟩
  refine ⟨P, B, ios, e, T, r, ha.mono _ _ _ (fun rs e1 w1 vs H1 hl h1 => ?_) w⟩
  obtain ⟨j, l, b, w1⟩ := w1
  obtain ⟨M, h1⟩ := h1
  obtain ⟨v, rfl, v1⟩ := vwl1 (h1.views hl l)
  rw [vwi] at v1
  exact ⟨j, by rw [v1], b.1, b.2, w1 _ _ [] (fun t ht => by simp at ht) (by rw [List.append_nil]; exact ⟨M, h1.popN⟩) fun T1 _ => walk_rng⟩
theorem fi_range2 {tg a b : Expr} {fs : DA} {p pos : Pos} (hg : Gl X "range") (hm : X.mg "range" = none) (ha : FA X [a, b] fs) (hs : starEach [a, b] X.env = [(false, eval a X.env), (false, eval b X.env)] := by rfl) (hs2 : starEach [b] X.env = [(false, eval b X.env)] := by rfl) :
    FI X tg (.Call (.Name "range" p) [a, b] [] pos) (wRng2 fs) := by
  refine ⟨pi_imp (pi_range2 hg hm ha.pa hs hs2) ?_, fun e Q Q' h w => ha.mono _ _ _ (fun r e1 ⟨i, j, h1, h2, w1⟩ => ⟨i, j, h1, h2, h _ _ w1⟩) w⟩
  rintro σ H R ⟨P, B, ios, e, T, r, w⟩
  refine ⟨P, B, ios, e, T, r, ha.mono _ _ _ (fun rs e1 w1 vs H1 hl h1 => ?_) w⟩
  obtain ⟨i, j, l, b, w1⟩ := w1
  obtain ⟨M, h1⟩ := h1
  obtain ⟨v, v', rfl, v1, v2⟩ := vwl2 (h1.views hl l)
  rw [vwi] at v1 v2
  exact ⟨i, j, by rw [v1, v2], b, w1 _ _ [] (fun t ht => by simp at ht) (by rw [List.append_nil]; exact ⟨M, h1.popN⟩) fun T1 _ => walk_rng⟩
/-! ### the script: its length, its numbers -/
def scAt (e : DEnv) (i : Nat) : Option (List D) := match e[i]? with
  | some (some (.sc, .list ds)) => some ds
  | _ => none
def wLenSc (i : Nat) : DE := fun e Q => ∃ ds, scAt e i = some ds ∧ Q (.fz (.int (ds.length : Int))) e
theorem sc_of {e : DEnv} {i : Nat} {ds : List D} (h : scAt e i = some ds) : e[i]? = some (some (.sc, .list ds)) := by
  unfold scAt at h
  split at h
  · rename_i q; cases h; exact q
  · cases h
theorem fe_lenSc {i : Nat} {a : Expr} {p pos : Pos} (ha : PE X a (tVar i)) (hgl : Gl X "len") (hm : X.mg "len" = none)
    (hs : starEach [a] X.env = (false, eval a X.env) :: starEach [] X.env := by rfl) (hp : (backTo pos (starEach [] X.env)).any (·.1) = false := by rfl) : FE X (.Call (.Name "len" p) [a] [] pos) (wLenSc i) := by
  refine ⟨pe_imp (pe_callB call_len hgl hm PySem.boot_len (pa_cons ha pa_nil hs) (he := hs) (hpl := hp)) ?_, fun e Q Q' h w => ?_⟩
  · rintro σ H Q ⟨P, B, ios, e, T, ⟨M, r⟩, ds, hd, w⟩
    obtain ⟨p, ns, s, q, rfl⟩ : ∃ (p : Addr) (ns : List Int), σ[i]? = some (some (V.ref p)) ∧ SqL X.K M p (ns.map V.int) ∧ ds = ns.map PyData.int := by
      obtain ⟨p, ns, s, q, e⟩ := r.scS (sc_of hd)
      exact ⟨p, ns, s, q, by injection e⟩
    refine ⟨_, s, _, (ns.map V.int).length, rfl, .inl ⟨_, r.mh.l q, rfl⟩, ?_⟩
    have := w (.int ((ns.map V.int).length : Int)) H ⟨M, r.push_fz (fzi.mpr (by simp))⟩
    exact this
  · obtain ⟨ds, hd, w⟩ := w
    exact ⟨ds, hd, h _ _ w⟩
def wIxSc (i : Nat) (f : DE) : DE := fun e Q => (∃ ds, scAt e i = some ds) ∧ f e fun r e1 => ∃ ds k n, scAt e1 i = some ds ∧ look e1 r = some (.int k) ∧ atI ds k = some (.int n) ∧ Q (.fz (.int n)) e1
theorem fe_ixSc {i : Nat} {a b : Expr} {fb : DE} {pos : Pos} (ha : PE X a (tVar i)) (hb : FE X b fb) (hs : PlainIx b) : FE X (.Subscript a b pos) (wIxSc i fb) := by
  refine ⟨pe_imp (pe_ix ix_seq ha hb.pe hs) ?_, fun e Q Q' h w => ⟨w.1, hb.mono _ _ _ (fun r e1 ⟨ds, k, n, h1, h2, h3, w1⟩ => ⟨ds, k, n, h1, h2, h3, h _ _ w1⟩) w.2⟩⟩
  rintro σ H Q ⟨P, B, ios, e, T, ⟨M, r⟩, ⟨ds, hd⟩, w⟩
  obtain ⟨p, ns, s, _⟩ := r.scS (sc_of hd)
  refine ⟨_, s, P, B, ios, e, T ++ [(.loc i, .ref p)], ⟨M, r.push_loc s⟩, hb.mono _ _ _ (fun rr e1 w1 y H1 h1 => ?_) w⟩
  obtain ⟨ds, k, n, hd, hk, hn, w1⟩ := w1
  obtain ⟨M1, h1⟩ := h1
  have hy : y = .int k := by
    have := h1.view (x := rr) (v := y) (by simp) hk
    rwa [vwi] at this
  obtain ⟨p', ns, s', q, e'⟩ := h1.scS (sc_of hd)
  have e' : ds = ns.map PyData.int := by injection e'
  have hs' := h1.loc i (.ref p) (by simp)
  rw [hs'] at s'; cases s'
  subst e'
  have hv : atI (ns.map V.int) k = some (.int n) := by
    unfold atI at hn ⊢
    rw [List.length_map] at hn ⊢
    cases z : ixN ns.length k with
    | none => rw [z] at hn; cases hn
    | some j =>
      rw [z] at hn
      have hn : (ns.map PyData.int)[j]? = some (.int n) := hn
      show (ns.map V.int)[j]? = some (.int n)
      rw [List.getElem?_map] at hn ⊢
      cases z2 : ns[j]? with
      | none => rw [z2] at hn; cases hn
      | some m => rw [z2] at hn; cases hn; rfl
  refine .inl ⟨p, ns.map V.int, k, .int n, rfl, hy, h1.mh.l q, hv, w1 _ _ ⟨M1, ?_⟩⟩
  exact RepM.push_fz (RepM.popN (T2 := [(.loc i, .ref p), (rr, y)]) (by simpa using h1)) (fzi.mpr rfl)
/-! ### repr -/
def gRepr (d : D) (Q : Out → Prop) : Prop := (d.canLay0 = true ∧ d.showable = true ∧ d.depth ≤ 64 ∧ d.shown.length ≤ sizeLine) ∧ Q (.val (.str d.shown))
abbrev rRepr (K : PySem.W.Frag) : List V → Hp → VK → Prop := fun xs H Q => ∃ x d, xs = [x] ∧ Dp K H x d ∧ d.canLay0 = true ∧ d.showable = true ∧ d.depth ≤ 64 ∧ d.shown.length ≤ sizeLine ∧ Q (.str d.shown) H
theorem call_repr (hG : X.A.guards = some []) (hu : X.A.units + 65 < cLine) : CallR X (.builtin "repr") (rRepr X.K) := by
  intro pins s σ H xs us Q I r h
  obtain ⟨x, d, rfl, hd, hc, hs, hdp, hz, q⟩ := h
  obtain ⟨u, rfl, ru⟩ := r.one
  obtain ⟨as, rd⟩ := Dp.reads I d x u hd ru
  cases hd with
  | non => cases ru; exact PySem.P.repr_of_none ⟨.str _, H, I.tok _, ⟨_, rfl⟩, q⟩
  | bl b => cases ru; exact PySem.P.repr_of_bool ⟨.str _, H, I.tok _, ⟨_, rfl⟩, q⟩
  | int i =>
    obtain ⟨t, rfl⟩ := ru
    exact PySem.P.repr_of_int (by simpa [PyData.showable] using hs) ⟨.str _, H, I.tok _, ⟨_, rfl⟩, q⟩
  | str z =>
    obtain ⟨t, rfl⟩ := ru
    exact PySem.P.repr_of_str ⟨.str _, H, I.tok _, ⟨_, rfl⟩, q⟩ hz
  | lst hq ha =>
    cases ru
    exact repr_of_reads' rd hs (PyData.noDict_hsm (PyData.hasDict_of_canLay _ hc)) hG (by omega) (fun _ _ e => e) (fun h' u tk hk => ⟨.str _, H, I.kept hk, ⟨_, rfl⟩, q⟩) hz
  | tup hq ha =>
    cases ru
    exact repr_of_reads' rd hs (PyData.noDict_hsm (PyData.hasDict_of_canLay _ hc)) hG (by omega) (fun _ _ e => e) (fun h' u tk hk => ⟨.str _, H, I.kept hk, ⟨_, rfl⟩, q⟩) hz
theorem g_repr {K : PySem.W.Frag} : OpN K (rRepr K) (g1 gRepr) := op_g1 (fun M H d x Q ex v w => ⟨x, d, rfl, vw_dp ex w.1.1 v, w.1.1, w.1.2.1, w.1.2.2.1, w.1.2.2.2, w.2 _ (fzs.mpr rfl)⟩) fun d Q Q' h w => ⟨w.1, h _ w.2⟩
end
end PL
set_option Elab.async false
set_option linter.all false
set_option autoImplicit false
set_option maxRecDepth 100000
set_option maxHeartbeats 4000000
/-! PLk: a, b = c, d of plain locals; what a def's promise needs. -/
namespace PL
open PySem PySem.Spec PyProof.Rows L2

theorem ends_le {ks : List Kd} {Q Q' : Res → List D → Prop} (h : ∀ r o, Q r o → Q' r o) : DLe (endsF ks Q) (endsF ks Q') := ⟨fun _ w => h _ _ w, fun _ _ w => ⟨w.1, h _ _ w.2⟩, fun _ w => w, fun _ w => w⟩
/-- the promise that a body's reading makes -/
def gOfB (ks : List Kd) (n : Nat) (b : DS) : DSp := fun ds Q => b (endsF ks Q) (argE ks ds ++ List.replicate n none)
/-- a result that is no slot's: a slot's own thing is shared from here on -/
def fixR (e : DEnv) : Res → Option (Res × DEnv)
  | .loc i => (frz e (.loc i)).map fun p => (.fz p.1, p.2)
  | .fz d => some (.fz d, e)
  | .ow d => some (.ow d, e)
  | .junk => none
theorem fixR_run {K : PySem.W.Frag} {P B M : Hp} {ios : List (Nat × V)} {e e' : DEnv} {σ : L2.St} {H : Hp} {T1 T2 : Tmp} {r s : Res} {v : V} (h : RepM K P B M ios e σ (T1 ++ (r, v) :: T2) H) (hf : fixR e r = some (s, e')) :
    (∃ M', RepM K P B M' ios e' σ (T1 ++ (s, v) :: T2) H) ∧ ∀ i, s ≠ .loc i := by
  cases r with
  | fz d => cases hf; exact ⟨⟨M, h⟩, fun i z => by cases z⟩
  | ow d => cases hf; exact ⟨⟨M, h⟩, fun i z => by cases z⟩
  | junk => cases hf
  | loc i =>
    unfold fixR at hf
    dsimp only at hf
    cases z : frz e (.loc i) with
    | none => rw [z] at hf; cases hf
    | some p =>
      rw [z] at hf
      cases hf
      obtain ⟨M', x, h', f⟩ := h.freezeAt (e' := p.2) (d := p.1) (by rw [z])
      exact ⟨⟨M', h'⟩, fun i z => by cases z⟩
theorem hu64 {k : Nat} {A : Around} (r : Room k A) : A.units + 64 < cLine := by have := r.un; omega
theorem hu65 {k : Nat} {A : Around} (r : Room k A) : A.units + 65 < cLine := by have := r.un; omega
def wPar (i j : Nat) (f : DA) : DS := fun D e => f e fun rs e1 => ∃ r1 r2 s1 e2 s2 e3, rs = [r1, r2] ∧ fixR e1 r1 = some (s1, e2) ∧ fixR e2 r2 = some (s2, e3) ∧ asgn j s2 e3 fun e4 => asgn i s1 e4 D.nx
theorem FSs.nox {X : Cx} {bd : List Stmt} {b : DS} (h : FSs X.nox bd b) : FSs X bd b := ⟨PSs.nox h.ps, h.mono⟩
section
variable {X : Cx}
theorem set_comm {α : Type} {l : List α} {i j : Nat} {x y : α} (h : i ≠ j) : (l.set j y).set i x = (l.set i x).set j y := List.set_comm _ _ (Ne.symm h)
theorem fs_par {i j : Nat} {x y : Str} {a b : Expr} {fa : DA} {px py pt : Pos} {kt k2 pt2} {pos : Pos} (hc : X.calm = true) (hN : X.N.Nodup) (hi : X.N[i]? = some x) (hj : X.N[j]? = some y) (hij : i ≠ j)
    (hx : X.env.scope.names.lookup x = some .local) (hy : X.env.scope.names.lookup y = some .local) (ha : FA X [a, b] fa)
    (hw : swappedStores [.Tuple [.Name x px, .Name y py] kt pt] (.Tuple [a, b] k2 pt2) X.env = pure (some [x, y]))
    (hs : swapsWithSole [.Tuple [.Name x px, .Name y py] kt pt] (.Tuple [a, b] k2 pt2) pos.line X.env = pure false := by rfl) :
    FS X (.Assign [.Tuple [.Name x px, .Name y py] kt pt] (.Tuple [a, b] k2 pt2) pos) (wPar i j fa) := by
  refine ⟨ps_imp (ps_par hc hN hi hj hij hx hy ha.pa hw hs) ?_, fun D D' e h w => ha.mono _ _ _ (fun rs e1 ⟨r1, r2, s1, e2, s2, e3, h1, h2, h3, w1⟩ => ⟨r1, r2, s1, e2, s2, e3, h1, h2, h3, asgn_mono _ _ _ _ _ (fun e4 w2 => asgn_mono _ _ _ _ _ h.nx w2) w1⟩) w⟩
  rintro D σ H ⟨P, B, ios, e, T, nl, r, w⟩
  refine ⟨P, B, ios, e, T, r, ha.mono _ _ _ (fun rs e1 w1 vs H1 hl h1 => ?_) w⟩
  obtain ⟨r1, r2, s1, e2, s2, e3, rfl, f1, f2, w1⟩ := w1
  match vs, hl, h1 with
  | [v1, v2], _, ⟨M, h1⟩ =>
    have h1' : RepM X.K P B M ios e1 σ (T ++ (r1, v1) :: [(r2, v2)]) H1 := h1
    obtain ⟨⟨M1, h2⟩, n1⟩ := fixR_run h1' f1
    have h2' : RepM X.K P B M1 ios e2 σ ((T ++ [(s1, v1)]) ++ (r2, v2) :: []) H1 := by simpa using h2
    obtain ⟨⟨M2, h3⟩, n2⟩ := fixR_run h2' f2
    have nl1 : NoLoc (T ++ [(s1, v1)]) := nl.app fun t ht i => by
      rw [List.mem_singleton] at ht
      rw [ht]; exact n1 i
    refine ⟨v1, v2, rfl, ?_⟩
    have g1 : gName j v2 σ H1 fun σ' H' => gName i v1 σ' H' fun σ'' H'' => D.nx σ'' H'' := asgn_run (K := X.K) ⟨P, B, ios, e3, T ++ [(s1, v1)], s2, nl1, ⟨M2, h3⟩, asgn_mono _ _ _ _ _ (fun e4 w4 σ' H' _ r4 => ?_) w1⟩
    · have : D.nx ((σ.set j (some v2)).set i (some v1)) H1 := g1
      rwa [set_comm hij] at this
    · exact asgn_run (K := X.K) ⟨P, B, ios, e4, T, s1, nl, r4, asgn_mono _ _ _ _ _ (fun e5 w5 σ'' H'' _ r5 => w5 σ'' H'' r5) w4⟩
end
end PL
set_option Elab.async false
set_option linter.all false
set_option autoImplicit false
set_option maxRecDepth 100000
set_option maxHeartbeats 4000000
/-! PLm: loops over pure data by an invariant; draws. -/
namespace PL
open PySem PySem.Spec PyProof.Rows L2
/-- a for loop by an invariant; K stands for what follows a turn -/
theorem forL_inv {g : DG} {b : DS} {D : DEnds} (I : Nat → DEnv → Prop) : ∀ (items : List PyData) (e : DEnv), I 0 e →
    (∀ i d e (K : DEnv → Prop), items[i]? = some d → I i e → (∀ e2, I (i + 1) e2 → K e2) → g (.fz d) e fun e1 => b { D with nx := K, ct := K, bk := D.nx } e1) →
    (∀ e, I items.length e → D.nx e) → forL g b D items e := by
  intro items
  induction items generalizing I with
  | nil => intro e h0 _ h; exact h e h0
  | cons d ds ih =>
    intro e h0 st h
    show g (.fz d) e _
    refine st 0 d e _ rfl h0 fun e2 h2 => ?_
    exact ih (fun i e => I (i + 1) e) e2 h2 (fun i d e K hd hi hk => st (i + 1) d e K (by simpa using hd) hi hk) fun e he => h e (by simpa using he)
/-- a comprehension by an invariant -/
theorem lcL_inv {g : DG} {t : DT} {f : DE} {vs : List Nat} {Q : List D → DEnv → Prop} (I : Nat → List D → DEnv → Prop) : ∀ (items acc : List D) (e : DEnv), I 0 acc e →
    (∀ i d acc e (K : List D → DEnv → Prop), items[i]? = some d → I i acc e → (∀ acc' e', I (i + 1) acc' e' → K acc' e') →
      g (.fz d) e fun e1 => t e1 fun k e2 => if k = true then f e2 fun r e3 => ∃ y e4, frz e3 r = some (y, e4) ∧ K (acc ++ [y]) (wipeE e4 vs) else K acc (wipeE e2 vs)) →
    (∀ acc e, I items.length acc e → Q acc e) → lcL g t f vs Q items acc e := by
  intro items
  induction items generalizing I with
  | nil => intro acc e h0 _ h; exact h acc e h0
  | cons d ds ih =>
    intro acc e h0 st h
    show g (.fz d) e _
    refine st 0 d acc e (fun acc e => lcL g t f vs Q ds acc e) rfl h0 fun acc2 e2 h2 => ?_
    exact ih (fun i acc e => I (i + 1) acc e) acc2 e2 h2 (fun i d acc e K hd hi hk => st (i + 1) d acc e K (by simpa using hd) hi hk) fun acc e he => h acc e (by simpa using he)
theorem rngD_len (lo : Int) (n : Nat) : (rngD lo n).length = n := by simp [rngD]
theorem rngD_get {lo : Int} {n i : Nat} {d : D} (h : (rngD lo n)[i]? = some d) : i < n ∧ d = .int (lo + (i : Nat)) := by
  unfold rngD at h
  rw [List.getElem?_map, Option.map_eq_some_iff] at h
  obtain ⟨c, hc, rfl⟩ := h
  obtain ⟨h1, h2⟩ := List.getElem?_eq_some_iff.mp hc
  have : i < n := by simpa using h1
  refine ⟨this, ?_⟩
  have : c = i := by simpa using h2.symm
  rw [this]
theorem atI_lt {α : Type} {xs : List α} {i : Int} (h0 : 0 ≤ i) (h : i < xs.length) : atI xs i = some (xs[i.toNat]'(by omega)) := by
  unfold atI ixN
  rw [if_pos h0, if_pos h]
  show xs[i.toNat]? = _
  exact List.getElem?_eq_getElem _
theorem atI_last {α : Type} {xs : List α} {x : α} (h : xs.getLast? = some x) : atI xs (-1) = some x := by
  unfold atI ixN
  have hl : xs ≠ [] := by rintro rfl; cases h
  have hp : 0 < xs.length := List.length_pos_iff.mpr hl
  rw [if_neg (by omega), if_pos (by omega)]
  show xs[(-1 + (xs.length : Int)).toNat]? = _
  have e : (-1 + (xs.length : Int)).toNat = xs.length - 1 := by omega
  rw [e, ← List.getLast?_eq_getElem?]
  exact h
/-! ### the draws' box -/
/-- a box of draws, drawn at most n times so far -/
structure BoxOk (n : Nat) (d : D) : Prop where
  ex : ∃ a b c : Int, d = .list [.int a, .int b, .int c] ∧ 0 ≤ a ∧ 0 ≤ b ∧ b < 4294967296 ∧ 0 ≤ c ∧ c ≤ n
theorem BoxOk.mono {n m : Nat} {d : D} (h : BoxOk n d) (hm : n ≤ m) : BoxOk m d := by
  obtain ⟨a, b, c, e, h1, h2, h3, h4, h5⟩ := h.ex
  exact ⟨a, b, c, e, h1, h2, h3, h4, by omega⟩
end PL
set_option Elab.async false
set_option linter.all false
set_option autoImplicit false
set_option maxRecDepth 100000
set_option maxHeartbeats 4000000
/-! PLn: the readings over data, evaluated from the outside: equations for simp. -/
namespace PL
open PySem PySem.Spec PyProof.Rows L2
/-- a mark on a continuation: simp does not go into it -/
inductive Tag {α : Sort _} (a : α) : Type
  | mk
/-- go on with what an option holds -/
def bnd {α : Type} (o : Option α) (k : α → Prop) (_t : Tag k := .mk) : Prop := match o with
  | some a => k a
  | none => False
theorem bnd_some {α : Type} {a : α} {k : α → Prop} {t : Tag k} : bnd (some a) k t = k a := rfl
theorem bnd_none {α : Type} {k : α → Prop} {t : Tag k} : bnd none k t = False := rfl
theorem ex_bnd {α : Type} {o : Option α} {k : α → Prop} : (∃ a, o = some a ∧ k a) = bnd o k := by
  cases o with
  | none => simp [bnd]
  | some a => simp [bnd]
theorem ex2_bnd {α β : Type} {o : Option α} {p : Option β} {k : α → β → Prop} : (∃ a b, o = some a ∧ p = some b ∧ k a b) = bnd o fun a => bnd p fun b => k a b := by
  cases o <;> cases p <;> simp [bnd]
theorem bnd_iff {α : Type} {o : Option α} {k : α → Prop} {t : Tag k} : bnd o k t = ∃ a, o = some a ∧ k a := ex_bnd.symm
theorem ex2p_bnd {α β : Type} {o : Option (α × β)} {k : α → β → Prop} : (∃ a b, o = some (a, b) ∧ k a b) = bnd o fun p => k p.1 p.2 := by
  rw [bnd_iff]
  apply propext
  exact ⟨fun ⟨a, b, h, w⟩ => ⟨(a, b), h, w⟩, fun ⟨p, h, w⟩ => ⟨p.1, p.2, h, w⟩⟩
theorem bnd_mk {α : Type} {o : Option α} {k : α → Prop} {a : α} (h : o = some a) (hk : k a) : bnd o k := by rw [h]; exact hk
def ind (r : Option D) (k : Int → Prop) (_t : Tag k := .mk) : Prop := match r with
  | some (.int i) => k i
  | _ => False
theorem ind_int {i : Int} {k : Int → Prop} {t : Tag k} : ind (some (.int i)) k t = k i := rfl
theorem ex_ind {o : Option D} {k : Int → Prop} : (∃ i, o = some (.int i) ∧ k i) = ind o k := by
  cases o with
  | none => simp [ind]
  | some d => cases d <;> simp [ind]
/-- a truth that has come -/
def tst (r : Res) (k : Bool → Prop) (_t : Tag k := .mk) : Prop := match r with
  | .fz (.bool b) => k b
  | _ => False
theorem tst_bool {b : Bool} {k : Bool → Prop} {t : Tag k} : tst (.fz (.bool b)) k t = k b := rfl
theorem ex_tst {r : Res} {k : Bool → Prop} : (∃ b, r = .fz (.bool b) ∧ k b) = tst r k := by
  cases r with
  | fz d => cases d <;> simp [tst]
  | _ => simp [tst]
def tsto (o : Out) (k : Bool → Prop) (_t : Tag k := .mk) : Prop := match o with
  | .val (.bool b) => k b
  | _ => False
theorem tsto_bool {b : Bool} {k : Bool → Prop} {t : Tag k} : tsto (.val (.bool b)) k t = k b := rfl
theorem ex_tsto {r : Out} {k : Bool → Prop} : (∃ b, r = .val (.bool b) ∧ k b) = tsto r k := by
  cases r with
  | val d => cases d <;> simp [tsto]
  | _ => simp [tsto]
section
variable {fa fb fc fo fi : DE} {g h : D → D → (Out → Prop) → Prop} {t : DT} {e : DEnv} {fl fh : DO} {gs : DA}
theorem w2_eq {Q : Res → DEnv → Prop} : w2 g fa fb e Q = fa e fun r1 e1 => fb e1 fun r2 e2 => bnd (look e2 r1) fun d1 => bnd (look e2 r2) fun d2 => g d1 d2 fun o => Q o.res e2 := by simp only [w2, ex2_bnd]
theorem wT_eq {Q : Bool → DEnv → Prop} : PL.wT fa e Q = fa e fun r e' => tst r fun b => Q b e' := by simp only [PL.wT, ex_tst]
theorem wChain_eq {Q : Res → DEnv → Prop} : wChain g h fa fb fc e Q = fa e fun r1 e1 => fb e1 fun r2 e2 => bnd (look e2 r1) fun d1 => bnd (look e2 r2) fun d2 => g d1 d2 fun o => tsto o fun k =>
    if k = true then fc e2 fun r3 e3 => bnd (look e3 r2) fun d2 => bnd (look e3 r3) fun d3 => h d2 d3 fun o => Q o.res e3 else Q (.fz (.bool false)) e2 := by simp only [wChain, ex2_bnd, ex_tsto]
theorem wTru_eq {Q : Bool → DEnv → Prop} : PL.wTru fa e Q = fa e fun r e1 => bnd (look e1 r) fun d => truOk d ∧ Q (truth d) e1 := by simp only [PL.wTru, ex_bnd]
theorem wAndV_eq {Q : Res → DEnv → Prop} : wAndV fa fb e Q = fa e fun r e1 => bnd (look e1 r) fun d => truOk d ∧ if truth d = true then fb e1 Q else Q r e1 := by simp only [wAndV, ex_bnd]
theorem wOrV_eq {Q : Res → DEnv → Prop} : wOrV fa fb e Q = fa e fun r e1 => bnd (look e1 r) fun d => truOk d ∧ if truth d = true then Q r e1 else fb e1 Q := by simp only [wOrV, ex_bnd]
theorem wNotV_eq {Q : Res → DEnv → Prop} : wNotV fa e Q = fa e fun r e1 => bnd (look e1 r) fun d => truOk d ∧ Q (.fz (.bool (!truth d))) e1 := by simp only [wNotV, ex_bnd]
theorem wNeg_eq {Q : Res → DEnv → Prop} : wNeg fa e Q = fa e fun r e1 => ind (look e1 r) fun i => Q (.fz (.int (-i))) e1 := by simp only [wNeg, ex_ind]
theorem wPart_eq {Q : Option Int → DEnv → Prop} : wPart fa e Q = fa e fun r e1 => ind (look e1 r) fun i => Q (some i) e1 := by simp only [wPart, ex_ind]
theorem wSl_eq {g : D → Option Int → Option Int → (Out → Prop) → Prop} {Q : Res → DEnv → Prop} : wSl g fa fl fh e Q = fa e fun r e1 => fl e1 fun lo e2 => fh e2 fun hi e3 => bnd (look e3 r) fun d => g d lo hi fun o => Q o.res e3 := by simp only [wSl, ex_bnd]
theorem wN_eq {g : List D → (Out → Prop) → Prop} {Q : Res → DEnv → Prop} : wN g gs e Q = gs e fun rs e1 => bnd (lookAll e1 rs) fun ds => g ds fun o => Q o.res e1 := by simp only [wN, ex_bnd]
theorem wM_eq {ok : D → Prop} {g : D → List D → (Out → Prop) → Prop} {Q : Res → DEnv → Prop} : wM ok g fo gs e Q = fo e fun r e0 => bnd (look e0 r) fun d => ok d ∧ gs e0 fun rs e1 => bnd (look e1 r) fun d => bnd (lookAll e1 rs) fun ds => g d ds fun o => Q o.res e1 := by simp only [wM, ex2_bnd, ex_bnd]
def locR (r : Res) (k : Nat → Prop) (_t : Tag k := .mk) : Prop := match r with
  | .loc i => k i
  | _ => False
theorem locR_loc {i : Nat} {k : Nat → Prop} {t : Tag k} : locR (.loc i) k t = k i := rfl
theorem ex_locR {r : Res} {k : Nat → Prop} : (∃ i, r = .loc i ∧ k i) = locR r k := by
  cases r <;> simp [locR]
theorem wMut_eq {ok : D → Prop} {g : D → List D → (D → Out → Prop) → Prop} {Q : Res → DEnv → Prop} : wMut ok g fo gs e Q = fo e fun r e0 => locR r fun i => bnd (ownAt? e0 i) fun kd => ok kd.2 ∧ gs e0 fun rs e1 => bnd (frzAll e1 rs) fun p => bnd (ownAt? p.2 i) fun kd =>
    g kd.2 p.1 fun d' o => Q o.res (p.2.set i (some (kd.1, d'))) := by
  have : ∀ (r : Res) (e0 : DEnv), (∃ i k d, r = .loc i ∧ ownAt? e0 i = some (k, d) ∧ ok d ∧ gs e0 fun rs e1 => ∃ ds e2 k d, frzAll e1 rs = some (ds, e2) ∧ ownAt? e2 i = some (k, d) ∧ g d ds fun d' o => Q o.res (e2.set i (some (k, d')))) =
      (locR r fun i => bnd (ownAt? e0 i) fun kd => ok kd.2 ∧ gs e0 fun rs e1 => bnd (frzAll e1 rs) fun p => bnd (ownAt? p.2 i) fun kd => g kd.2 p.1 fun d' o => Q o.res (p.2.set i (some (kd.1, d')))) := by
    intro r e0
    rw [← ex_locR]
    apply propext
    constructor
    · rintro ⟨i, k, d, h1, h2, h3, w⟩
      refine ⟨i, h1, bnd_mk h2 ⟨h3, ?_⟩⟩
      have : (fun rs e1 => ∃ ds e2 k d, frzAll e1 rs = some (ds, e2) ∧ ownAt? e2 i = some (k, d) ∧ g d ds fun d' o => Q o.res (e2.set i (some (k, d')))) = fun rs e1 => bnd (frzAll e1 rs) fun p => bnd (ownAt? p.2 i) fun kd => g kd.2 p.1 fun d' o => Q o.res (p.2.set i (some (kd.1, d'))) := by
        funext rs e1
        apply propext
        constructor
        · rintro ⟨ds, e2, k, d, h4, h5, w⟩; exact bnd_mk h4 (bnd_mk h5 w)
        · intro w
          rw [bnd_iff] at w
          obtain ⟨p, h4, w⟩ := w
          rw [bnd_iff] at w
          obtain ⟨q, h5, w⟩ := w
          exact ⟨p.1, p.2, q.1, q.2, h4, h5, w⟩
      rw [← this]; exact w
    · rintro ⟨i, h1, w⟩
      rw [bnd_iff] at w
      obtain ⟨q, h2, h3, w⟩ := w
      refine ⟨i, q.1, q.2, h1, h2, h3, ?_⟩
      have : (fun rs e1 => ∃ ds e2 k d, frzAll e1 rs = some (ds, e2) ∧ ownAt? e2 i = some (k, d) ∧ g d ds fun d' o => Q o.res (e2.set i (some (k, d')))) = fun rs e1 => bnd (frzAll e1 rs) fun p => bnd (ownAt? p.2 i) fun kd => g kd.2 p.1 fun d' o => Q o.res (p.2.set i (some (kd.1, d'))) := by
        funext rs e1
        apply propext
        constructor
        · rintro ⟨ds, e2, k, d, h4, h5, w⟩; exact bnd_mk h4 (bnd_mk h5 w)
        · intro w
          rw [bnd_iff] at w
          obtain ⟨p, h4, w⟩ := w
          rw [bnd_iff] at w
          obtain ⟨q, h5, w⟩ := w
          exact ⟨p.1, p.2, q.1, q.2, h4, h5, w⟩
      rw [this]; exact w
  simp only [wMut, this]
theorem wTup_eq {Q : Res → DEnv → Prop} : wTup gs e Q = gs e fun rs e1 => rs.length ≤ 1000 ∧ bnd (frzAll e1 rs) fun p => Q (.fz (.tuple p.1)) p.2 := by simp only [wTup, ex2p_bnd]
theorem wLst_eq {Q : Res → DEnv → Prop} : wLst gs e Q = gs e fun rs e1 => rs.length ≤ 1000 ∧ bnd (frzAll e1 rs) fun p => Q (.ow (.list p.1)) p.2 := by simp only [wLst, ex2p_bnd]
/-- a call of a def's promise -/
def callT (g : DSp) (ds : List D) (Q : Res → List D → Prop) (_t : Tag Q := .mk) : Prop := g ds Q
theorem wCall_eq {ks : List Kd} {g : DSp} {Q : Res → DEnv → Prop} : wCall ks g gs e Q = gs e fun rs e1 => (lent ks rs).Nodup ∧ bnd (prep ks rs e1) fun p => lentOk ks rs p.1 p.2 ∧ callT g p.1 fun r outs => r.good = true → outs.length = ks.length → Q r (back ks rs outs p.2) := by simp only [wCall, ex2p_bnd, callT]
def tupR (r : Option D) (k : List D → Prop) (_t : Tag k := .mk) : Prop := match r with
  | some (.tuple ds) => k ds
  | _ => False
theorem tupR_tup {ds : List D} {k : List D → Prop} {t : Tag k} : tupR (some (.tuple ds)) k t = k ds := rfl
theorem ex_tupR {o : Option D} {k : List D → Prop} : (∃ ds, o = some (.tuple ds) ∧ k ds) = tupR o k := by
  cases o with
  | none => simp [tupR]
  | some d => cases d <;> simp [tupR]
theorem wGTup_eq {n : Nat} {gs : DGs} {r : Res} {Q : DEnv → Prop} : wGTup n gs r e Q = tupR (look e r) fun ds => ds.length = n ∧ gs ds e Q := by simp only [wGTup, ex_tupR]
def cns (l : List D) (k : D → List D → Prop) (_t : Tag k := .mk) : Prop := match l with
  | d :: r => k d r
  | _ => False
theorem cns_cons {d : D} {r : List D} {k : D → List D → Prop} {t : Tag k} : cns (d :: r) k t = k d r := rfl
theorem ex_cns {o : List D} {k : D → List D → Prop} : (∃ d r, o = d :: r ∧ k d r) = cns o k := by
  apply propext
  constructor
  · rintro ⟨d, r, rfl, w⟩; exact w
  · intro w
    match o, w with
    | d :: r, w => exact ⟨d, r, rfl, w⟩
theorem wGCons_eq {g : DG} {gs : DGs} {ds : List D} {Q : DEnv → Prop} : wGCons g gs ds e Q = cns ds fun d r => g (.fz d) e fun e1 => gs r e1 Q := by simp only [wGCons, ex_cns]
def two (l : List D) (k : D → D → Prop) (_t : Tag k := .mk) : Prop := match l with
  | [d, r] => k d r
  | _ => False
theorem two_two {d r : D} {k : D → D → Prop} {t : Tag k} : two [d, r] k t = k d r := rfl
theorem wGSub_eq {g : D → D → D → (D → Prop) → Prop} {r : Res} {Q : DEnv → Prop} : wGSub g fo fi r e Q = fo e fun ro e1 => locR ro fun i => fi e1 fun rk e2 => bnd (frzAll e2 [r, rk]) fun p => two p.1 fun dv dk => bnd (ownAt? p.2 i) fun kd => g kd.2 dk dv fun d' => Q (p.2.set i (some (kd.1, d'))) := by
  have : ∀ (ro : Res) (e1 : DEnv), (∃ i, ro = .loc i ∧ fi e1 fun rk e2 => ∃ dv dk e3 k d, frzAll e2 [r, rk] = some ([dv, dk], e3) ∧ ownAt? e3 i = some (k, d) ∧ g d dk dv fun d' => Q (e3.set i (some (k, d')))) =
      (locR ro fun i => fi e1 fun rk e2 => bnd (frzAll e2 [r, rk]) fun p => two p.1 fun dv dk => bnd (ownAt? p.2 i) fun kd => g kd.2 dk dv fun d' => Q (p.2.set i (some (kd.1, d')))) := by
    intro ro e1
    rw [← ex_locR]
    congr 1
    funext i
    congr 1
    congr 1
    funext rk e2
    apply propext
    constructor
    · rintro ⟨dv, dk, e3, k, d, h1, h2, w⟩
      exact bnd_mk h1 (show bnd (ownAt? e3 i) fun kd => g kd.2 dk dv fun d' => Q (e3.set i (some (kd.1, d'))) from bnd_mk h2 w)
    · intro w
      rw [bnd_iff] at w
      obtain ⟨⟨ds, e3⟩, h1, w⟩ := w
      match ds, h1, w with
      | [dv, dk], h1, w =>
        have w : bnd (ownAt? e3 i) fun kd => g kd.2 dk dv fun d' => Q (e3.set i (some (kd.1, d'))) := w
        rw [bnd_iff] at w
        obtain ⟨⟨k, d⟩, h2, w⟩ := w
        exact ⟨dv, dk, e3, k, d, h1, h2, w⟩
  simp only [wGSub, this]
theorem wIsi_eq {n : String} {Q : Res → DEnv → Prop} : wIsi n fa e Q = fa e fun r e1 => bnd (look e1 r) fun d => noDict d = true ∧ Q (.fz (.bool (isTy (tyN d) n))) e1 := by simp only [wIsi, ex_bnd]
theorem wIsi2_eq {n m : String} {Q : Res → DEnv → Prop} : wIsi2 n m fa e Q = fa e fun r e1 => bnd (look e1 r) fun d => noDict d = true ∧ Q (.fz (.bool (isTy (tyN d) n || isTy (tyN d) m))) e1 := by simp only [wIsi2, ex_bnd]
theorem wIt_eq {Q : List D → DEnv → Prop} : wIt fa e Q = fa e fun r e1 => bnd (frz e1 r) fun p => bnd (itD p.1) fun ds => Q ds p.2 := by
  have : ∀ (r : Res) (e1 : DEnv), (∃ d e2 ds, frz e1 r = some (d, e2) ∧ itD d = some ds ∧ Q ds e2) = bnd (frz e1 r) fun p => bnd (itD p.1) fun ds => Q ds p.2 := by
    intro r e1
    apply propext
    constructor
    · rintro ⟨d, e2, ds, h1, h2, w⟩; exact bnd_mk h1 (bnd_mk h2 w)
    · intro w
      rw [bnd_iff] at w
      obtain ⟨⟨d, e2⟩, h1, w⟩ := w
      rw [bnd_iff] at w
      obtain ⟨ds, h2, w⟩ := w
      exact ⟨d, e2, ds, h1, h2, w⟩
  simp only [wIt, this]
def ints1 (o : Option (List D)) (k : Int → Prop) (_t : Tag k := .mk) : Prop := match o with
  | some [.int i] => k i
  | _ => False
theorem ints1_int {i : Int} {k : Int → Prop} {t : Tag k} : ints1 (some [.int i]) k t = k i := rfl
def ints2 (o : Option (List D)) (k : Int → Int → Prop) (_t : Tag k := .mk) : Prop := match o with
  | some [.int i, .int j] => k i j
  | _ => False
theorem ints2_int {i j : Int} {k : Int → Int → Prop} {t : Tag k} : ints2 (some [.int i, .int j]) k t = k i j := rfl
theorem wRng1_eq {Q : List D → DEnv → Prop} : wRng1 gs e Q = gs e fun rs e1 => ints1 (lookAll e1 rs) fun j => (-(2 ^ 62) ≤ j ∧ j < 2 ^ 62) ∧ Q (rngD 0 j.toNat) e1 := by
  have : ∀ (o : Option (List D)) (k : Int → Prop), (∃ i, o = some [.int i] ∧ k i) = ints1 o k := by
    intro o k
    apply propext
    constructor
    · rintro ⟨i, rfl, w⟩; exact w
    · intro w
      unfold ints1 at w
      split at w
      · exact ⟨_, rfl, w⟩
      · exact w.elim
  simp only [wRng1, this]
theorem wRng2_eq {Q : List D → DEnv → Prop} : wRng2 gs e Q = gs e fun rs e1 => ints2 (lookAll e1 rs) fun i j => (-(2 ^ 62) ≤ i ∧ i < 2 ^ 62 ∧ -(2 ^ 62) ≤ j ∧ j < 2 ^ 62) ∧ Q (rngD i (j - i).toNat) e1 := by
  have : ∀ (o : Option (List D)) (k : Int → Int → Prop), (∃ i j, o = some [.int i, .int j] ∧ k i j) = ints2 o k := by
    intro o k
    apply propext
    constructor
    · rintro ⟨i, j, rfl, w⟩; exact w
    · intro w
      unfold ints2 at w
      split at w
      · exact ⟨_, _, rfl, w⟩
      · exact w.elim
  simp only [wRng2, this]
theorem wLenSc_eq {i : Nat} {Q : Res → DEnv → Prop} : wLenSc i e Q = bnd (scAt e i) fun ds => Q (.fz (.int (ds.length : Int))) e := by simp only [wLenSc, ex_bnd]
theorem wIxSc_eq {i : Nat} {Q : Res → DEnv → Prop} : wIxSc i fa e Q = ((∃ ds, scAt e i = some ds) ∧ fa e fun r e1 => bnd (scAt e1 i) fun ds => ind (look e1 r) fun k => ind (atI ds k) fun n => Q (.fz (.int n)) e1) := by
  have : ∀ (r : Res) (e1 : DEnv), (∃ ds k n, scAt e1 i = some ds ∧ look e1 r = some (.int k) ∧ atI ds k = some (.int n) ∧ Q (.fz (.int n)) e1) = bnd (scAt e1 i) fun ds => ind (look e1 r) fun k => ind (atI ds k) fun n => Q (.fz (.int n)) e1 := by
    intro r e1
    simp only [← ex_bnd, ← ex_ind, exists_and_left]
  simp only [wIxSc, this]
theorem wPar_eq {i j : Nat} {D : DEnds} : wPar i j gs D e = gs e fun rs e1 => bnd rs[0]? fun r1 => bnd rs[1]? fun r2 => rs.length = 2 ∧ bnd (fixR e1 r1) fun p => bnd (fixR p.2 r2) fun q => asgn j q.1 q.2 fun e4 => asgn i p.1 e4 D.nx := by
  have : ∀ (rs : List Res) (e1 : DEnv), (∃ r1 r2 s1 e2 s2 e3, rs = [r1, r2] ∧ fixR e1 r1 = some (s1, e2) ∧ fixR e2 r2 = some (s2, e3) ∧ asgn j s2 e3 fun e4 => asgn i s1 e4 D.nx) =
      bnd rs[0]? fun r1 => bnd rs[1]? fun r2 => rs.length = 2 ∧ bnd (fixR e1 r1) fun p => bnd (fixR p.2 r2) fun q => asgn j q.1 q.2 fun e4 => asgn i p.1 e4 D.nx := by
    intro rs e1
    apply propext
    constructor
    · rintro ⟨r1, r2, s1, e2, s2, e3, rfl, h1, h2, w⟩
      refine ⟨rfl, bnd_mk h1 (bnd_mk h2 w)⟩
    · intro w
      rw [bnd_iff] at w
      obtain ⟨r1, h1, w⟩ := w
      rw [bnd_iff] at w
      obtain ⟨r2, h2, hl, w⟩ := w
      rw [bnd_iff] at w
      obtain ⟨⟨s1, e2⟩, h3, w⟩ := w
      rw [bnd_iff] at w
      obtain ⟨⟨s2, e3⟩, h4, w⟩ := w
      refine ⟨r1, r2, s1, e2, s2, e3, ?_, h3, h4, w⟩
      match rs, hl with
      | [a, b], _ => cases h1; cases h2; rfl
  simp only [wPar, this]
def asgnT (i : Nat) (r : Res) (e : DEnv) (Q : DEnv → Prop) (_t : Tag Q := .mk) : Prop := asgn i r e Q
theorem asgn_eq {i : Nat} {r : Res} {Q : DEnv → Prop} : asgn i r e Q = asgnT i r e Q := rfl
theorem asgn_fz {i : Nat} {d : D} {Q : DEnv → Prop} {t : Tag Q} : asgnT i (.fz d) e Q t = (okSlot e i = true ∧ Q (e.set i (some (.fz, d)))) := rfl
theorem asgn_ow {i : Nat} {d : D} {Q : DEnv → Prop} {t : Tag Q} : asgnT i (.ow d) e Q t = (okSlot e i = true ∧ Q (e.set i (some (.ow, d)))) := rfl
theorem asgn_loc {i j : Nat} {Q : DEnv → Prop} {t : Tag Q} : asgnT i (.loc j) e Q t = (okSlot e i = true ∧ bnd (frz e (.loc j)) fun p => Q (p.2.set i (some (.fz, p.1)))) := by
  show (okSlot e i = true ∧ ∃ d e', frz e (.loc j) = some (d, e') ∧ Q (e'.set i (some (.fz, d)))) = _
  rw [ex2p_bnd]
def retT (r : Res) (e : DEnv) (Q : Res → DEnv → Prop) (_t : Tag Q := .mk) : Prop := retR r e Q
theorem retR_eq {r : Res} {Q : Res → DEnv → Prop} : retR r e Q = retT r e Q := rfl
theorem retR_fz {d : D} {Q : Res → DEnv → Prop} {t : Tag Q} : retT (.fz d) e Q t = Q (.fz d) e := rfl
theorem retR_ow {d : D} {Q : Res → DEnv → Prop} {t : Tag Q} : retT (.ow d) e Q t = Q (.ow d) e := rfl
def owA (e : DEnv) (i : Nat) : Option D := match e[i]? with
  | some (some (.ow, d)) => some d
  | _ => none
theorem retR_loc {j : Nat} {Q : Res → DEnv → Prop} {t : Tag Q} : retT (.loc j) e Q t = bnd (owA e j) fun d => Q (.ow d) (e.set j none) := by
  show (∃ d, e[j]? = some (some (.ow, d)) ∧ Q (.ow d) (e.set j none)) = _
  rw [← ex_bnd]
  congr 1
  funext d
  have : (e[j]? = some (some (.ow, d))) = (owA e j = some d) := by
    apply propext
    unfold owA
    constructor
    · intro h; rw [h]
    · intro h
      split at h
      · rename_i q; cases h; exact q
      · cases h
  rw [this]
/-! plain ones, in full -/
def forLT (g : DG) (b : DS) (D : DEnds) (l : List PyData) (e : DEnv) (_t : Tag (g, b, D) := .mk) : Prop := forL g b D l e
def lcLT (g : DG) (t : DT) (f : DE) (vs : List Nat) (Q : List D → DEnv → Prop) (l acc : List D) (e : DEnv) (_t : Tag (g, t, f, vs, Q) := .mk) : Prop := lcL g t f vs Q l acc e
theorem wFor_eq {fi : DI} {g : DG} {b : DS} {D : DEnds} : wFor fi g b D e = fi e fun items e1 => forLT g b D items e1 := rfl
theorem wLc_eq {fi : DI} {g : DG} {t : DT} {f : DE} {vs : List Nat} {Q : Res → DEnv → Prop} : wLc fi g t f vs e Q = fi e fun items e1 => items.length ≤ 100000 ∧ (∀ v ∈ vs, okSlot e1 v = true) ∧ lcLT g t f vs (fun acc e2 => Q (.ow (.list acc)) (restE e1 e2 vs)) items [] (wipeE e1 vs) := rfl
theorem wVar_eq {i : Nat} {Q : Res → DEnv → Prop} : wVar i e Q = bnd e[i]? fun s => bnd s fun x => Q (rVar i x) e := by
  unfold wVar
  cases e[i]? with
  | none => rfl
  | some s => cases s <;> rfl
theorem wC_eq {d : D} {Q : Res → DEnv → Prop} : wC d e Q = Q (.fz d) e := rfl
theorem wNil_eq {Q : List Res → DEnv → Prop} : wNil e Q = Q [] e := rfl
theorem wCons_eq {Q : List Res → DEnv → Prop} : wCons fa gs e Q = fa e fun r e1 => gs e1 fun rs e2 => Q (r :: rs) e2 := rfl
theorem wAndT_eq {f g : DT} {Q : Bool → DEnv → Prop} : wAndT f g e Q = f e fun k e1 => if k = true then g e1 Q else Q false e1 := rfl
theorem wOrT_eq {f g : DT} {Q : Bool → DEnv → Prop} : wOrT f g e Q = f e fun k e1 => if k = true then Q true e1 else g e1 Q := rfl
theorem wNotT_eq {f : DT} {Q : Bool → DEnv → Prop} : wNotT f e Q = f e fun k e1 => Q (!k) e1 := rfl
theorem wIfE_eq {Q : Res → DEnv → Prop} : wIfE t fa fb e Q = t e fun k e1 => if k = true then fa e1 Q else fb e1 Q := rfl
theorem wNoPart_eq {Q : Option Int → DEnv → Prop} : wNoPart e Q = Q none e := rfl
theorem wYes_eq {Q : Bool → DEnv → Prop} : wYes e Q = Q true e := rfl
theorem wNext_eq {D : DEnds} : wNext D e = D.nx e := rfl
theorem wBreak_eq {D : DEnds} : wBreak D e = D.bk e := rfl
theorem wCont_eq {D : DEnds} : wCont D e = D.ct e := rfl
theorem wSeq_eq {g g' : DS} {D : DEnds} : wSeq g g' D e = g { D with nx := fun e1 => g' D e1 } e := rfl
theorem wDrop_eq {D : DEnds} : wDrop fa D e = fa e fun _ e1 => D.nx e1 := rfl
theorem wRet_eq {D : DEnds} : wRet fa D e = fa e fun r e1 => retT r e1 D.rt := rfl
theorem wRetN_eq {D : DEnds} : wRetN D e = D.rt (.fz .none) e := rfl
theorem wIf_eq {g g' : DS} {D : DEnds} : wIf t g g' D e = t e fun k e1 => if k = true then g D e1 else g' D e1 := rfl
theorem wAsg_eq {g : DG} {D : DEnds} : wAsg fa g D e = fa e fun r e1 => g r e1 D.nx := rfl
theorem wGNil_eq {ds : List D} {Q : DEnv → Prop} : wGNil ds e Q = (ds = [] ∧ Q e) := rfl
theorem gOfB_eq {ks : List Kd} {n : Nat} {b : DS} {ds : List D} {Q : Res → List D → Prop} : gOfB ks n b ds Q = b (endsF ks Q) (argE ks ds ++ List.replicate n none) := rfl
theorem endsF_nx {ks : List Kd} {Q : Res → List D → Prop} : (endsF ks Q).nx e = Q (.fz .none) (outsOf ks e) := rfl
theorem endsF_rt {ks : List Kd} {r : Res} {Q : Res → List D → Prop} : (endsF ks Q).rt r e = (r.good = true ∧ Q r (outsOf ks e)) := rfl
end
/-! the operators' equations -/
theorem g1_eq {g : D → (Out → Prop) → Prop} {d : D} {Q : Out → Prop} : g1 g [d] Q = g d Q := rfl
theorem g2_eq {g : D → D → (Out → Prop) → Prop} {d d' : D} {Q : Out → Prop} : g2 g [d, d'] Q = g d d' Q := rfl
theorem gEq_eq {d d' : D} {Q : Out → Prop} : gEq d d' Q = (eqOk d d' ∧ Q (.val (.bool (PyData.eqv d d')))) := rfl
theorem gNe_eq {d d' : D} {Q : Out → Prop} : gNe d d' Q = (eqOk d d' ∧ Q (.val (.bool (!PyData.eqv d d')))) := rfl
theorem gRepr_eq {d : D} {Q : Out → Prop} : gRepr d Q = ((d.canLay0 = true ∧ d.showable = true ∧ d.depth ≤ 64 ∧ d.shown.length ≤ sizeLine) ∧ Q (.val (.str d.shown))) := rfl
theorem gIn_str {neg : Bool} {d : D} {z : Str} {Q : Out → Prop} : gIn neg d (.str z) Q = (∃ c, d = .str ⟨#[c]⟩ ∧ Q (.val (.bool (if neg then !decide (c ∈ z.cps.toList) else decide (c ∈ z.cps.toList))))) := rfl
theorem gIn_list {neg : Bool} {d : D} {ds : List D} {Q : Out → Prop} : gIn neg d (.list ds) Q = ((flat d = true ∧ ds.all flat = true) ∧ Q (.val (.bool (if neg then !inD d ds else inD d ds)))) := rfl
theorem gIn_tuple {neg : Bool} {d : D} {ds : List D} {Q : Out → Prop} : gIn neg d (.tuple ds) Q = ((flat d = true ∧ ds.all flat = true) ∧ Q (.val (.bool (if neg then !inD d ds else inD d ds)))) := rfl
theorem gSl_list {ds : List D} {lo hi : Option Int} {Q : Out → Prop} : gSl (.list ds) lo hi Q = Q (.new (.list (cutD ds lo hi))) := rfl
theorem gSl_tuple {ds : List D} {lo hi : Option Int} {Q : Out → Prop} : gSl (.tuple ds) lo hi Q = Q (.tup (cutD ds lo hi)) := rfl
theorem gSl_str {z : Str} {lo hi : Option Int} {Q : Out → Prop} : gSl (.str z) lo hi Q = (z.length ≤ 100000 ∧ Q (.val (.str (cutS z lo hi)))) := rfl
theorem gIx_list {ds : List D} {i : Int} {Q : Out → Prop} : gIx (.list ds) (.int i) Q = bnd (atI ds i) fun d => Q (.val d) := ex_bnd
theorem gIx_tuple {ds : List D} {i : Int} {Q : Out → Prop} : gIx (.tuple ds) (.int i) Q = bnd (atI ds i) fun d => Q (.val d) := ex_bnd
theorem gIx_str {z : Str} {i : Int} {Q : Out → Prop} : gIx (.str z) (.int i) Q = (z.length ≤ 100000 ∧ bnd (atI z.cps.toList i) fun c => Q (.val (.str ⟨#[c]⟩))) := by
  show (z.length ≤ 100000 ∧ ∃ c, atI z.cps.toList i = some c ∧ Q (.val (.str ⟨#[c]⟩))) = _
  rw [ex_bnd]
theorem gSetL_eq {ds : List D} {i : Int} {d : D} {Q : D → Prop} : gSetL (.list ds) (.int i) d Q = bnd (ixN ds.length i) fun j => Q (.list (ds.set j d)) := ex_bnd
theorem gSum_eq {ds : List D} {Q : Out → Prop} : gSum (.list ds) Q = bnd (ints? ds) fun ns => Q (.val (.int ns.sum)) := ex_bnd
theorem gBools_eq {f : List Bool → Bool} {ds : List D} {Q : Out → Prop} : gBools f (.list ds) Q = bnd (bools? ds) fun ns => Q (.val (.bool (f ns))) := ex_bnd
theorem gJoin_eq {a : Str} {d : D} {Q : Out → Prop} : gJoin (.str a) [d] Q = bnd (seqOf d) fun ds => bnd (strs? ds) fun ys => (ys.map (·.length)).sum + ys.length * a.length ≤ 100000 ∧ Q (.val (.str (Txt.join a ys))) := by
  rw [bnd_iff]
  apply propext
  constructor
  · rintro ⟨ds, ys, h1, h2, w⟩; exact ⟨ds, h1, bnd_mk h2 w⟩
  · rintro ⟨ds, h1, w⟩
    rw [bnd_iff] at w
    obtain ⟨ys, h2, w⟩ := w
    exact ⟨ds, ys, h1, h2, w⟩
theorem ixN_0 {n : Nat} : ixN (n + 1) 0 = some 0 := by
  unfold ixN
  rw [if_pos (by decide), if_pos (by omega)]; rfl
theorem atI_0 {α : Type} {x0 : α} {l : List α} : atI (x0 :: l) 0 = some x0 := by
  unfold atI
  rw [show (x0 :: l).length = l.length + 1 from rfl, ixN_0]; rfl
theorem ixN_1 {n : Nat} : ixN (n + 2) 1 = some 1 := by
  unfold ixN
  rw [if_pos (by decide), if_pos (by omega)]; rfl
theorem atI_1 {α : Type} {x0 x1 : α} {l : List α} : atI (x0 :: x1 :: l) 1 = some x1 := by
  unfold atI
  rw [show (x0 :: x1 :: l).length = l.length + 2 from rfl, ixN_1]; rfl
theorem ixN_2 {n : Nat} : ixN (n + 3) 2 = some 2 := by
  unfold ixN
  rw [if_pos (by decide), if_pos (by omega)]; rfl
theorem atI_2 {α : Type} {x0 x1 x2 : α} {l : List α} : atI (x0 :: x1 :: x2 :: l) 2 = some x2 := by
  unfold atI
  rw [show (x0 :: x1 :: x2 :: l).length = l.length + 3 from rfl, ixN_2]; rfl
theorem ixN_3 {n : Nat} : ixN (n + 4) 3 = some 3 := by
  unfold ixN
  rw [if_pos (by decide), if_pos (by omega)]; rfl
theorem atI_3 {α : Type} {x0 x1 x2 x3 : α} {l : List α} : atI (x0 :: x1 :: x2 :: x3 :: l) 3 = some x3 := by
  unfold atI
  rw [show (x0 :: x1 :: x2 :: x3 :: l).length = l.length + 4 from rfl, ixN_3]; rfl
theorem ixN_4 {n : Nat} : ixN (n + 5) 4 = some 4 := by
  unfold ixN
  rw [if_pos (by decide), if_pos (by omega)]; rfl
theorem atI_4 {α : Type} {x0 x1 x2 x3 x4 : α} {l : List α} : atI (x0 :: x1 :: x2 :: x3 :: x4 :: l) 4 = some x4 := by
  unfold atI
  rw [show (x0 :: x1 :: x2 :: x3 :: x4 :: l).length = l.length + 5 from rfl, ixN_4]; rfl
theorem ixN_5 {n : Nat} : ixN (n + 6) 5 = some 5 := by
  unfold ixN
  rw [if_pos (by decide), if_pos (by omega)]; rfl
theorem atI_5 {α : Type} {x0 x1 x2 x3 x4 x5 : α} {l : List α} : atI (x0 :: x1 :: x2 :: x3 :: x4 :: x5 :: l) 5 = some x5 := by
  unfold atI
  rw [show (x0 :: x1 :: x2 :: x3 :: x4 :: x5 :: l).length = l.length + 6 from rfl, ixN_5]; rfl
theorem ixN_6 {n : Nat} : ixN (n + 7) 6 = some 6 := by
  unfold ixN
  rw [if_pos (by decide), if_pos (by omega)]; rfl
theorem atI_6 {α : Type} {x0 x1 x2 x3 x4 x5 x6 : α} {l : List α} : atI (x0 :: x1 :: x2 :: x3 :: x4 :: x5 :: x6 :: l) 6 = some x6 := by
  unfold atI
  rw [show (x0 :: x1 :: x2 :: x3 :: x4 :: x5 :: x6 :: l).length = l.length + 7 from rfl, ixN_6]; rfl
theorem ixN_7 {n : Nat} : ixN (n + 8) 7 = some 7 := by
  unfold ixN
  rw [if_pos (by decide), if_pos (by omega)]; rfl
theorem atI_7 {α : Type} {x0 x1 x2 x3 x4 x5 x6 x7 : α} {l : List α} : atI (x0 :: x1 :: x2 :: x3 :: x4 :: x5 :: x6 :: x7 :: l) 7 = some x7 := by
  unfold atI
  rw [show (x0 :: x1 :: x2 :: x3 :: x4 :: x5 :: x6 :: x7 :: l).length = l.length + 8 from rfl, ixN_7]; rfl
end PL
set_option Elab.async false
set_option linter.all false
set_option autoImplicit false
set_option maxRecDepth 100000
set_option maxHeartbeats 4000000
/-! PLo: texts of few signs. -/
namespace PL
open PySem PySem.Spec PyProof.Rows L2
theorem callT_of {g : DSp} {ds : List D} {Q : Res → List D → Prop} {t : Tag Q} (h : g ds Q) : callT g ds Q t := h
/-- a text of at most n signs, all of them of seven bits -/
structure TOk (n : Nat) (z : Str) : Prop where
  len : z.cps.toList.length ≤ n
  asc : ∀ c ∈ z.cps.toList, c < 128
theorem slen (z : Str) : z.length = z.cps.toList.length := by simp [Str.length]
theorem TOk.l {n : Nat} {z : Str} (h : TOk n z) : z.length ≤ n := by rw [slen]; exact h.len
theorem TOk.mono {n m : Nat} {z : Str} (h : TOk n z) (hm : n ≤ m) : TOk m z := ⟨Nat.le_trans h.len hm, h.asc⟩
theorem app_l2 (a b : Str) : (a ++ b).cps.toList = a.cps.toList ++ b.cps.toList := by
  show (a.cps ++ b.cps).toList = _
  simp
theorem TOk.app {n m : Nat} {a b : Str} (h : TOk n a) (h' : TOk m b) : TOk (n + m) (a ++ b) := by
  refine ⟨?_, ?_⟩
  · rw [app_l2, List.length_append]; have := h.len; have := h'.len; omega
  · rw [app_l2]; intro c hc
    rcases List.mem_append.mp hc with q | q
    · exact h.asc c q
    · exact h'.asc c q
theorem TOk.cut {n : Nat} {a : Str} (h : TOk n a) (lo hi : Option Int) : TOk n (cutS a lo hi) := by
  unfold cutS
  refine ⟨?_, ?_⟩
  · show ((a.cps.toList.drop _).take _).toArray.toList.length ≤ n
    rw [List.toList_toArray]
    exact Nat.le_trans (Nat.le_trans (List.length_take_le' _ _) (by rw [List.length_drop]; omega)) h.len
  · intro c hc
    have hc : c ∈ ((a.cps.toList.drop (HT.sIx a.length 0 lo)).take (HT.sIx a.length a.length hi - HT.sIx a.length 0 lo)) := by simpa using hc
    exact h.asc c (List.mem_of_mem_drop (List.mem_of_mem_take hc))
theorem TOk.one {c : Nat} (h : c < 128) : TOk 1 ⟨#[c]⟩ := ⟨by simp, fun d hd => by
  have : d = c := by simpa using hd
  omega⟩
theorem fold_rep (a : Array Nat) : ∀ (k : Nat) (acc : Array Nat), ((List.replicate k a).foldl (· ++ ·) acc).toList = acc.toList ++ (List.replicate k a.toList).flatten
  | 0, acc => by simp
  | k + 1, acc => by
    rw [List.replicate_succ, List.foldl_cons, fold_rep a k, List.replicate_succ, List.flatten_cons, Array.toList_append, List.append_assoc]
theorem mul_l (a : Str) (k : Int) : (Txt.mul a k).cps.toList = (List.replicate k.toNat a.cps.toList).flatten := by
  unfold Txt.mul
  split
  · have : k.toNat = 0 := by omega
    rw [this]; rfl
  · split
    · rename_i h1 h2
      simp only [Bool.or_eq_true, beq_iff_eq] at h2
      rcases h2 with h2 | h2
      · subst h2
        show _ = (List.replicate 1 a.cps.toList).flatten
        simp
      · have : a.cps.toList = [] := List.length_eq_zero_iff.mp (by rw [← slen]; exact h2)
        rw [this]
        generalize k.toNat = n
        induction n with
        | zero => rfl
        | succ n ih => rw [List.replicate_succ, List.flatten_cons, ← ih]; rfl
    · show ((List.replicate k.toNat a.cps).foldl (· ++ ·) #[]).toList = _
      rw [fold_rep]; simp
theorem TOk.mul {n : Nat} {a : Str} (h : TOk n a) (k : Int) : TOk (n * k.toNat) (Txt.mul a k) := by
  refine ⟨?_, ?_⟩
  · rw [mul_l, List.length_flatten, List.map_replicate, List.sum_replicate_nat, Nat.mul_comm]
    exact Nat.mul_le_mul_right _ h.len
  · rw [mul_l]; intro c hc
    obtain ⟨l, hl, hc⟩ := List.mem_flatten.mp hc
    obtain ⟨_, rfl⟩ := List.mem_replicate.mp hl
    exact h.asc c hc
theorem TOk.upper {n : Nat} {a : Str} (h : TOk n a) : TOk n (Txt.upper a) := by
  rw [upper_ascii h.asc]
  refine ⟨by simpa using h.len, fun c hc => ?_⟩
  have hc : c ∈ a.cps.toList.map up1 := by simpa using hc
  obtain ⟨d, hd, rfl⟩ := List.mem_map.mp hc
  have := h.asc d hd
  unfold up1
  split <;> omega
theorem join_l (ys : List Str) : (Txt.join Str.empty ys).cps.toList = (ys.map fun y => y.cps.toList).flatten := by
  have h : ∀ (rest : List Str) (acc : Array Nat), (rest.foldl (fun acc p => acc ++ Str.empty.cps ++ p.cps) acc).toList = acc.toList ++ (rest.map fun y => y.cps.toList).flatten := by
    intro rest
    induction rest with
    | nil => intro acc; simp
    | cons p r ih =>
      intro acc
      rw [List.foldl_cons, ih, Array.toList_append, Array.toList_append, List.map_cons, List.flatten_cons, ← List.append_assoc]
      have : Str.empty.cps.toList = [] := rfl
      rw [this, List.append_nil]
  cases ys with
  | nil => rfl
  | cons y r =>
    show (r.foldl (fun acc p => acc ++ Str.empty.cps ++ p.cps) y.cps).toList = _
    rw [h]; rfl
theorem TOk.join {ys : List Str} (h : ∀ y ∈ ys, TOk 1 y) : TOk ys.length (Txt.join Str.empty ys) := by
  refine ⟨?_, ?_⟩
  · rw [join_l, List.length_flatten, List.map_map]
    induction ys with
    | nil => exact Nat.le_refl _
    | cons y r ih =>
      have h1 := (h y (by simp)).len
      have := ih fun z hz => h z (List.mem_cons_of_mem _ hz)
      simp only [List.map_cons, List.sum_cons, List.length_cons, Function.comp] at this ⊢
      omega
  · rw [join_l]; intro c hc
    obtain ⟨l, hl, hc⟩ := List.mem_flatten.mp hc
    obtain ⟨y, hy, rfl⟩ := List.mem_map.mp hl
    exact (h y hy).asc c hc
theorem sum_len {ys : List Str} (h : ∀ y ∈ ys, TOk 1 y) : (ys.map (·.length)).sum ≤ ys.length := by
  induction ys with
  | nil => exact Nat.le_refl _
  | cons y r ih =>
    have h1 := (h y (by simp)).l
    have := ih fun z hz => h z (List.mem_cons_of_mem _ hz)
    simp only [List.map_cons, List.sum_cons, List.length_cons]
    omega
theorem TOk.strOk {n : Nat} {z : Str} (h : TOk n z) : PyData.canLay0 (.str z) = true := by
  rw [PyData.canLay0]
  unfold PyData.strOk
  rw [← Array.all_toList, List.all_eq_true]
  intro c hc
  have := h.asc c hc
  exact decide_eq_true (by omega)
theorem TOk.shown {n : Nat} {z : Str} (h : TOk n z) : (PyData.shown (.str z)).length ≤ 10 * n + 2 := by
  rw [PyData.shown]
  have := StrLaws.reprText_len z fun c hc => Nat.lt_of_lt_of_le (h.asc c hc) (by decide)
  have := h.l
  omega
/-- how many signs are in a list of unlike signs, counted one by one -/
theorem count_sum (l : List Nat) : ∀ (L : List Nat), L.Nodup → (L.map fun c => ((l.count c : Nat) : Int)).sum = ((l.filter (· ∈ L)).length : Nat)
  | [], _ => by
    have : l.filter (· ∈ ([] : List Nat)) = [] := List.filter_eq_nil_iff.mpr (by simp)
    rw [this]; rfl
  | c :: L, h => by
    rw [List.nodup_cons] at h
    rw [List.map_cons, List.sum_cons, count_sum l L h.2]
    have : ∀ l : List Nat, (l.filter (· ∈ c :: L)).length = l.count c + (l.filter (· ∈ L)).length := by
      intro l
      induction l with
      | nil => rfl
      | cons x l ih =>
        by_cases hx : x = c
        · subst hx
          rw [List.filter_cons_of_pos (by simp), List.filter_cons_of_neg (by simpa using h.1), List.count_cons_self, List.length_cons, ih]
          omega
        · by_cases hL : x ∈ L
          · rw [List.filter_cons_of_pos (by simp [hL]), List.filter_cons_of_pos (by simpa using hL), List.count_cons_of_ne hx, List.length_cons, List.length_cons, ih]
            omega
          · rw [List.filter_cons_of_neg (by simp [hL, hx]), List.filter_cons_of_neg (by simpa using hL), List.count_cons_of_ne hx, ih]
    rw [this]
    omega
theorem cnt_count (c : Nat) : ∀ l : List Nat, PyProof.Rows.cnt c l = ((l.count c : Nat) : Int)
  | [] => rfl
  | x :: l => by
    show (if same (.str ⟨#[x]⟩) (.str ⟨#[c]⟩) then (1 : Int) else 0) + PyProof.Rows.cnt c l = _
    rw [cnt_count c l]
    by_cases h : x = c
    · subst h
      rw [List.count_cons_self, if_pos (by simp [same])]
      omega
    · rw [List.count_cons_of_ne h, if_neg (by simp [same, h])]
      omega
theorem count_z (z : Str) (c : Nat) : Txt.count z ⟨#[c]⟩ = ((z.cps.toList.count c : Nat) : Int) := by rw [count_cnt, cnt_count]
end PL
set_option Elab.async false
set_option linter.all false
set_option autoImplicit false
set_option maxRecDepth 100000
set_option maxHeartbeats 4000000
/-! PLp: loops by an invariant, in the form that simp leaves. -/
namespace PL
open PySem PySem.Spec PyProof.Rows L2
theorem forLT_inv {g : DG} {b : DS} {D : DEnds} {items : List PyData} {e : DEnv} {t : Tag (g, b, D)} (I : Nat → DEnv → Prop) (h0 : I 0 e)
    (st : ∀ i d e (K : DEnv → Prop), items[i]? = some d → I i e → (∀ e2, I (i + 1) e2 → K e2) → g (.fz d) e fun e1 => b { D with nx := K, ct := K, bk := D.nx } e1)
    (h : ∀ e, I items.length e → D.nx e) : forLT g b D items e t := forL_inv I items e h0 st h
theorem lcLT_inv {g : DG} {t : DT} {f : DE} {vs : List Nat} {Q : List D → DEnv → Prop} {items acc : List D} {e : DEnv} {tg : Tag (g, t, f, vs, Q)} (I : Nat → List D → DEnv → Prop) (h0 : I 0 acc e)
    (st : ∀ i d acc e (K : List D → DEnv → Prop), items[i]? = some d → I i acc e → (∀ acc' e', I (i + 1) acc' e' → K acc' e') →
      g (.fz d) e fun e1 => t e1 fun k e2 => if k = true then f e2 fun r e3 => bnd (frz e3 r) fun p => K (acc ++ [p.1]) (wipeE p.2 vs) else K acc (wipeE e2 vs))
    (h : ∀ acc e, I items.length acc e → Q acc e) : lcLT g t f vs Q items acc e tg := by
  refine lcL_inv I items acc e h0 (fun i d acc e K hd hi hk => ?_) h
  have := st i d acc e K hd hi hk
  simp only [ex2p_bnd]
  exact this
def okS : Option (Kd × D) → Bool
  | some (.io, _) => false
  | _ => true
def okO : Option (Option (Kd × D)) → Bool
  | some x => okS x
  | none => false
theorem okSlot_eq {e : DEnv} {i : Nat} : okSlot e i = okO e[i]? := by
  unfold okSlot
  cases e[i]? with
  | none => rfl
  | some x =>
    cases x with
    | none => rfl
    | some p => obtain ⟨k, d⟩ := p; cases k <;> rfl
theorem okO_some {x : Option (Kd × D)} : okO (some x) = okS x := rfl
theorem okS_fz {d : D} : okS (some (.fz, d)) = true := rfl
theorem okS_ow {d : D} : okS (some (.ow, d)) = true := rfl
theorem okS_sc {d : D} : okS (some (.sc, d)) = true := rfl
theorem okS_none : okS none = true := rfl
theorem gIs_bb {neg : Bool} {a b : Bool} {Q : Out → Prop} : gIs neg (.bool a) (.bool b) Q = Q (.val (.bool (if neg then !decide (a = b) else decide (a = b)))) := rfl
theorem gIs_none {neg : Bool} {d : D} {Q : Out → Prop} : gIs neg d .none Q = Q (.val (.bool (if neg then !(PyData.eqv d .none) else PyData.eqv d .none))) := by cases d <;> rfl
theorem eqv_int {a b : Int} : PyData.eqv (.int a) (.int b) = (a == b) := by simp [PyData.eqv]
theorem eqv_str {a b : Str} : PyData.eqv (.str a) (.str b) = (a == b) := by simp [PyData.eqv]
theorem eqv_bool {a b : Bool} : PyData.eqv (.bool a) (.bool b) = (a == b) := by simp [PyData.eqv]
theorem eqOk_int {a b : Int} : eqOk (.int a) (.int b) = True := rfl
theorem eqOk_str {a b : Str} : eqOk (.str a) (.str b) = True := rfl
theorem eqOk_bool {a b : Bool} : eqOk (.bool a) (.bool b) = True := rfl
theorem eqOk_ns {a : Str} : eqOk .none (.str a) = True := rfl
theorem eqOk_sn {a : Str} : eqOk (.str a) .none = True := rfl
theorem eqOk_nn : eqOk .none .none = True := rfl
theorem eqOk_ni {a : Int} : eqOk .none (.int a) = True := rfl
theorem eqOk_in {a : Int} : eqOk (.int a) .none = True := rfl
theorem eqOk_si {a : Str} {b : Int} : eqOk (.str a) (.int b) = True := rfl
theorem eqOk_is {a : Str} {b : Int} : eqOk (.int b) (.str a) = True := rfl
theorem eqv_ns {a : Str} : PyData.eqv .none (.str a) = false := by simp [PyData.eqv]
theorem eqv_sn {a : Str} : PyData.eqv (.str a) .none = false := by simp [PyData.eqv]
theorem eqv_nn : PyData.eqv .none .none = true := by simp [PyData.eqv]
theorem eqv_ni {a : Int} : PyData.eqv .none (.int a) = false := by simp [PyData.eqv]
theorem eqv_in {a : Int} : PyData.eqv (.int a) .none = false := by simp [PyData.eqv]
theorem eqv_si {a : Str} {b : Int} : PyData.eqv (.str a) (.int b) = false := by simp [PyData.eqv]
theorem eqv_is {a : Str} {b : Int} : PyData.eqv (.int b) (.str a) = false := by simp [PyData.eqv]
theorem cut_head {z : Str} {k : Int} (h0 : 0 ≤ k) : (cutS z none (some k)).cps.toList = z.cps.toList.take k.toNat := by
  unfold cutS HT.sIx
  dsimp only
  rw [if_neg (by omega)]
  show ((z.cps.toList.drop 0).take (min k.toNat z.length - 0)).toArray.toList = _
  rw [List.toList_toArray, List.drop_zero, Nat.sub_zero, slen]
  by_cases h : k.toNat ≤ z.cps.toList.length
  · rw [Nat.min_eq_left h]
  · rw [Nat.min_eq_right (by omega), List.take_length, List.take_of_length_le (by omega)]
theorem cut_tail {z : Str} {k : Int} (h0 : 0 ≤ k) : (cutS z (some k) none).cps.toList = z.cps.toList.drop k.toNat := by
  unfold cutS HT.sIx
  dsimp only
  rw [if_neg (by omega)]
  show ((z.cps.toList.drop (min k.toNat z.length)).take (z.length - min k.toNat z.length)).toArray.toList = _
  rw [List.toList_toArray, slen]
  by_cases h : k.toNat ≤ z.cps.toList.length
  · rw [Nat.min_eq_left h, List.take_of_length_le (by rw [List.length_drop]; omega)]
  · rw [Nat.min_eq_right (by omega), List.drop_length, List.drop_of_length_le (by omega)]; simp
theorem gIn_one {neg : Bool} {c : Nat} {z : Str} {Q : Out → Prop} : gIn neg (.str ⟨#[c]⟩) (.str z) Q = Q (.val (.bool (if neg then !decide (c ∈ z.cps.toList) else decide (c ∈ z.cps.toList)))) := by
  apply propext
  constructor
  · rintro ⟨c', h, w⟩
    injection h with h
    injection h with h
    have : c = c' := by simpa using h
    subst this
    exact w
  · intro w; exact ⟨c, rfl, w⟩
end PL
set_option Elab.async false
set_option linter.all false
set_option autoImplicit false
set_option maxRecDepth 100000
set_option maxHeartbeats 0
namespace K01
open PySem PySem.Spec PyProof.Rows L2 PL
/-- if _law_box_here[0] > 0: -/
def w__law_take_0 : DS := wIf (wT (w2 gGt (w2 gIx (wVar 0) (wC (.int 0))) (wC (.int 0)))) (wSeq (wAsg (w2 gMod (w2 gIx (wVar 0) (wC (.int 0))) (wVar 1)) (asgn 2)) (wSeq (wAsg (w2 gDiv (w2 gIx (wVar 0) (wC (.int 0))) (wVar 1)) (wGSub gSetL (wVar 0) (wC (.int 0)))) (wRet (wVar 2)))) (wNext)
/-- _law_box_here[2] = _law_b -/
def w__law_take_1 : DS := wAsg (w2 gAdd (w2 gIx (wVar 0) (wC (.int 2))) (wC (.int 1))) (wGSub gSetL (wVar 0) (wC (.int 2)))
/-- _law_once = (_law_box_her -/
def w__law_take_2 : DS := wAsg (w2 gMod (w2 gPow (w2 gAdd (w2 gIx (wVar 0) (wC (.int 1))) (w2 gMul (wC (.int 39373)) (w2 gIx (wVar 0) (wC (.int 2))))) (wC (.int 5))) (wC (.int 2147483647))) (asgn 3)
/-- return (_law_once * (_law -/
def w__law_take_3 : DS := wRet (w2 gMod (w2 gDiv (w2 gMod (w2 gAdd (w2 gMul (wVar 3) (w2 gAdd (w2 gMod (wVar 3) (wC (.int 40009))) (wC (.int 7)))) (w2 gMul (w2 gIx (wVar 0) (wC (.int 2))) (wC (.int 7919)))) (wC (.int 2147483629))) (wC (.int 64))) (wVar 1))
def w__law_take : DS := wSeq w__law_take_0 (wSeq w__law_take_1 (wSeq w__law_take_2 (w__law_take_3)))
/-- slots: 0 _law_box_here 1 _law_many 2 _law_found 3 _law_once -/
def g__law_take : DSp := gOfB [.io, .fz] 2 w__law_take
/-- _law_signs = ' !"#$&\'()* -/
def w__law_bent_0 : DS := wAsg (wC (.str (PySem.Str.ofString " !\"#$&'()*+,-./0123456789:;<=>?@ABCDEFGHIJKLMNOPQRSTUVWXYZ[\\]^_`abcdefghijklmnopqrstuvwxyz{|}~\n\t"))) (asgn 2)
/-- _law_sign, _law_at = (_la -/
def w__law_bent_1 : DS := wPar 3 4 (wCons (w2 gIx (wVar 2) (wCall [.io, .fz] g__law_take (wCons (wVar 0) (wCons (wN (g1 gLen) (wCons (wVar 2) (wNil))) (wNil))))) (wCons (wCall [.io, .fz] g__law_take (wCons (wVar 0) (wCons (w2 gAdd (wN (g1 gLen) (wCons (wVar 1) (wNil))) (wC (.int 1))) (wNil)))) (wNil)))
/-- _law_ahead, _law_behind = -/
def w__law_bent_2 : DS := wPar 5 6 (wCons (wSl gSl (wVar 1) (wNoPart) (wPart (wVar 4))) (wCons (wSl gSl (wVar 1) (wPart (wVar 4)) (wNoPart)) (wNil)))
/-- _law_some = [_law_ahead + -/
def w__law_bent_3 : DS := wAsg (wLst (wCons (w2 gAdd (w2 gAdd (wVar 5) (wVar 3)) (wVar 6)) (wCons (w2 gAdd (w2 gAdd (wVar 5) (wVar 3)) (wSl gSl (wVar 6) (wPart (wC (.int 1))) (wNoPart))) (wCons (w2 gAdd (wVar 5) (wSl gSl (wVar 6) (wPart (wC (.int 1))) (wNoPart))) (wCons (w2 gAdd (w2 gAdd (wVar 5) (wSl gSl (wVar 6) (wNoPart) (wPart (wC (.int 1))))) (wVar 6)) (wNil)))))) (asgn 7)
/-- return (_law_some + [_law -/
def w__law_bent_4 : DS := wRet (w2 gIx (w2 gAdd (wVar 7) (wLst (wCons (wM isS gUpper (wVar 1) (wNil)) (wCons (w2 gAdd (wVar 1) (wVar 3)) (wNil))))) (wCall [.io, .fz] g__law_take (wCons (wVar 0) (wCons (wC (.int 6)) (wNil)))))
def w__law_bent : DS := wSeq w__law_bent_0 (wSeq w__law_bent_1 (wSeq w__law_bent_2 (wSeq w__law_bent_3 (w__law_bent_4))))
/-- slots: 0 _law_box_here 1 _law_name_here 2 _law_signs 3 _law_sign 4 _law_at 5 _law_ahead 6 _law_behind 7 _law_some -/
def g__law_bent : DSp := gOfB [.io, .fz] 6 w__law_bent
/-- _law_cell = 0 -/
def w__law_box_0 : DS := wAsg (wC (.int 0)) (asgn 2)
/-- if _law_k < len(_law_scri -/
def w__law_box_1 : DS := wIf (wT (w2 gLt (wVar 1) (wLenSc 0))) (wAsg (wIxSc 0 (wVar 1)) (asgn 2)) (wNext)
/-- return [abs(_law_cell) *  -/
def w__law_box_2 : DS := wRet (wLst (wCons (w2 gMul (wN (g1 gAbs) (wCons (wVar 2) (wNil))) (wN (g1 gInt) (wCons (w2 gGe (wN (g1 gAbs) (wCons (wVar 2) (wNil))) (w2 gPow (wC (.int 10)) (wC (.int 18)))) (wNil)))) (wCons (w2 gAdd (w2 gAdd (w2 gMod (wVar 2) (wC (.int 2147483629))) (w2 gMul (wC (.int 7919)) (wVar 1))) (wC (.int 11))) (wCons (wC (.int 0)) (wNil)))))
def w__law_box : DS := wSeq w__law_box_0 (wSeq w__law_box_1 (w__law_box_2))
/-- slots: 0 _law_script 1 _law_k 2 _law_cell -/
def g__law_box : DSp := gOfB [.sc, .fz] 1 w__law_box
/-- _law_letters = 'abcdefghi -/
def w__law_name_0 : DS := wAsg (wC (.str (PySem.Str.ofString "abcdefghijklmnopqrstuvwxyz"))) (asgn 1)
/-- _law_size = [1, 8, 1 + _l -/
def w__law_name_1 : DS := wAsg (w2 gIx (wLst (wCons (wC (.int 1)) (wCons (wC (.int 8)) (wCons (w2 gAdd (wC (.int 1)) (wCall [.io, .fz] g__law_take (wCons (wVar 0) (wCons (wC (.int 8)) (wNil))))) (wNil))))) (wCall [.io, .fz] g__law_take (wCons (wVar 0) (wCons (wC (.int 3)) (wNil))))) (asgn 2)
/-- return ''.join([_law_lett -/
def w__law_name_2 : DS := wRet (wM isS gJoin (wC (.str (PySem.Str.ofString ""))) (wCons (wLc (wRng1 (wCons (wVar 2) (wNil))) (asgn 3) (wYes) (w2 gIx (wVar 1) (wCall [.io, .fz] g__law_take (wCons (wVar 0) (wCons (wC (.int 26)) (wNil))))) [3]) (wNil)))
def w__law_name : DS := wSeq w__law_name_0 (wSeq w__law_name_1 (w__law_name_2))
/-- slots: 0 _law_box_here 1 _law_letters 2 _law_size 3 _law_k -/
def g__law_name : DSp := gOfB [.io] 3 w__law_name
/-- if not isinstance(_law_th -/
def w__law_is_0 : DS := wIf (wNotT (wTru (wIsi "str" (wVar 0)))) (wRet (wC (.bool false))) (wNext)
/-- _law_many = sum([_law_thi -/
def w__law_is_1 : DS := wAsg (wN (g1 gSum) (wCons (wLc (wIt (wC (.str (PySem.Str.ofString "abcdefghijklmnopqrstuvwxyz")))) (asgn 2) (wYes) (wM isS gCount (wVar 0) (wCons (wVar 2) (wNil))) [2]) (wNil))) (asgn 1)
/-- return 0 < _law_many < 9  -/
def w__law_is_2 : DS := wRet (wAndV (wChain gLt gLt (wC (.int 0)) (wVar 1) (wC (.int 9))) (w2 gEq (wVar 1) (wN (g1 gLen) (wCons (wVar 0) (wNil)))))
def w__law_is : DS := wSeq w__law_is_0 (wSeq w__law_is_1 (w__law_is_2))
/-- slots: 0 _law_thing 1 _law_many 2 _law_letter -/
def g__law_is : DSp := gOfB [.fz] 2 w__law_is
/-- if not isinstance(thing,  -/
def w_is_name_0 : DS := wIf (wOrT (wNotT (wTru (wIsi "str" (wVar 0)))) (wNotT (wT (wChain gLe gLe (wC (.int 1)) (wN (g1 gLen) (wCons (wVar 0) (wNil))) (wC (.int 8)))))) (wRet (wC (.bool false))) (wNext)
/-- return all([sign in LETTE -/
def w_is_name_1 : DS := wRet (wN (g1 gAll) (wCons (wLc (wIt (wVar 0)) (asgn 1) (wYes) (w2 (gIn false) (wVar 1) (wC (.str (PySem.Str.ofString "abcdefghijklmnopqrstuvwxyz")))) [1]) (wNil)))
def w_is_name : DS := wSeq w_is_name_0 (w_is_name_1)
/-- slots: 0 thing 1 sign -/
def g_is_name : DSp := gOfB [.fz] 1 w_is_name
/-- _law_kept = repr(_law_thi -/
def w__law_right_0 : DS := wAsg (wN (g1 gRepr) (wCons (wVar 0) (wNil))) (asgn 1)
/-- _law_found = [is_name(_la -/
def w__law_right_1 : DS := wAsg (wLst (wCons (wCall [.fz] g_is_name (wCons (wVar 0) (wNil))) (wCons (wCall [.fz] g_is_name (wCons (wVar 0) (wNil))) (wNil)))) (asgn 2)
/-- return _law_found == [_la -/
def w__law_right_2 : DS := wRet (wAndV (w2 gEq (wVar 2) (w2 gMul (wLst (wCons (wCall [.fz] g__law_is (wCons (wVar 0) (wNil))) (wNil))) (wC (.int 2)))) (wAndV (wN (g1 gAll) (wCons (wLc (wIt (wVar 2)) (asgn 3) (wYes) (wIsi "bool" (wVar 3)) [3]) (wNil))) (w2 gEq (wN (g1 gRepr) (wCons (wVar 0) (wNil))) (wVar 1))))
def w__law_right : DS := wSeq w__law_right_0 (wSeq w__law_right_1 (w__law_right_2))
/-- slots: 0 _law_thing 1 _law_kept 2 _law_found 3 _law_one -/
def g__law_right : DSp := gOfB [.fz] 3 w__law_right
def b_law_1 : DS := wDrop (wMut isL gAppend (wVar 4) (wCons (wCall [.io, .fz] g__law_bent (wCons (wVar 2) (wCons (wIfE (wAndT (wT (w2 gEq (w2 gMod (wVar 5) (wC (.int 3))) (wC (.int 2)))) (wTru (wIsi "str" (w2 gIx (wVar 4) (wNeg (wC (.int 1))))))) (w2 gIx (wVar 4) (wNeg (wC (.int 1)))) (wVar 3)) (wNil)))) (wNil)))
def b_law_2 : DS := wSeq (wAsg (wCall [.sc, .fz] g__law_box (wCons (wVar 0) (wCons (wVar 1) (wNil)))) (asgn 2)) (wSeq (wAsg (wCall [.io] g__law_name (wCons (wVar 2) (wNil))) (asgn 3)) (wSeq (wAsg (wLst (wCons (wVar 3) (wCons (wC (.str (PySem.Str.ofString ""))) (wCons (w2 gAdd (wVar 3) (wC (.str (PySem.Str.ofString "abcdefgh")))) (wCons (w2 gMul (wVar 3) (wC (.int 40))) (wCons (wLst (wCons (wVar 3) (wNil))) (wCons (wTup (wCons (wVar 3) (wNil))) (wCons (wTup (wCons (wVar 3) (wCons (wVar 3) (wNil)))) (wCons (wC .none) (wCons (wC (.bool true)) (wCons (wC (.bool false)) (wCons (wC (.int 0)) (wCons (wC (.int 7)) (wCons (wLst (wNil)) (wNil))))))))))))))) (asgn 4)) (wSeq (wFor (wRng1 (wCons (wC (.int 10)) (wNil))) (asgn 5) (b_law_1)) (wIf (wOrT (wNotT (wTru (wN (g1 gAll) (wCons (wLc (wIt (wVar 4)) (asgn 6) (wYes) (wCall [.fz] g__law_right (wCons (wVar 6) (wNil))) [6]) (wNil))))) (wT (w2 (gIs true) (wCall [.fz] g_is_name (wCons (wVar 3) (wNil))) (wC (.bool true))))) (wRet (wC (.bool false))) (wNext)))))
/-- for _law_k in range(1 + m -/
def w_law_0 : DS := wFor (wRng1 (wCons (w2 gAdd (wC (.int 1)) (wN (g2 gMin2) (wCons (wC (.int 12)) (wCons (wLenSc 0) (wNil))))) (wNil))) (asgn 1) (b_law_2)
/-- return True -/
def w_law_1 : DS := wRet (wC (.bool true))
def w_law : DS := wSeq w_law_0 (w_law_1)
/-- slots: 0 _law_script 1 _law_k 2 _law_box_here 3 _law_name_here 4 _law_things 5 _law_turn 6 _law_thing -/
def g_law : DSp := gOfB [.sc] 6 w_law
end K01
set_option Elab.async false
set_option linter.all false
set_option autoImplicit false
set_option maxRecDepth 100000
set_option maxHeartbeats 0
namespace K01
open PySem PySem.Spec PyProof.Rows L2 PL
/-! ### the text -/
def top (i : Nat) : Stmt := PySem.Challenge.pw_rankseals_k01_names.main.body.getD i (.Pass ⟨0, 0, 0, 0⟩)
abbrev s__law_take : Stmt := top 6
abbrev s__law_bent : Stmt := top 10
abbrev s__law_box : Stmt := top 5
abbrev s__law_name : Stmt := top 9
abbrev s__law_is : Stmt := top 7
abbrev s_is_name : Stmt := top 3
abbrev s__law_right : Stmt := top 8
abbrev s_law : Stmt := top 11
abbrev FnP (K : PySem.W.Frag) (x : Str) (st : Stmt) (f : Addr) (fd : FuncData) : Prop := FunD K x x (defArgs st) (defBody st) (defScope st) [] [] f fd
structure Fx (K : PySem.W.Frag) (mg : Str → Option Value) where
  f__law_take : Addr
  d__law_take : FuncData
  F__law_take : FnP K (PySem.Str.ofString "_law_take") s__law_take f__law_take d__law_take
  g__law_take : mg (PySem.Str.ofString "_law_take") = some (.ref f__law_take)
  f__law_bent : Addr
  d__law_bent : FuncData
  F__law_bent : FnP K (PySem.Str.ofString "_law_bent") s__law_bent f__law_bent d__law_bent
  g__law_bent : mg (PySem.Str.ofString "_law_bent") = some (.ref f__law_bent)
  f__law_box : Addr
  d__law_box : FuncData
  F__law_box : FnP K (PySem.Str.ofString "_law_box") s__law_box f__law_box d__law_box
  g__law_box : mg (PySem.Str.ofString "_law_box") = some (.ref f__law_box)
  f__law_name : Addr
  d__law_name : FuncData
  F__law_name : FnP K (PySem.Str.ofString "_law_name") s__law_name f__law_name d__law_name
  g__law_name : mg (PySem.Str.ofString "_law_name") = some (.ref f__law_name)
  f__law_is : Addr
  d__law_is : FuncData
  F__law_is : FnP K (PySem.Str.ofString "_law_is") s__law_is f__law_is d__law_is
  g__law_is : mg (PySem.Str.ofString "_law_is") = some (.ref f__law_is)
  f_is_name : Addr
  d_is_name : FuncData
  F_is_name : FnP K (PySem.Str.ofString "is_name") s_is_name f_is_name d_is_name
  g_is_name : mg (PySem.Str.ofString "is_name") = some (.ref f_is_name)
  f__law_right : Addr
  d__law_right : FuncData
  F__law_right : FnP K (PySem.Str.ofString "_law_right") s__law_right f__law_right d__law_right
  g__law_right : mg (PySem.Str.ofString "_law_right") = some (.ref f__law_right)
  f_law : Addr
  d_law : FuncData
  F_law : FnP K (PySem.Str.ofString "law") s_law f_law d_law
  g_law : mg (PySem.Str.ofString "law") = some (.ref f_law)
  k_LETTERS : Tok
  c_LETTERS : mg (PySem.Str.ofString "LETTERS") = some (.str (PySem.Str.ofString "abcdefghijklmnopqrstuvwxyz") k_LETTERS)
  k_LONGEST : Tok
  c_LONGEST : mg (PySem.Str.ofString "LONGEST") = some (.int 8 k_LONGEST)
  n_abs : mg (PySem.Str.ofString "abs") = none
  n_all : mg (PySem.Str.ofString "all") = none
  n_bool : mg (PySem.Str.ofString "bool") = none
  n_int : mg (PySem.Str.ofString "int") = none
  n_isinstance : mg (PySem.Str.ofString "isinstance") = none
  n_len : mg (PySem.Str.ofString "len") = none
  n_min : mg (PySem.Str.ofString "min") = none
  n_range : mg (PySem.Str.ofString "range") = none
  n_repr : mg (PySem.Str.ofString "repr") = none
  n_str : mg (PySem.Str.ofString "str") = none
  n_sum : mg (PySem.Str.ofString "sum") = none
section
variable {P : Program} {w : World} {K : PySem.W.Frag} {mg : Str → Option Value} {base : Heap}
theorem sc__law_take : FnScope [(PySem.Str.ofString "_law_box_here"), (PySem.Str.ofString "_law_many"), (PySem.Str.ofString "_law_found"), (PySem.Str.ofString "_law_once")] [(PySem.Str.ofString "_law_box_here"), (PySem.Str.ofString "_law_many")] (defScope s__law_take) := ⟨rfl, rfl, rfl, by decide +kernel, rfl, by decide +kernel, by decide +kernel⟩
theorem fss__law_take (T : Fx K mg) (cdv : Value) (Ar : Around) (out : List Env) (st : Shared) (H : Hp) (E : XK) (hG : (Ar.deeper (envOfC (PySem.Str.ofString "_law_take") (defScope s__law_take) st.heap.objs.size T.f__law_take cdv)).guards = some []) (rm : Room 0 (Ar.deeper (envOfC (PySem.Str.ofString "_law_take") (defScope s__law_take) st.heap.objs.size T.f__law_take cdv))) :
    FSs (cxOf CX0 P w K mg base [(PySem.Str.ofString "_law_box_here"), (PySem.Str.ofString "_law_many"), (PySem.Str.ofString "_law_found"), (PySem.Str.ofString "_law_once")] (PySem.Str.ofString "_law_take") (defScope s__law_take) T.f__law_take cdv Ar out st H E).nox (defBody s__law_take) w__law_take :=
  fss_cons (fs_if (ft_cmp op_gtA (g_cmp _ _) (fe_ix ix_seq g_ix (fe_var (pv 0)) (fe_int) (fun _ _ => rfl)) (fe_int) (nomark _)) (fss_cons (fs_set (i := 2) (fe_op op_mod g_mod (fe_ix ix_seq g_ix (fe_var (pv 0)) (fe_int) (fun _ _ => rfl)) (fe_var (pv 1))) sc__law_take.nd rfl (Or.inl rfl)) (fss_cons (fs_asg (fe_op op_fdiv g_div (fe_ix ix_seq g_ix (fe_var (pv 0)) (fe_int) (fun _ _ => rfl)) (fe_var (pv 1))) (fg_sub (fe_var (pv 0)) (fe_int) set_list g_setL)) (fss_one (fs_ret (fe_var (pv 2)))))) (fss_nil)) (fss_cons (fs_asg (fe_op op_addAll g_add (fe_ix ix_seq g_ix (fe_var (pv 0)) (fe_int) (fun _ _ => rfl)) (fe_int)) (fg_sub (fe_var (pv 0)) (fe_int) set_list g_setL)) (fss_cons (fs_set (i := 3) (fe_op op_mod g_mod (fe_op op_pow g_pow (fe_op op_addAll g_add (fe_ix ix_seq g_ix (fe_var (pv 0)) (fe_int) (fun _ _ => rfl)) (fe_op op_mulAll g_mul (fe_int) (fe_ix ix_seq g_ix (fe_var (pv 0)) (fe_int) (fun _ _ => rfl)))) (fe_int)) (fe_int)) sc__law_take.nd rfl (Or.inl rfl)) (fss_one (fs_ret (fe_op op_mod g_mod (fe_op op_fdiv g_div (fe_op op_mod g_mod (fe_op op_addAll g_add (fe_op op_mulAll g_mul (fe_var (pv 3)) (fe_op op_addAll g_add (fe_op op_mod g_mod (fe_var (pv 3)) (fe_int)) (fe_int))) (fe_op op_mulAll g_mul (fe_ix ix_seq g_ix (fe_var (pv 0)) (fe_int) (fun _ _ => rfl)) (fe_int))) (fe_int)) (fe_int)) (fe_var (pv 1)))))))
theorem ok__law_take (T : Fx K mg) : FnG P w K mg base CX0 1 T.f__law_take T.d__law_take [(PySem.Str.ofString "_law_box_here"), (PySem.Str.ofString "_law_many")] (spOf K [.io, .fz] g__law_take) :=
  FnG.of_data T.F__law_take sc__law_take rfl (fun cdv Ar out st H E hG rm => (fss__law_take T cdv Ar out st H E hG rm).nox) (fun _ _ _ q => q)
theorem gm__law_take (P : Program) (w : World) (base : Heap) (T : Fx K mg) : ∀ ds Q Q', (∀ r o, Q r o → Q' r o) → g__law_take ds Q → g__law_take ds Q' := fun ds Q Q' h q =>
  (fss__law_take (P := P) (w := w) (base := base) T .none callerA [] {} (fun _ => none) E0 rfl ((⟨rfl, by decide, by decide⟩ : Room 1 callerA).deeper _)).mono _ _ _ (ends_le h) q
theorem b__law_take (T : Fx K mg) : Binds K T.d__law_take [(PySem.Str.ofString "_law_box_here"), (PySem.Str.ofString "_law_many")] [] := T.F__law_take.bindsN fun _ _ _ _ _ _ us hl => match us, hl with | [_, _], _ => rfl
theorem sc__law_bent : FnScope [(PySem.Str.ofString "_law_box_here"), (PySem.Str.ofString "_law_name_here"), (PySem.Str.ofString "_law_signs"), (PySem.Str.ofString "_law_sign"), (PySem.Str.ofString "_law_at"), (PySem.Str.ofString "_law_ahead"), (PySem.Str.ofString "_law_behind"), (PySem.Str.ofString "_law_some")] [(PySem.Str.ofString "_law_box_here"), (PySem.Str.ofString "_law_name_here")] (defScope s__law_bent) := ⟨rfl, rfl, rfl, by decide +kernel, rfl, by decide +kernel, by decide +kernel⟩
theorem fss__law_bent (T : Fx K mg) (cdv : Value) (Ar : Around) (out : List Env) (st : Shared) (H : Hp) (E : XK) (hG : (Ar.deeper (envOfC (PySem.Str.ofString "_law_bent") (defScope s__law_bent) st.heap.objs.size T.f__law_bent cdv)).guards = some []) (rm : Room 1 (Ar.deeper (envOfC (PySem.Str.ofString "_law_bent") (defScope s__law_bent) st.heap.objs.size T.f__law_bent cdv))) :
    FSs (cxOf CX0 P w K mg base [(PySem.Str.ofString "_law_box_here"), (PySem.Str.ofString "_law_name_here"), (PySem.Str.ofString "_law_signs"), (PySem.Str.ofString "_law_sign"), (PySem.Str.ofString "_law_at"), (PySem.Str.ofString "_law_ahead"), (PySem.Str.ofString "_law_behind"), (PySem.Str.ofString "_law_some")] (PySem.Str.ofString "_law_bent") (defScope s__law_bent) T.f__law_bent cdv Ar out st H E).nox (defBody s__law_bent) w__law_bent :=
  fss_cons (fs_set (i := 2) (fe_str) sc__law_bent.nd rfl (Or.inl rfl)) (fss_cons (fs_par (i := 3) (j := 4) rfl sc__law_bent.nd rfl rfl (by decide) rfl rfl (fa_cons (fe_ix ix_seq g_ix (fe_var (pv 2)) (fe_call (ok__law_take T) (gm__law_take P w base T) hG (rm.mono (by decide)) rfl T.g__law_take T.F__law_take.kp (b__law_take T) pass0 (fa_cons (fe_var (pv 0)) (fa_cons (fe_callB (id := default) call_len g_len rfl T.n_len (by decide +kernel) (fa_cons (fe_var (pv 2)) (fa_nil))) (fa_nil)))) (fun _ _ => rfl)) (fa_cons (fe_call (ok__law_take T) (gm__law_take P w base T) hG (rm.mono (by decide)) rfl T.g__law_take T.F__law_take.kp (b__law_take T) pass0 (fa_cons (fe_var (pv 0)) (fa_cons (fe_op op_addAll g_add (fe_callB (id := default) call_len g_len rfl T.n_len (by decide +kernel) (fa_cons (fe_var (pv 1)) (fa_nil))) (fe_int)) (fa_nil)))) (fa_nil))) rfl) (fss_cons (fs_par (i := 5) (j := 6) rfl sc__law_bent.nd rfl rfl (by decide) rfl rfl (fa_cons (fe_slice sl_all g_sl (fe_var (pv 1)) (fo_none) (fo_some (fe_var (pv 4)))) (fa_cons (fe_slice sl_all g_sl (fe_var (pv 1)) (fo_some (fe_var (pv 4))) (fo_none)) (fa_nil))) rfl) (fss_cons (fs_set (i := 7) (fe_lst (fa_cons (fe_op op_addAll g_add (fe_op op_addAll g_add (fe_var (pv 5)) (fe_var (pv 3))) (fe_var (pv 6))) (fa_cons (fe_op op_addAll g_add (fe_op op_addAll g_add (fe_var (pv 5)) (fe_var (pv 3))) (fe_slice sl_all g_sl (fe_var (pv 6)) (fo_some (fe_int)) (fo_none))) (fa_cons (fe_op op_addAll g_add (fe_var (pv 5)) (fe_slice sl_all g_sl (fe_var (pv 6)) (fo_some (fe_int)) (fo_none))) (fa_cons (fe_op op_addAll g_add (fe_op op_addAll g_add (fe_var (pv 5)) (fe_slice sl_all g_sl (fe_var (pv 6)) (fo_none) (fo_some (fe_int)))) (fe_var (pv 6))) (fa_nil)))))) sc__law_bent.nd rfl (Or.inl rfl)) (fss_one (fs_ret (fe_ix ix_seq g_ix (fe_op op_addAll g_add (fe_var (pv 7)) (fe_lst (fa_cons (fe_bm0 PySem.F.plainAttrs_str PySem.F.slot_str_upper PySem.F.type_str_upper mt_upper g_upper (fe_var (pv 1))) (fa_cons (fe_op op_addAll g_add (fe_var (pv 1)) (fe_var (pv 3))) (fa_nil))))) (fe_call (ok__law_take T) (gm__law_take P w base T) hG (rm.mono (by decide)) rfl T.g__law_take T.F__law_take.kp (b__law_take T) pass0 (fa_cons (fe_var (pv 0)) (fa_cons (fe_int) (fa_nil)))) (fun _ _ => rfl)))))))
theorem ok__law_bent (T : Fx K mg) : FnG P w K mg base CX0 2 T.f__law_bent T.d__law_bent [(PySem.Str.ofString "_law_box_here"), (PySem.Str.ofString "_law_name_here")] (spOf K [.io, .fz] g__law_bent) :=
  FnG.of_data T.F__law_bent sc__law_bent rfl (fun cdv Ar out st H E hG rm => (fss__law_bent T cdv Ar out st H E hG rm).nox) (fun _ _ _ q => q)
theorem gm__law_bent (P : Program) (w : World) (base : Heap) (T : Fx K mg) : ∀ ds Q Q', (∀ r o, Q r o → Q' r o) → g__law_bent ds Q → g__law_bent ds Q' := fun ds Q Q' h q =>
  (fss__law_bent (P := P) (w := w) (base := base) T .none callerA [] {} (fun _ => none) E0 rfl ((⟨rfl, by decide, by decide⟩ : Room 2 callerA).deeper _)).mono _ _ _ (ends_le h) q
theorem b__law_bent (T : Fx K mg) : Binds K T.d__law_bent [(PySem.Str.ofString "_law_box_here"), (PySem.Str.ofString "_law_name_here")] [] := T.F__law_bent.bindsN fun _ _ _ _ _ _ us hl => match us, hl with | [_, _], _ => rfl
theorem sc__law_box : FnScope [(PySem.Str.ofString "_law_script"), (PySem.Str.ofString "_law_k"), (PySem.Str.ofString "_law_cell")] [(PySem.Str.ofString "_law_script"), (PySem.Str.ofString "_law_k")] (defScope s__law_box) := ⟨rfl, rfl, rfl, by decide +kernel, rfl, by decide +kernel, by decide +kernel⟩
theorem fss__law_box (T : Fx K mg) (cdv : Value) (Ar : Around) (out : List Env) (st : Shared) (H : Hp) (E : XK) (hG : (Ar.deeper (envOfC (PySem.Str.ofString "_law_box") (defScope s__law_box) st.heap.objs.size T.f__law_box cdv)).guards = some []) (rm : Room 0 (Ar.deeper (envOfC (PySem.Str.ofString "_law_box") (defScope s__law_box) st.heap.objs.size T.f__law_box cdv))) :
    FSs (cxOf CX0 P w K mg base [(PySem.Str.ofString "_law_script"), (PySem.Str.ofString "_law_k"), (PySem.Str.ofString "_law_cell")] (PySem.Str.ofString "_law_box") (defScope s__law_box) T.f__law_box cdv Ar out st H E).nox (defBody s__law_box) w__law_box :=
  fss_cons (fs_set (i := 2) (fe_int) sc__law_box.nd rfl (Or.inl rfl)) (fss_cons (fs_if (ft_cmp op_ltA (g_cmp _ _) (fe_var (pv 1)) (fe_lenSc (pv 0) rfl T.n_len) (nomark _)) (fss_one (fs_set (i := 2) (fe_ixSc (pv 0) (fe_var (pv 1)) (fun _ _ => rfl)) sc__law_box.nd rfl (Or.inl rfl))) (fss_nil)) (fss_one (fs_ret (fe_lst (fa_cons (fe_op op_mulAll g_mul (fe_callB (id := default) call_abs g_abs rfl T.n_abs (by decide +kernel) (fa_cons (fe_var (pv 2)) (fa_nil))) (fe_callTy call_int1 g_int rfl T.n_int (by decide +kernel) (fa_cons (fe_cmp op_geA (g_cmp _ _) (fe_callB (id := default) call_abs g_abs rfl T.n_abs (by decide +kernel) (fa_cons (fe_var (pv 2)) (fa_nil))) (fe_op op_pow g_pow (fe_int) (fe_int)) (nomark _)) (fa_nil)))) (fa_cons (fe_op op_addAll g_add (fe_op op_addAll g_add (fe_op op_mod g_mod (fe_var (pv 2)) (fe_int)) (fe_op op_mulAll g_mul (fe_int) (fe_var (pv 1)))) (fe_int)) (fa_cons (fe_int) (fa_nil))))))))
theorem ok__law_box (T : Fx K mg) : FnG P w K mg base CX0 1 T.f__law_box T.d__law_box [(PySem.Str.ofString "_law_script"), (PySem.Str.ofString "_law_k")] (spOf K [.sc, .fz] g__law_box) :=
  FnG.of_data T.F__law_box sc__law_box rfl (fun cdv Ar out st H E hG rm => (fss__law_box T cdv Ar out st H E hG rm).nox) (fun _ _ _ q => q)
theorem gm__law_box (P : Program) (w : World) (base : Heap) (T : Fx K mg) : ∀ ds Q Q', (∀ r o, Q r o → Q' r o) → g__law_box ds Q → g__law_box ds Q' := fun ds Q Q' h q =>
  (fss__law_box (P := P) (w := w) (base := base) T .none callerA [] {} (fun _ => none) E0 rfl ((⟨rfl, by decide, by decide⟩ : Room 1 callerA).deeper _)).mono _ _ _ (ends_le h) q
theorem b__law_box (T : Fx K mg) : Binds K T.d__law_box [(PySem.Str.ofString "_law_script"), (PySem.Str.ofString "_law_k")] [] := T.F__law_box.bindsN fun _ _ _ _ _ _ us hl => match us, hl with | [_, _], _ => rfl
theorem sc__law_name : FnScope [(PySem.Str.ofString "_law_box_here"), (PySem.Str.ofString "_law_letters"), (PySem.Str.ofString "_law_size"), (PySem.Str.ofString "_law_k")] [(PySem.Str.ofString "_law_box_here")] (defScope s__law_name) := ⟨rfl, rfl, rfl, by decide +kernel, rfl, by decide +kernel, by decide +kernel⟩
theorem fss__law_name (T : Fx K mg) (cdv : Value) (Ar : Around) (out : List Env) (st : Shared) (H : Hp) (E : XK) (hG : (Ar.deeper (envOfC (PySem.Str.ofString "_law_name") (defScope s__law_name) st.heap.objs.size T.f__law_name cdv)).guards = some []) (rm : Room 1 (Ar.deeper (envOfC (PySem.Str.ofString "_law_name") (defScope s__law_name) st.heap.objs.size T.f__law_name cdv))) :
    FSs (cxOf CX0 P w K mg base [(PySem.Str.ofString "_law_box_here"), (PySem.Str.ofString "_law_letters"), (PySem.Str.ofString "_law_size"), (PySem.Str.ofString "_law_k")] (PySem.Str.ofString "_law_name") (defScope s__law_name) T.f__law_name cdv Ar out st H E).nox (defBody s__law_name) w__law_name :=
  fss_cons (fs_set (i := 1) (fe_str) sc__law_name.nd rfl (Or.inr rfl)) (fss_cons (fs_set (i := 2) (fe_ix ix_seq g_ix (fe_lst (fa_cons (fe_int) (fa_cons (fe_int) (fa_cons (fe_op op_addAll g_add (fe_int) (fe_call (ok__law_take T) (gm__law_take P w base T) hG (rm.mono (by decide)) rfl T.g__law_take T.F__law_take.kp (b__law_take T) pass0 (fa_cons (fe_var (pv 0)) (fa_cons (fe_int) (fa_nil))))) (fa_nil))))) (fe_call (ok__law_take T) (gm__law_take P w base T) hG (rm.mono (by decide)) rfl T.g__law_take T.F__law_take.kp (b__law_take T) pass0 (fa_cons (fe_var (pv 0)) (fa_cons (fe_int) (fa_nil)))) (fun _ _ => rfl)) sc__law_name.nd rfl (Or.inl rfl)) (fss_one (fs_ret (fe_bm PySem.F.plainAttrs_str PySem.F.slot_str_join PySem.F.type_str_join mt_join g_join (fe_str) (fa_cons (fe_lc (own := [((PySem.Str.ofString "_law_k"), 3)]) rfl sc__law_name.nd (fi_range1 rfl T.n_range (fa_cons (fe_var (pv 2)) (fa_nil))) (blkOk_by (by kernel_rfl)) (fun _ _ _ _ _ => fg_name (pg_name (i := 3) sc__law_name.nd rfl (Or.inl rfl))) (fun _ _ _ _ _ => fts_nil) (fun _ _ _ _ _ => fe_ix ix_seq g_ix (fe_var (pv 1)) (fe_call (ok__law_take T) (gm__law_take P w base T) hG (rm.mono (by decide)) rfl T.g__law_take T.F__law_take.kp (b__law_take T) pass0 (fa_cons (fe_var (pv 0)) (fa_cons (fe_int) (fa_nil)))) (fun _ _ => rfl)) (by decide)) (fa_nil))))))
theorem ok__law_name (T : Fx K mg) : FnG P w K mg base CX0 2 T.f__law_name T.d__law_name [(PySem.Str.ofString "_law_box_here")] (spOf K [.io] g__law_name) :=
  FnG.of_data T.F__law_name sc__law_name rfl (fun cdv Ar out st H E hG rm => (fss__law_name T cdv Ar out st H E hG rm).nox) (fun _ _ _ q => q)
theorem gm__law_name (P : Program) (w : World) (base : Heap) (T : Fx K mg) : ∀ ds Q Q', (∀ r o, Q r o → Q' r o) → g__law_name ds Q → g__law_name ds Q' := fun ds Q Q' h q =>
  (fss__law_name (P := P) (w := w) (base := base) T .none callerA [] {} (fun _ => none) E0 rfl ((⟨rfl, by decide, by decide⟩ : Room 2 callerA).deeper _)).mono _ _ _ (ends_le h) q
theorem b__law_name (T : Fx K mg) : Binds K T.d__law_name [(PySem.Str.ofString "_law_box_here")] [] := T.F__law_name.bindsN fun _ _ _ _ _ _ us hl => match us, hl with | [_], _ => rfl
theorem sc__law_is : FnScope [(PySem.Str.ofString "_law_thing"), (PySem.Str.ofString "_law_many"), (PySem.Str.ofString "_law_letter")] [(PySem.Str.ofString "_law_thing")] (defScope s__law_is) := ⟨rfl, rfl, rfl, by decide +kernel, rfl, by decide +kernel, by decide +kernel⟩
theorem fss__law_is (T : Fx K mg) (cdv : Value) (Ar : Around) (out : List Env) (st : Shared) (H : Hp) (E : XK) (hG : (Ar.deeper (envOfC (PySem.Str.ofString "_law_is") (defScope s__law_is) st.heap.objs.size T.f__law_is cdv)).guards = some []) (rm : Room 0 (Ar.deeper (envOfC (PySem.Str.ofString "_law_is") (defScope s__law_is) st.heap.objs.size T.f__law_is cdv))) :
    FSs (cxOf CX0 P w K mg base [(PySem.Str.ofString "_law_thing"), (PySem.Str.ofString "_law_many"), (PySem.Str.ofString "_law_letter")] (PySem.Str.ofString "_law_is") (defScope s__law_is) T.f__law_is cdv Ar out st H E).nox (defBody s__law_is) w__law_is :=
  fss_cons (fs_if (ft_not (ft_truth (fe_isi goodTys.1 rfl T.n_isinstance (fe_var (pv 0)) (pe_bltn rfl T.n_str (by decide +kernel) rfl)))) (fss_one (fs_ret (fe_bl))) (fss_nil)) (fss_cons (fs_set (i := 1) (fe_callB (id := default) (cr_sum rfl) g_sum rfl T.n_sum (by decide +kernel) (fa_cons (fe_lc (own := [((PySem.Str.ofString "_law_letter"), 2)]) rfl sc__law_is.nd (fi_any (fe_str)) (blkOk_by (by kernel_rfl)) (fun _ _ _ _ _ => fg_name (pg_name (i := 2) sc__law_is.nd rfl (Or.inl rfl))) (fun _ _ _ _ _ => fts_nil) (fun _ _ _ _ _ => fe_bm PySem.F.plainAttrs_str PySem.F.slot_str_count PySem.F.type_str_count mt_count g_count (fe_var (pv 0)) (fa_cons (fe_var (pv 2)) (fa_nil))) (by decide)) (fa_nil))) sc__law_is.nd rfl (Or.inl rfl)) (fss_one (fs_ret (fe_and (fe_chain op_ltA op_ltA (g_cmp _ _) (g_cmp _ _) (fe_int) (fe_var (pv 1)) (fe_int)) (fe_one (fe_cmp (op_eqA (hu64 rm)) g_eq (fe_var (pv 1)) (fe_callB (id := default) call_len g_len rfl T.n_len (by decide +kernel) (fa_cons (fe_var (pv 0)) (fa_nil))) (nomark _)))))))
theorem ok__law_is (T : Fx K mg) : FnG P w K mg base CX0 1 T.f__law_is T.d__law_is [(PySem.Str.ofString "_law_thing")] (spOf K [.fz] g__law_is) :=
  FnG.of_data T.F__law_is sc__law_is rfl (fun cdv Ar out st H E hG rm => (fss__law_is T cdv Ar out st H E hG rm).nox) (fun _ _ _ q => q)
theorem gm__law_is (P : Program) (w : World) (base : Heap) (T : Fx K mg) : ∀ ds Q Q', (∀ r o, Q r o → Q' r o) → g__law_is ds Q → g__law_is ds Q' := fun ds Q Q' h q =>
  (fss__law_is (P := P) (w := w) (base := base) T .none callerA [] {} (fun _ => none) E0 rfl ((⟨rfl, by decide, by decide⟩ : Room 1 callerA).deeper _)).mono _ _ _ (ends_le h) q
theorem b__law_is (T : Fx K mg) : Binds K T.d__law_is [(PySem.Str.ofString "_law_thing")] [] := T.F__law_is.bindsN fun _ _ _ _ _ _ us hl => match us, hl with | [_], _ => rfl
theorem sc_is_name : FnScope [(PySem.Str.ofString "thing"), (PySem.Str.ofString "sign")] [(PySem.Str.ofString "thing")] (defScope s_is_name) := ⟨rfl, rfl, rfl, by decide +kernel, rfl, by decide +kernel, by decide +kernel⟩
theorem fss_is_name (T : Fx K mg) (cdv : Value) (Ar : Around) (out : List Env) (st : Shared) (H : Hp) (E : XK) (hG : (Ar.deeper (envOfC (PySem.Str.ofString "is_name") (defScope s_is_name) st.heap.objs.size T.f_is_name cdv)).guards = some []) (rm : Room 0 (Ar.deeper (envOfC (PySem.Str.ofString "is_name") (defScope s_is_name) st.heap.objs.size T.f_is_name cdv))) :
    FSs (cxOf CX0 P w K mg base [(PySem.Str.ofString "thing"), (PySem.Str.ofString "sign")] (PySem.Str.ofString "is_name") (defScope s_is_name) T.f_is_name cdv Ar out st H E).nox (defBody s_is_name) w_is_name :=
  fss_cons (fs_if (FW.ft (fw_or (ft_not (ft_truth (fe_isi goodTys.1 rfl T.n_isinstance (fe_var (pv 0)) (pe_bltn rfl T.n_str (by decide +kernel) rfl)))) (fw_or1 (ft_not (ft_chain op_leA op_leA (g_cmp _ _) (g_cmp _ _) (fe_int) (fe_callB (id := default) call_len g_len rfl T.n_len (by decide +kernel) (fa_cons (fe_var (pv 0)) (fa_nil))) (fe_glob (v := .int 8) rfl T.c_LONGEST ⟨_, rfl⟩ (fun _ => fzi.mpr rfl))))))) (fss_one (fs_ret (fe_bl))) (fss_nil)) (fss_one (fs_ret (fe_callB (id := default) (cr_all rfl) (g_bools _) rfl T.n_all (by decide +kernel) (fa_cons (fe_lc (own := [((PySem.Str.ofString "sign"), 1)]) rfl sc_is_name.nd (fi_any (fe_var (pv 0))) (blkOk_by (by kernel_rfl)) (fun _ _ _ _ _ => fg_name (pg_name (i := 1) sc_is_name.nd rfl (Or.inl rfl))) (fun _ _ _ _ _ => fts_nil) (fun _ _ _ _ _ => fe_cmp op_inA (g_in false) (fe_var (pv 1)) (fe_glob (v := .str (PySem.Str.ofString "abcdefghijklmnopqrstuvwxyz")) rfl T.c_LETTERS ⟨_, rfl⟩ (fun _ => fzs.mpr rfl)) (by rfl)) (by decide)) (fa_nil)))))
theorem ok_is_name (T : Fx K mg) : FnG P w K mg base CX0 1 T.f_is_name T.d_is_name [(PySem.Str.ofString "thing")] (spOf K [.fz] g_is_name) :=
  FnG.of_data T.F_is_name sc_is_name rfl (fun cdv Ar out st H E hG rm => (fss_is_name T cdv Ar out st H E hG rm).nox) (fun _ _ _ q => q)
theorem gm_is_name (P : Program) (w : World) (base : Heap) (T : Fx K mg) : ∀ ds Q Q', (∀ r o, Q r o → Q' r o) → g_is_name ds Q → g_is_name ds Q' := fun ds Q Q' h q =>
  (fss_is_name (P := P) (w := w) (base := base) T .none callerA [] {} (fun _ => none) E0 rfl ((⟨rfl, by decide, by decide⟩ : Room 1 callerA).deeper _)).mono _ _ _ (ends_le h) q
theorem b_is_name (T : Fx K mg) : Binds K T.d_is_name [(PySem.Str.ofString "thing")] [] := T.F_is_name.bindsN fun _ _ _ _ _ _ us hl => match us, hl with | [_], _ => rfl
theorem sc__law_right : FnScope [(PySem.Str.ofString "_law_thing"), (PySem.Str.ofString "_law_kept"), (PySem.Str.ofString "_law_found"), (PySem.Str.ofString "_law_one")] [(PySem.Str.ofString "_law_thing")] (defScope s__law_right) := ⟨rfl, rfl, rfl, by decide +kernel, rfl, by decide +kernel, by decide +kernel⟩
theorem fss__law_right (T : Fx K mg) (cdv : Value) (Ar : Around) (out : List Env) (st : Shared) (H : Hp) (E : XK) (hG : (Ar.deeper (envOfC (PySem.Str.ofString "_law_right") (defScope s__law_right) st.heap.objs.size T.f__law_right cdv)).guards = some []) (rm : Room 1 (Ar.deeper (envOfC (PySem.Str.ofString "_law_right") (defScope s__law_right) st.heap.objs.size T.f__law_right cdv))) :
    FSs (cxOf CX0 P w K mg base [(PySem.Str.ofString "_law_thing"), (PySem.Str.ofString "_law_kept"), (PySem.Str.ofString "_law_found"), (PySem.Str.ofString "_law_one")] (PySem.Str.ofString "_law_right") (defScope s__law_right) T.f__law_right cdv Ar out st H E).nox (defBody s__law_right) w__law_right :=
  fss_cons (fs_set (i := 1) (fe_callB (id := default) (call_repr hG (hu65 rm)) g_repr rfl T.n_repr (by decide +kernel) (fa_cons (fe_var (pv 0)) (fa_nil))) sc__law_right.nd rfl (Or.inl rfl)) (fss_cons (fs_set (i := 2) (fe_lst (fa_cons (fe_call (ok_is_name T) (gm_is_name P w base T) hG (rm.mono (by decide)) rfl T.g_is_name T.F_is_name.kp (b_is_name T) pass0 (fa_cons (fe_var (pv 0)) (fa_nil))) (fa_cons (fe_call (ok_is_name T) (gm_is_name P w base T) hG (rm.mono (by decide)) rfl T.g_is_name T.F_is_name.kp (b_is_name T) pass0 (fa_cons (fe_var (pv 0)) (fa_nil))) (fa_nil)))) sc__law_right.nd rfl (Or.inl rfl)) (fss_one (fs_ret (fe_and (fe_cmp (op_eqA (hu64 rm)) g_eq (fe_var (pv 2)) (fe_op op_mulAll g_mul (fe_lst (fa_cons (fe_call (ok__law_is T) (gm__law_is P w base T) hG (rm.mono (by decide)) rfl T.g__law_is T.F__law_is.kp (b__law_is T) pass0 (fa_cons (fe_var (pv 0)) (fa_nil))) (fa_nil))) (fe_int)) (nomark _)) (fe_and (fe_callB (id := default) (cr_all rfl) (g_bools _) rfl T.n_all (by decide +kernel) (fa_cons (fe_lc (own := [((PySem.Str.ofString "_law_one"), 3)]) rfl sc__law_right.nd (fi_any (fe_var (pv 2))) (blkOk_by (by kernel_rfl)) (fun _ _ _ _ _ => fg_name (pg_name (i := 3) sc__law_right.nd rfl (Or.inl rfl))) (fun _ _ _ _ _ => fts_nil) (fun _ _ _ _ _ => fe_isi goodTys.2.2.1 rfl T.n_isinstance (fe_var (pv 3)) (pe_bltn rfl T.n_bool (by decide +kernel) rfl)) (by decide)) (fa_nil))) (fe_one (fe_cmp (op_eqA (hu64 rm)) g_eq (fe_callB (id := default) (call_repr hG (hu65 rm)) g_repr rfl T.n_repr (by decide +kernel) (fa_cons (fe_var (pv 0)) (fa_nil))) (fe_var (pv 1)) (nomark _))))))))
theorem ok__law_right (T : Fx K mg) : FnG P w K mg base CX0 2 T.f__law_right T.d__law_right [(PySem.Str.ofString "_law_thing")] (spOf K [.fz] g__law_right) :=
  FnG.of_data T.F__law_right sc__law_right rfl (fun cdv Ar out st H E hG rm => (fss__law_right T cdv Ar out st H E hG rm).nox) (fun _ _ _ q => q)
theorem gm__law_right (P : Program) (w : World) (base : Heap) (T : Fx K mg) : ∀ ds Q Q', (∀ r o, Q r o → Q' r o) → g__law_right ds Q → g__law_right ds Q' := fun ds Q Q' h q =>
  (fss__law_right (P := P) (w := w) (base := base) T .none callerA [] {} (fun _ => none) E0 rfl ((⟨rfl, by decide, by decide⟩ : Room 2 callerA).deeper _)).mono _ _ _ (ends_le h) q
theorem b__law_right (T : Fx K mg) : Binds K T.d__law_right [(PySem.Str.ofString "_law_thing")] [] := T.F__law_right.bindsN fun _ _ _ _ _ _ us hl => match us, hl with | [_], _ => rfl
theorem sc_law : FnScope [(PySem.Str.ofString "_law_script"), (PySem.Str.ofString "_law_k"), (PySem.Str.ofString "_law_box_here"), (PySem.Str.ofString "_law_name_here"), (PySem.Str.ofString "_law_things"), (PySem.Str.ofString "_law_turn"), (PySem.Str.ofString "_law_thing")] [(PySem.Str.ofString "_law_script")] (defScope s_law) := ⟨rfl, rfl, rfl, by decide +kernel, rfl, by decide +kernel, by decide +kernel⟩
theorem fss_law (T : Fx K mg) (cdv : Value) (Ar : Around) (out : List Env) (st : Shared) (H : Hp) (E : XK) (hG : (Ar.deeper (envOfC (PySem.Str.ofString "law") (defScope s_law) st.heap.objs.size T.f_law cdv)).guards = some []) (rm : Room 2 (Ar.deeper (envOfC (PySem.Str.ofString "law") (defScope s_law) st.heap.objs.size T.f_law cdv))) :
    FSs (cxOf CX0 P w K mg base [(PySem.Str.ofString "_law_script"), (PySem.Str.ofString "_law_k"), (PySem.Str.ofString "_law_box_here"), (PySem.Str.ofString "_law_name_here"), (PySem.Str.ofString "_law_things"), (PySem.Str.ofString "_law_turn"), (PySem.Str.ofString "_law_thing")] (PySem.Str.ofString "law") (defScope s_law) T.f_law cdv Ar out st H E).nox (defBody s_law) w_law :=
  fss_cons (fs_for PassesOwn.never rfl (fi_range1 rfl T.n_range (fa_cons (fe_op op_addAll g_add (fe_int) (fe_callB (id := default) (call_min2 rfl) (g_i2 _) rfl T.n_min (by decide +kernel) (fa_cons (fe_int) (fa_cons (fe_lenSc (pv 0) rfl T.n_len) (fa_nil))))) (fa_nil))) (fg_name (pg_name (i := 1) sc_law.nd rfl (Or.inl rfl))) (fss_cons (fs_set (i := 2) (fe_call (ok__law_box T) (gm__law_box P w base T) hG (rm.mono (by decide)) rfl T.g__law_box T.F__law_box.kp (b__law_box T) pass0 (fa_cons (fe_var (pv 0)) (fa_cons (fe_var (pv 1)) (fa_nil)))) sc_law.nd rfl (Or.inl rfl)) (fss_cons (fs_set (i := 3) (fe_call (ok__law_name T) (gm__law_name P w base T) hG (rm.mono (by decide)) rfl T.g__law_name T.F__law_name.kp (b__law_name T) pass0 (fa_cons (fe_var (pv 2)) (fa_nil))) sc_law.nd rfl (Or.inl rfl)) (fss_cons (fs_set (i := 4) (fe_lst (fa_cons (fe_var (pv 3)) (fa_cons (fe_str) (fa_cons (fe_op op_addAll g_add (fe_var (pv 3)) (fe_str)) (fa_cons (fe_op op_mulAll g_mul (fe_var (pv 3)) (fe_int)) (fa_cons (fe_lst (fa_cons (fe_var (pv 3)) (fa_nil))) (fa_cons (fe_tup (fa_cons (fe_var (pv 3)) (fa_nil))) (fa_cons (fe_tup (fa_cons (fe_var (pv 3)) (fa_cons (fe_var (pv 3)) (fa_nil)))) (fa_cons (fe_non) (fa_cons (fe_bl) (fa_cons (fe_bl) (fa_cons (fe_int) (fa_cons (fe_int) (fa_cons (fe_lst (fa_nil)) (fa_nil))))))))))))))) sc_law.nd rfl (Or.inl rfl)) (fss_cons (fs_for PassesOwn.never rfl (fi_range1 rfl T.n_range (fa_cons (fe_int) (fa_nil))) (fg_name (pg_name (i := 5) sc_law.nd rfl (Or.inl rfl))) (fss_one (fs_expr (fe_mut PySem.F.plainAttrs_list PySem.F.slot_list_append PySem.F.type_list_append mt_append g_append (fe_var (pv 4)) (fa_cons (fe_call (ok__law_bent T) (gm__law_bent P w base T) hG (rm.mono (by decide)) rfl T.g__law_bent T.F__law_bent.kp (b__law_bent T) pass0 (fa_cons (fe_var (pv 2)) (fa_cons (fe_if (FW.ft (fw_and (ft_cmp (op_eqA (hu64 rm)) g_eq (fe_op op_mod g_mod (fe_var (pv 5)) (fe_int)) (fe_int) (nomark _)) (fw_and1 (ft_truth (fe_isi goodTys.1 rfl T.n_isinstance (fe_ix ix_seq g_ix (fe_var (pv 4)) (fe_neg (fe_int)) (fun _ _ => rfl)) (pe_bltn rfl T.n_str (by decide +kernel) rfl)))))) (fe_ix ix_seq g_ix (fe_var (pv 4)) (fe_neg (fe_int)) (fun _ _ => rfl)) (fe_var (pv 3))) (fa_nil)))) (fa_nil)))))) (fss_one (fs_if (FW.ft (fw_or (ft_not (ft_truth (fe_callB (id := default) (cr_all rfl) (g_bools _) rfl T.n_all (by decide +kernel) (fa_cons (fe_lc (own := [((PySem.Str.ofString "_law_thing"), 6)]) rfl sc_law.nd (fi_any (fe_var (pv 4))) (blkOk_by (by kernel_rfl)) (fun _ _ _ _ _ => fg_name (pg_name (i := 6) sc_law.nd rfl (Or.inl rfl))) (fun _ _ _ _ _ => fts_nil) (fun _ _ _ _ _ => fe_call (ok__law_right T) (gm__law_right P w base T) hG (rm.mono (by decide)) rfl T.g__law_right T.F__law_right.kp (b__law_right T) pass0 (fa_cons (fe_var (pv 6)) (fa_nil))) (by decide)) (fa_nil))))) (fw_or1 (ft_cmp op_isNotA (g_is true) (fe_call (ok_is_name T) (gm_is_name P w base T) hG (rm.mono (by decide)) rfl T.g_is_name T.F_is_name.kp (b_is_name T) pass0 (fa_cons (fe_var (pv 3)) (fa_nil))) (fe_bl) (nomark _))))) (fss_one (fs_ret (fe_bl))) (fss_nil)))))))) (fss_one (fs_ret (fe_bl)))
theorem ok_law (T : Fx K mg) : FnG P w K mg base CX0 3 T.f_law T.d_law [(PySem.Str.ofString "_law_script")] (spOf K [.sc] g_law) :=
  FnG.of_data T.F_law sc_law rfl (fun cdv Ar out st H E hG rm => (fss_law T cdv Ar out st H E hG rm).nox) (fun _ _ _ q => q)
theorem gm_law (P : Program) (w : World) (base : Heap) (T : Fx K mg) : ∀ ds Q Q', (∀ r o, Q r o → Q' r o) → g_law ds Q → g_law ds Q' := fun ds Q Q' h q =>
  (fss_law (P := P) (w := w) (base := base) T .none callerA [] {} (fun _ => none) E0 rfl ((⟨rfl, by decide, by decide⟩ : Room 3 callerA).deeper _)).mono _ _ _ (ends_le h) q
theorem b_law (T : Fx K mg) : Binds K T.d_law [(PySem.Str.ofString "_law_script")] [] := T.F_law.bindsN fun _ _ _ _ _ _ us hl => match us, hl with | [_], _ => rfl
end
end K01
set_option Elab.async false
set_option linter.all false
set_option autoImplicit false
set_option maxRecDepth 100000
set_option maxHeartbeats 0
namespace K01
open PySem PySem.Spec PyProof.Rows L2 PL
/-! ### the head -/
def D__law_take : He.DefD := ⟨((PySem.Str.ofString "_law_take"), none), (PySem.Str.ofString "_law_take"), (PySem.Str.ofString "_law_take"), defArgs s__law_take, defBody s__law_take, defScope s__law_take, [], []⟩
def D__law_bent : He.DefD := ⟨((PySem.Str.ofString "_law_bent"), none), (PySem.Str.ofString "_law_bent"), (PySem.Str.ofString "_law_bent"), defArgs s__law_bent, defBody s__law_bent, defScope s__law_bent, [], []⟩
def D__law_box : He.DefD := ⟨((PySem.Str.ofString "_law_box"), none), (PySem.Str.ofString "_law_box"), (PySem.Str.ofString "_law_box"), defArgs s__law_box, defBody s__law_box, defScope s__law_box, [], []⟩
def D__law_name : He.DefD := ⟨((PySem.Str.ofString "_law_name"), none), (PySem.Str.ofString "_law_name"), (PySem.Str.ofString "_law_name"), defArgs s__law_name, defBody s__law_name, defScope s__law_name, [], []⟩
def D__law_is : He.DefD := ⟨((PySem.Str.ofString "_law_is"), none), (PySem.Str.ofString "_law_is"), (PySem.Str.ofString "_law_is"), defArgs s__law_is, defBody s__law_is, defScope s__law_is, [], []⟩
def D_is_name : He.DefD := ⟨((PySem.Str.ofString "is_name"), none), (PySem.Str.ofString "is_name"), (PySem.Str.ofString "is_name"), defArgs s_is_name, defBody s_is_name, defScope s_is_name, [], []⟩
def D__law_right : He.DefD := ⟨((PySem.Str.ofString "_law_right"), none), (PySem.Str.ofString "_law_right"), (PySem.Str.ofString "_law_right"), defArgs s__law_right, defBody s__law_right, defScope s__law_right, [], []⟩
def D_law : He.DefD := ⟨((PySem.Str.ofString "law"), none), (PySem.Str.ofString "law"), (PySem.Str.ofString "law"), defArgs s_law, defBody s_law, defScope s_law, [], []⟩
def fn : List He.DefD := [D__law_take, D__law_bent, D__law_box, D__law_name, D__law_is, D_is_name, D__law_right, D_law]
def fa : List He.Fa := [.glo (PySem.Str.ofString "_law_take"), .glo (PySem.Str.ofString "_law_bent"), .glo (PySem.Str.ofString "_law_box"), .glo (PySem.Str.ofString "_law_name"), .glo (PySem.Str.ofString "_law_is"), .glo (PySem.Str.ofString "is_name"), .glo (PySem.Str.ofString "_law_right"), .glo (PySem.Str.ofString "law"), .str (PySem.Str.ofString "LETTERS") (PySem.Str.ofString "abcdefghijklmnopqrstuvwxyz"), .int (PySem.Str.ofString "LONGEST") 8, .free (PySem.Str.ofString "abs"), .free (PySem.Str.ofString "all"), .free (PySem.Str.ofString "bool"), .free (PySem.Str.ofString "int"), .free (PySem.Str.ofString "isinstance"), .free (PySem.Str.ofString "len"), .free (PySem.Str.ofString "min"), .free (PySem.Str.ofString "range"), .free (PySem.Str.ofString "repr"), .free (PySem.Str.ofString "str"), .free (PySem.Str.ofString "sum")]
abbrev R : PySem.W.OpenRow := PySem.W.OpenLaw.row PySem.Challenge.rw_rankseals_k01_names
abbrev hk : PySem.W.Hook := He.hookD 4 fa fn
def ob (s : PySem.W.SharedT) : He.AlD := He.obsDG 4 fa fn (HandSHeadRun.getT s)
theorem ob_eq (s : PySem.W.SharedT) : ob s = hk.obs s.abs := He.obsDG_eq (HandSHeadRun.getT_eq s)
theorem run (w : World) : HandSHeadRun.RunEq R (PySem.W.view R.prog [11]) hk ob 1120 ["LETTERS", "LONGEST", "is_name", "_law_box", "_law_take", "_law_is", "_law_right", "_law_name", "_law_bent"] w := by
  intro os
  kernel_rfl
theorem facts {P : Program} {w : World} {K : PySem.W.Frag} {h : Heap} {mg : Str → Option Value} {f : Addr} (X : K.In h) (G : h.Ns mainGlobals mg) (hfa : mg ("law" : Str) = some (.ref f)) (c : He.SaysD fa fn K) :
    ∃ fd : FuncData, (∀ (s : Shared) (v : Value), BindsTo s fd ⟨[v], []⟩ [((PySem.Str.ofString "_law_script"), v)]) ∧ ∀ base : Heap, K.In base → base.Ns mainGlobals mg → FnG P w K mg base CX0 3 f fd [(PySem.Str.ofString "_law_script")] (spLaw K g_law) := by
  obtain ⟨d0, F0⟩ := c.def_ 0 (d := D__law_take) rfl
  obtain ⟨d1, F1⟩ := c.def_ 1 (d := D__law_bent) rfl
  obtain ⟨d2, F2⟩ := c.def_ 2 (d := D__law_box) rfl
  obtain ⟨d3, F3⟩ := c.def_ 3 (d := D__law_name) rfl
  obtain ⟨d4, F4⟩ := c.def_ 4 (d := D__law_is) rfl
  obtain ⟨d5, F5⟩ := c.def_ 5 (d := D_is_name) rfl
  obtain ⟨d6, F6⟩ := c.def_ 6 (d := D__law_right) rfl
  obtain ⟨d7, F7⟩ := c.def_ 7 (d := D_law) rfl
  have e := hfa.symm.trans (He.glo_ok X G (c.fact 7 (f := .glo "law") rfl))
  cases e
  obtain ⟨t0, q0⟩ := He.str_ok X G (c.fact 8 (f := .str (PySem.Str.ofString "LETTERS") (PySem.Str.ofString "abcdefghijklmnopqrstuvwxyz")) rfl)
  obtain ⟨t1, q1⟩ := He.int_ok X G (c.fact 9 (f := .int (PySem.Str.ofString "LONGEST") 8) rfl)
  let T : Fx K mg := ⟨_, d0, F0, He.glo_ok X G (c.fact 0 (f := .glo (PySem.Str.ofString "_law_take")) rfl), _, d1, F1, He.glo_ok X G (c.fact 1 (f := .glo (PySem.Str.ofString "_law_bent")) rfl), _, d2, F2, He.glo_ok X G (c.fact 2 (f := .glo (PySem.Str.ofString "_law_box")) rfl), _, d3, F3, He.glo_ok X G (c.fact 3 (f := .glo (PySem.Str.ofString "_law_name")) rfl), _, d4, F4, He.glo_ok X G (c.fact 4 (f := .glo (PySem.Str.ofString "_law_is")) rfl), _, d5, F5, He.glo_ok X G (c.fact 5 (f := .glo (PySem.Str.ofString "is_name")) rfl), _, d6, F6, He.glo_ok X G (c.fact 6 (f := .glo (PySem.Str.ofString "_law_right")) rfl), _, d7, F7, He.glo_ok X G (c.fact 7 (f := .glo (PySem.Str.ofString "law")) rfl), t0, q0, t1, q1, He.free_ok X G (c.fact 10 (f := .free (PySem.Str.ofString "abs")) rfl), He.free_ok X G (c.fact 11 (f := .free (PySem.Str.ofString "all")) rfl), He.free_ok X G (c.fact 12 (f := .free (PySem.Str.ofString "bool")) rfl), He.free_ok X G (c.fact 13 (f := .free (PySem.Str.ofString "int")) rfl), He.free_ok X G (c.fact 14 (f := .free (PySem.Str.ofString "isinstance")) rfl), He.free_ok X G (c.fact 15 (f := .free (PySem.Str.ofString "len")) rfl), He.free_ok X G (c.fact 16 (f := .free (PySem.Str.ofString "min")) rfl), He.free_ok X G (c.fact 17 (f := .free (PySem.Str.ofString "range")) rfl), He.free_ok X G (c.fact 18 (f := .free (PySem.Str.ofString "repr")) rfl), He.free_ok X G (c.fact 19 (f := .free (PySem.Str.ofString "str")) rfl), He.free_ok X G (c.fact 20 (f := .free (PySem.Str.ofString "sum")) rfl)⟩
  have b := FunD.bindsA (ps := [(PySem.Str.ofString "_law_script")]) F7 fun _ _ _ _ _ _ us hl => match us, hl with | [_], _ => rfl
  exact ⟨d7, fun s v => b s [v] rfl, fun base _ _ => ok_law T⟩
end K01
set_option Elab.async false
set_option linter.all false
set_option autoImplicit false
set_option maxRecDepth 100000
set_option maxHeartbeats 4000000
namespace K01
open PySem PySem.Spec PyProof.Rows L2 PL
theorem take_ok {n : Nat} {m : Int} {box : D} {Q : Res → List D → Prop} (h : BoxOk n box) (hn : n ≤ 1000000) (h0 : 0 < m) (h1 : m < 1073741824) (hQ : ∀ r box', BoxOk (n + 1) box' → 0 ≤ r → r < m → Q (.fz (.int r)) [box', .none]) : g__law_take [box, .int m] Q := by
  obtain ⟨a, b, c, rfl, q1, q2, q3, q4, q5⟩ := h.ex
  simp -dsimp -implicitDefEqProofs only [g__law_take, w__law_take, w__law_take_0, w__law_take_1, w__law_take_2, w__law_take_3, ↓w2_eq, ↓wT_eq, ↓wChain_eq, ↓wTru_eq, ↓wAndV_eq, ↓wOrV_eq, ↓wNotV_eq, ↓wNeg_eq, ↓wPart_eq, ↓wSl_eq, ↓wN_eq, ↓wM_eq, ↓wMut_eq, ↓wTup_eq, ↓wLst_eq, ↓wCall_eq, ↓wGTup_eq, ↓wGCons_eq, ↓wGSub_eq, ↓wIsi_eq, ↓wIsi2_eq, ↓wIt_eq, ↓wRng1_eq, ↓wRng2_eq, ↓wLenSc_eq, ↓wIxSc_eq, ↓wPar_eq, ↓asgn_eq, ↓asgn_fz, ↓asgn_ow, ↓asgn_loc, ↓retR_fz, ↓retR_ow, ↓retR_loc, ↓wFor_eq, ↓wLc_eq, ↓wVar_eq, ↓wC_eq, ↓wNil_eq, ↓wCons_eq, ↓wAndT_eq, ↓wOrT_eq, ↓wNotT_eq, ↓wIfE_eq, ↓wNoPart_eq, ↓wYes_eq, ↓wNext_eq, ↓wBreak_eq, ↓wCont_eq, ↓wSeq_eq, ↓wDrop_eq, ↓wRet_eq, ↓wRetN_eq, ↓wIf_eq, ↓wAsg_eq, ↓wGNil_eq, ↓gOfB_eq, ↓endsF_nx, ↓endsF_rt, ↓bnd_some, ↓bnd_none, ↓ind_int, ↓tst_bool, ↓tsto_bool, ↓locR_loc, ↓tupR_tup, ↓cns_cons, ↓two_two, ↓ints1_int, ↓ints2_int, ↓g1_eq, ↓g2_eq, ↓gEq_eq, ↓gNe_eq, ↓gRepr_eq, ↓gIn_one, ↓gIs_bb, ↓gIs_none, ↓gIn_list, ↓gIn_tuple, ↓gSl_list, ↓gSl_tuple, ↓gSl_str, ↓gIx_list, ↓gIx_tuple, ↓gIx_str, ↓gSetL_eq, ↓gSum_eq, ↓gBools_eq, ↓gJoin_eq, ↓gAdd.eq_1, ↓gAdd.eq_2, ↓gAdd.eq_3, ↓gAdd.eq_4, ↓PL.gSub.eq_1, ↓gMod.eq_1, ↓gDiv.eq_1, ↓gPow.eq_1, ↓gMul.eq_1, ↓gMul.eq_2, ↓gMul.eq_3, ↓gCmp.eq_1, ↓gCmp.eq_2, ↓gLen.eq_1, ↓gLen.eq_2, ↓gLen.eq_3, ↓gAbs.eq_1, ↓gInt.eq_1, ↓gInt.eq_2, ↓gI2.eq_1, ↓gTup1.eq_1, ↓gTup1.eq_2, ↓gLst1.eq_1, ↓gLst1.eq_2, ↓gAppend.eq_1, ↓gCount.eq_1, ↓gUpper.eq_1, eqv_int, eqv_str, eqv_bool, eqv_ns, eqv_sn, eqv_nn, eqv_ni, eqv_in, eqv_si, eqv_is, eqOk_int, eqOk_str, eqOk_bool, eqOk_ns, eqOk_sn, eqOk_nn, eqOk_ni, eqOk_in, eqOk_si, eqOk_is, beq_iff_eq, ixN_0, ixN_1, ixN_2, ixN_3, ixN_4, ixN_5, ixN_6, ixN_7, atI_0, atI_1, atI_2, atI_3, atI_4, atI_5, atI_6, atI_7, rVar, lookAll, ownAt?, look, frz, frzAll, Out.res, okSlot_eq, okO_some, okS_fz, okS_ow, okS_sc, okS_none, wipeE, restE, prep, back, lent, lentOk, outsOf, outsFrom, argE, Res.good, isTy, tyN, noDict, itD, scAt, owA, fixR, isL, isS, seqOf, truth, truOk, List.getElem?_cons_zero, List.getElem?_cons_succ, List.set_cons_zero, List.set_cons_succ, List.replicate_zero, List.replicate_succ, List.cons_append, List.nil_append, List.append_nil, Option.some.injEq, Prod.mk.injEq, PyData.int.injEq, PyData.list.injEq, PyData.str.injEq, PyData.bool.injEq, PyData.tuple.injEq, Res.loc.injEq, Res.fz.injEq, Res.ow.injEq, and_true, true_and, List.length_cons, List.length_nil, if_true, if_false, reduceIte, Bool.false_eq_true, Option.map_some, List.cons.injEq, List.mem_cons, List.not_mem_nil, or_false, forall_eq, not_true_eq_false, not_false_eq_true, Bool.not_true, Bool.not_false, forall_const, List.nodup_nil, List.nodup_cons, Option.isSome_some, decide_eq_true_eq, Nat.reduceLeDiff, Nat.reduceAdd, Nat.zero_add, exists_eq', Int.reduceLT, Int.reduceLE, Int.reduceNeg, Int.reducePow, Nat.reducePow, Int.reduceToNat, Int.reduceAdd, Int.reduceMul, Nat.reduceMul, Nat.reduceEqDiff, Nat.reduceSub, String.reduceBEq, beq_self_eq_true, Bool.and_true, Bool.true_and, Bool.or_true, Bool.true_or, Bool.or_false, Bool.false_or, Bool.and_false, Bool.false_and, Bool.not_eq_true, Bool.not_eq_false, reduceCtorEq]
  split
  · exact ⟨h0, ⟨h0, h1⟩, hQ _ _ ⟨_, _, _, rfl, Int.ediv_nonneg (by omega) (by omega), q2, q3, q4, by omega⟩ (Int.emod_nonneg _ (by omega)) (Int.emod_lt_of_pos _ h0)⟩
  · exact ⟨.inl trivial, by omega, .inr (by omega), .inr trivial, h0, hQ _ _ ⟨_, _, _, rfl, q1, q2, q3, by omega, by omega⟩ (Int.emod_nonneg _ (by omega)) (Int.emod_lt_of_pos _ h0)⟩
abbrev LET : Str := PySem.Str.ofString "abcdefghijklmnopqrstuvwxyz"
def nameB (z : Str) : Bool := decide (1 ≤ z.length ∧ z.length ≤ 8) && z.cps.toList.all fun c => decide (c ∈ LET.cps.toList)
def isN : D → Bool
  | .str z => nameB z
  | _ => false
theorem is_name_ok {d : D} {Q : Res → List D → Prop} (nd : noDict d = true) (hz : ∀ z, d = .str z → z.length ≤ 1000) (hQ : ∀ o, Q (.fz (.bool (isN d))) o) : g_is_name [d] Q := by
  cases d with
  | str z =>
    have hz := hz z rfl
    simp -dsimp -implicitDefEqProofs only [g_is_name, w_is_name, w_is_name_0, w_is_name_1, ↓w2_eq, ↓wT_eq, ↓wChain_eq, ↓wTru_eq, ↓wAndV_eq, ↓wOrV_eq, ↓wNotV_eq, ↓wNeg_eq, ↓wPart_eq, ↓wSl_eq, ↓wN_eq, ↓wM_eq, ↓wMut_eq, ↓wTup_eq, ↓wLst_eq, ↓wCall_eq, ↓wGTup_eq, ↓wGCons_eq, ↓wGSub_eq, ↓wIsi_eq, ↓wIsi2_eq, ↓wIt_eq, ↓wRng1_eq, ↓wRng2_eq, ↓wLenSc_eq, ↓wIxSc_eq, ↓wPar_eq, ↓asgn_eq, ↓asgn_fz, ↓asgn_ow, ↓asgn_loc, ↓retR_fz, ↓retR_ow, ↓retR_loc, ↓wFor_eq, ↓wLc_eq, ↓wVar_eq, ↓wC_eq, ↓wNil_eq, ↓wCons_eq, ↓wAndT_eq, ↓wOrT_eq, ↓wNotT_eq, ↓wIfE_eq, ↓wNoPart_eq, ↓wYes_eq, ↓wNext_eq, ↓wBreak_eq, ↓wCont_eq, ↓wSeq_eq, ↓wDrop_eq, ↓wRet_eq, ↓wRetN_eq, ↓wIf_eq, ↓wAsg_eq, ↓wGNil_eq, ↓gOfB_eq, ↓endsF_nx, ↓endsF_rt, ↓bnd_some, ↓bnd_none, ↓ind_int, ↓tst_bool, ↓tsto_bool, ↓locR_loc, ↓tupR_tup, ↓cns_cons, ↓two_two, ↓ints1_int, ↓ints2_int, ↓g1_eq, ↓g2_eq, ↓gEq_eq, ↓gNe_eq, ↓gRepr_eq, ↓gIn_one, ↓gIs_bb, ↓gIs_none, ↓gIn_list, ↓gIn_tuple, ↓gSl_list, ↓gSl_tuple, ↓gSl_str, ↓gIx_list, ↓gIx_tuple, ↓gIx_str, ↓gSetL_eq, ↓gSum_eq, ↓gBools_eq, ↓gJoin_eq, ↓gAdd.eq_1, ↓gAdd.eq_2, ↓gAdd.eq_3, ↓gAdd.eq_4, ↓PL.gSub.eq_1, ↓gMod.eq_1, ↓gDiv.eq_1, ↓gPow.eq_1, ↓gMul.eq_1, ↓gMul.eq_2, ↓gMul.eq_3, ↓gCmp.eq_1, ↓gCmp.eq_2, ↓gLen.eq_1, ↓gLen.eq_2, ↓gLen.eq_3, ↓gAbs.eq_1, ↓gInt.eq_1, ↓gInt.eq_2, ↓gI2.eq_1, ↓gTup1.eq_1, ↓gTup1.eq_2, ↓gLst1.eq_1, ↓gLst1.eq_2, ↓gAppend.eq_1, ↓gCount.eq_1, ↓gUpper.eq_1, eqv_int, eqv_str, eqv_bool, eqv_ns, eqv_sn, eqv_nn, eqv_ni, eqv_in, eqv_si, eqv_is, eqOk_int, eqOk_str, eqOk_bool, eqOk_ns, eqOk_sn, eqOk_nn, eqOk_ni, eqOk_in, eqOk_si, eqOk_is, beq_iff_eq, ixN_0, ixN_1, ixN_2, ixN_3, ixN_4, ixN_5, ixN_6, ixN_7, atI_0, atI_1, atI_2, atI_3, atI_4, atI_5, atI_6, atI_7, rVar, lookAll, ownAt?, look, frz, frzAll, Out.res, okSlot_eq, okO_some, okS_fz, okS_ow, okS_sc, okS_none, wipeE, restE, prep, back, lent, lentOk, outsOf, outsFrom, argE, Res.good, isTy, tyN, noDict, itD, scAt, owA, fixR, isL, isS, seqOf, truth, truOk, List.getElem?_cons_zero, List.getElem?_cons_succ, List.set_cons_zero, List.set_cons_succ, List.replicate_zero, List.replicate_succ, List.cons_append, List.nil_append, List.append_nil, Option.some.injEq, Prod.mk.injEq, PyData.int.injEq, PyData.list.injEq, PyData.str.injEq, PyData.bool.injEq, PyData.tuple.injEq, Res.loc.injEq, Res.fz.injEq, Res.ow.injEq, and_true, true_and, List.length_cons, List.length_nil, if_true, if_false, reduceIte, Bool.false_eq_true, Option.map_some, List.cons.injEq, List.mem_cons, List.not_mem_nil, or_false, forall_eq, not_true_eq_false, not_false_eq_true, Bool.not_true, Bool.not_false, forall_const, List.nodup_nil, List.nodup_cons, Option.isSome_some, decide_eq_true_eq, Nat.reduceLeDiff, Nat.reduceAdd, Nat.zero_add, exists_eq', Int.reduceLT, Int.reduceLE, Int.reduceNeg, Int.reducePow, Nat.reducePow, Int.reduceToNat, Int.reduceAdd, Int.reduceMul, Nat.reduceMul, Nat.reduceEqDiff, Nat.reduceSub, String.reduceBEq, beq_self_eq_true, Bool.and_true, Bool.true_and, Bool.or_true, Bool.true_or, Bool.or_false, Bool.false_or, Bool.and_false, Bool.false_and, Bool.not_eq_true, Bool.not_eq_false, reduceCtorEq]
    refine ⟨by omega, ?_⟩
    have hq : ∀ b, b = nameB z → Q (.fz (.bool b)) [.none] := fun b hb => by rw [hb]; exact hQ _
    split
    · split
      · rename_i h1 h2
        refine hq _ ?_
        unfold nameB
        simp only [Bool.not_eq_true', decide_eq_false_iff_not] at h2
        rw [decide_eq_false (by omega), Bool.false_and]
      · rename_i h1 h2
        refine ⟨by rw [List.length_map, ← slen]; omega, ?_⟩
        refine lcLT_inv (fun i acc e => acc = ((z.cps.toList.take i).map fun c => decide (c ∈ LET.cps.toList)).map PyData.bool ∧ e = [some (.fz, .str z), none]) ⟨rfl, rfl⟩ (fun i d acc e K hd hi hk => ?_) (fun acc e hi => ?_)
        · obtain ⟨rfl, rfl⟩ := hi
          rw [List.getElem?_map, Option.map_eq_some_iff] at hd
          obtain ⟨c, hc, rfl⟩ := hd
          simp -dsimp -implicitDefEqProofs only [↓w2_eq, ↓wT_eq, ↓wChain_eq, ↓wTru_eq, ↓wAndV_eq, ↓wOrV_eq, ↓wNotV_eq, ↓wNeg_eq, ↓wPart_eq, ↓wSl_eq, ↓wN_eq, ↓wM_eq, ↓wMut_eq, ↓wTup_eq, ↓wLst_eq, ↓wCall_eq, ↓wGTup_eq, ↓wGCons_eq, ↓wGSub_eq, ↓wIsi_eq, ↓wIsi2_eq, ↓wIt_eq, ↓wRng1_eq, ↓wRng2_eq, ↓wLenSc_eq, ↓wIxSc_eq, ↓wPar_eq, ↓asgn_eq, ↓asgn_fz, ↓asgn_ow, ↓asgn_loc, ↓retR_fz, ↓retR_ow, ↓retR_loc, ↓wFor_eq, ↓wLc_eq, ↓wVar_eq, ↓wC_eq, ↓wNil_eq, ↓wCons_eq, ↓wAndT_eq, ↓wOrT_eq, ↓wNotT_eq, ↓wIfE_eq, ↓wNoPart_eq, ↓wYes_eq, ↓wNext_eq, ↓wBreak_eq, ↓wCont_eq, ↓wSeq_eq, ↓wDrop_eq, ↓wRet_eq, ↓wRetN_eq, ↓wIf_eq, ↓wAsg_eq, ↓wGNil_eq, ↓gOfB_eq, ↓endsF_nx, ↓endsF_rt, ↓bnd_some, ↓bnd_none, ↓ind_int, ↓tst_bool, ↓tsto_bool, ↓locR_loc, ↓tupR_tup, ↓cns_cons, ↓two_two, ↓ints1_int, ↓ints2_int, ↓g1_eq, ↓g2_eq, ↓gEq_eq, ↓gNe_eq, ↓gRepr_eq, ↓gIn_one, ↓gIs_bb, ↓gIs_none, ↓gIn_list, ↓gIn_tuple, ↓gSl_list, ↓gSl_tuple, ↓gSl_str, ↓gIx_list, ↓gIx_tuple, ↓gIx_str, ↓gSetL_eq, ↓gSum_eq, ↓gBools_eq, ↓gJoin_eq, ↓gAdd.eq_1, ↓gAdd.eq_2, ↓gAdd.eq_3, ↓gAdd.eq_4, ↓PL.gSub.eq_1, ↓gMod.eq_1, ↓gDiv.eq_1, ↓gPow.eq_1, ↓gMul.eq_1, ↓gMul.eq_2, ↓gMul.eq_3, ↓gCmp.eq_1, ↓gCmp.eq_2, ↓gLen.eq_1, ↓gLen.eq_2, ↓gLen.eq_3, ↓gAbs.eq_1, ↓gInt.eq_1, ↓gInt.eq_2, ↓gI2.eq_1, ↓gTup1.eq_1, ↓gTup1.eq_2, ↓gLst1.eq_1, ↓gLst1.eq_2, ↓gAppend.eq_1, ↓gCount.eq_1, ↓gUpper.eq_1, eqv_int, eqv_str, eqv_bool, eqv_ns, eqv_sn, eqv_nn, eqv_ni, eqv_in, eqv_si, eqv_is, eqOk_int, eqOk_str, eqOk_bool, eqOk_ns, eqOk_sn, eqOk_nn, eqOk_ni, eqOk_in, eqOk_si, eqOk_is, beq_iff_eq, ixN_0, ixN_1, ixN_2, ixN_3, ixN_4, ixN_5, ixN_6, ixN_7, atI_0, atI_1, atI_2, atI_3, atI_4, atI_5, atI_6, atI_7, rVar, lookAll, ownAt?, look, frz, frzAll, Out.res, okSlot_eq, okO_some, okS_fz, okS_ow, okS_sc, okS_none, wipeE, restE, prep, back, lent, lentOk, outsOf, outsFrom, argE, Res.good, isTy, tyN, noDict, itD, scAt, owA, fixR, isL, isS, seqOf, truth, truOk, List.getElem?_cons_zero, List.getElem?_cons_succ, List.set_cons_zero, List.set_cons_succ, List.replicate_zero, List.replicate_succ, List.cons_append, List.nil_append, List.append_nil, Option.some.injEq, Prod.mk.injEq, PyData.int.injEq, PyData.list.injEq, PyData.str.injEq, PyData.bool.injEq, PyData.tuple.injEq, Res.loc.injEq, Res.fz.injEq, Res.ow.injEq, and_true, true_and, List.length_cons, List.length_nil, if_true, if_false, reduceIte, Bool.false_eq_true, Option.map_some, List.cons.injEq, List.mem_cons, List.not_mem_nil, or_false, forall_eq, not_true_eq_false, not_false_eq_true, Bool.not_true, Bool.not_false, forall_const, List.nodup_nil, List.nodup_cons, Option.isSome_some, decide_eq_true_eq, Nat.reduceLeDiff, Nat.reduceAdd, Nat.zero_add, exists_eq', Int.reduceLT, Int.reduceLE, Int.reduceNeg, Int.reducePow, Nat.reducePow, Int.reduceToNat, Int.reduceAdd, Int.reduceMul, Nat.reduceMul, Nat.reduceEqDiff, Nat.reduceSub, String.reduceBEq, beq_self_eq_true, Bool.and_true, Bool.true_and, Bool.or_true, Bool.true_or, Bool.or_false, Bool.false_or, Bool.and_false, Bool.false_and, Bool.not_eq_true, Bool.not_eq_false, reduceCtorEq]
          refine hk _ _ ⟨?_, rfl⟩
          rw [List.take_succ, hc]
          simp
        · obtain ⟨rfl, rfl⟩ := hi
          simp -dsimp -implicitDefEqProofs only [↓w2_eq, ↓wT_eq, ↓wChain_eq, ↓wTru_eq, ↓wAndV_eq, ↓wOrV_eq, ↓wNotV_eq, ↓wNeg_eq, ↓wPart_eq, ↓wSl_eq, ↓wN_eq, ↓wM_eq, ↓wMut_eq, ↓wTup_eq, ↓wLst_eq, ↓wCall_eq, ↓wGTup_eq, ↓wGCons_eq, ↓wGSub_eq, ↓wIsi_eq, ↓wIsi2_eq, ↓wIt_eq, ↓wRng1_eq, ↓wRng2_eq, ↓wLenSc_eq, ↓wIxSc_eq, ↓wPar_eq, ↓asgn_eq, ↓asgn_fz, ↓asgn_ow, ↓asgn_loc, ↓retR_fz, ↓retR_ow, ↓retR_loc, ↓wFor_eq, ↓wLc_eq, ↓wVar_eq, ↓wC_eq, ↓wNil_eq, ↓wCons_eq, ↓wAndT_eq, ↓wOrT_eq, ↓wNotT_eq, ↓wIfE_eq, ↓wNoPart_eq, ↓wYes_eq, ↓wNext_eq, ↓wBreak_eq, ↓wCont_eq, ↓wSeq_eq, ↓wDrop_eq, ↓wRet_eq, ↓wRetN_eq, ↓wIf_eq, ↓wAsg_eq, ↓wGNil_eq, ↓gOfB_eq, ↓endsF_nx, ↓endsF_rt, ↓bnd_some, ↓bnd_none, ↓ind_int, ↓tst_bool, ↓tsto_bool, ↓locR_loc, ↓tupR_tup, ↓cns_cons, ↓two_two, ↓ints1_int, ↓ints2_int, ↓g1_eq, ↓g2_eq, ↓gEq_eq, ↓gNe_eq, ↓gRepr_eq, ↓gIn_one, ↓gIs_bb, ↓gIs_none, ↓gIn_list, ↓gIn_tuple, ↓gSl_list, ↓gSl_tuple, ↓gSl_str, ↓gIx_list, ↓gIx_tuple, ↓gIx_str, ↓gSetL_eq, ↓gSum_eq, ↓gBools_eq, ↓gJoin_eq, ↓gAdd.eq_1, ↓gAdd.eq_2, ↓gAdd.eq_3, ↓gAdd.eq_4, ↓PL.gSub.eq_1, ↓gMod.eq_1, ↓gDiv.eq_1, ↓gPow.eq_1, ↓gMul.eq_1, ↓gMul.eq_2, ↓gMul.eq_3, ↓gCmp.eq_1, ↓gCmp.eq_2, ↓gLen.eq_1, ↓gLen.eq_2, ↓gLen.eq_3, ↓gAbs.eq_1, ↓gInt.eq_1, ↓gInt.eq_2, ↓gI2.eq_1, ↓gTup1.eq_1, ↓gTup1.eq_2, ↓gLst1.eq_1, ↓gLst1.eq_2, ↓gAppend.eq_1, ↓gCount.eq_1, ↓gUpper.eq_1, eqv_int, eqv_str, eqv_bool, eqv_ns, eqv_sn, eqv_nn, eqv_ni, eqv_in, eqv_si, eqv_is, eqOk_int, eqOk_str, eqOk_bool, eqOk_ns, eqOk_sn, eqOk_nn, eqOk_ni, eqOk_in, eqOk_si, eqOk_is, beq_iff_eq, ixN_0, ixN_1, ixN_2, ixN_3, ixN_4, ixN_5, ixN_6, ixN_7, atI_0, atI_1, atI_2, atI_3, atI_4, atI_5, atI_6, atI_7, rVar, lookAll, ownAt?, look, frz, frzAll, Out.res, okSlot_eq, okO_some, okS_fz, okS_ow, okS_sc, okS_none, wipeE, restE, prep, back, lent, lentOk, outsOf, outsFrom, argE, Res.good, isTy, tyN, noDict, itD, scAt, owA, fixR, isL, isS, seqOf, truth, truOk, List.getElem?_cons_zero, List.getElem?_cons_succ, List.set_cons_zero, List.set_cons_succ, List.replicate_zero, List.replicate_succ, List.cons_append, List.nil_append, List.append_nil, Option.some.injEq, Prod.mk.injEq, PyData.int.injEq, PyData.list.injEq, PyData.str.injEq, PyData.bool.injEq, PyData.tuple.injEq, Res.loc.injEq, Res.fz.injEq, Res.ow.injEq, and_true, true_and, List.length_cons, List.length_nil, if_true, if_false, reduceIte, Bool.false_eq_true, Option.map_some, List.cons.injEq, List.mem_cons, List.not_mem_nil, or_false, forall_eq, not_true_eq_false, not_false_eq_true, Bool.not_true, Bool.not_false, forall_const, List.nodup_nil, List.nodup_cons, Option.isSome_some, decide_eq_true_eq, Nat.reduceLeDiff, Nat.reduceAdd, Nat.zero_add, exists_eq', Int.reduceLT, Int.reduceLE, Int.reduceNeg, Int.reducePow, Nat.reducePow, Int.reduceToNat, Int.reduceAdd, Int.reduceMul, Nat.reduceMul, Nat.reduceEqDiff, Nat.reduceSub, String.reduceBEq, beq_self_eq_true, Bool.and_true, Bool.true_and, Bool.or_true, Bool.true_or, Bool.or_false, Bool.false_or, Bool.and_false, Bool.false_and, Bool.not_eq_true, Bool.not_eq_false, reduceCtorEq, PL.bools_map]
          refine hq _ ?_
          unfold nameB
          have h2' : (z.length : Int) ≤ 8 := by
            by_cases h3 : (z.length : Int) ≤ 8
            · exact h3
            · exact absurd (by rw [decide_eq_false h3]; rfl) h2
          rw [decide_eq_true (by omega), Bool.true_and, List.length_map, ← slen, List.all_map]
          rw [slen, List.take_length]
          rfl
    · refine hq _ ?_
      unfold nameB
      rw [decide_eq_false (by omega), Bool.false_and]
  | dict _ => cases nd
  | _ =>
    simp -dsimp -implicitDefEqProofs only [g_is_name, w_is_name, w_is_name_0, w_is_name_1, ↓w2_eq, ↓wT_eq, ↓wChain_eq, ↓wTru_eq, ↓wAndV_eq, ↓wOrV_eq, ↓wNotV_eq, ↓wNeg_eq, ↓wPart_eq, ↓wSl_eq, ↓wN_eq, ↓wM_eq, ↓wMut_eq, ↓wTup_eq, ↓wLst_eq, ↓wCall_eq, ↓wGTup_eq, ↓wGCons_eq, ↓wGSub_eq, ↓wIsi_eq, ↓wIsi2_eq, ↓wIt_eq, ↓wRng1_eq, ↓wRng2_eq, ↓wLenSc_eq, ↓wIxSc_eq, ↓wPar_eq, ↓asgn_eq, ↓asgn_fz, ↓asgn_ow, ↓asgn_loc, ↓retR_fz, ↓retR_ow, ↓retR_loc, ↓wFor_eq, ↓wLc_eq, ↓wVar_eq, ↓wC_eq, ↓wNil_eq, ↓wCons_eq, ↓wAndT_eq, ↓wOrT_eq, ↓wNotT_eq, ↓wIfE_eq, ↓wNoPart_eq, ↓wYes_eq, ↓wNext_eq, ↓wBreak_eq, ↓wCont_eq, ↓wSeq_eq, ↓wDrop_eq, ↓wRet_eq, ↓wRetN_eq, ↓wIf_eq, ↓wAsg_eq, ↓wGNil_eq, ↓gOfB_eq, ↓endsF_nx, ↓endsF_rt, ↓bnd_some, ↓bnd_none, ↓ind_int, ↓tst_bool, ↓tsto_bool, ↓locR_loc, ↓tupR_tup, ↓cns_cons, ↓two_two, ↓ints1_int, ↓ints2_int, ↓g1_eq, ↓g2_eq, ↓gEq_eq, ↓gNe_eq, ↓gRepr_eq, ↓gIn_one, ↓gIs_bb, ↓gIs_none, ↓gIn_list, ↓gIn_tuple, ↓gSl_list, ↓gSl_tuple, ↓gSl_str, ↓gIx_list, ↓gIx_tuple, ↓gIx_str, ↓gSetL_eq, ↓gSum_eq, ↓gBools_eq, ↓gJoin_eq, ↓gAdd.eq_1, ↓gAdd.eq_2, ↓gAdd.eq_3, ↓gAdd.eq_4, ↓PL.gSub.eq_1, ↓gMod.eq_1, ↓gDiv.eq_1, ↓gPow.eq_1, ↓gMul.eq_1, ↓gMul.eq_2, ↓gMul.eq_3, ↓gCmp.eq_1, ↓gCmp.eq_2, ↓gLen.eq_1, ↓gLen.eq_2, ↓gLen.eq_3, ↓gAbs.eq_1, ↓gInt.eq_1, ↓gInt.eq_2, ↓gI2.eq_1, ↓gTup1.eq_1, ↓gTup1.eq_2, ↓gLst1.eq_1, ↓gLst1.eq_2, ↓gAppend.eq_1, ↓gCount.eq_1, ↓gUpper.eq_1, eqv_int, eqv_str, eqv_bool, eqv_ns, eqv_sn, eqv_nn, eqv_ni, eqv_in, eqv_si, eqv_is, eqOk_int, eqOk_str, eqOk_bool, eqOk_ns, eqOk_sn, eqOk_nn, eqOk_ni, eqOk_in, eqOk_si, eqOk_is, beq_iff_eq, ixN_0, ixN_1, ixN_2, ixN_3, ixN_4, ixN_5, ixN_6, ixN_7, atI_0, atI_1, atI_2, atI_3, atI_4, atI_5, atI_6, atI_7, rVar, lookAll, ownAt?, look, frz, frzAll, Out.res, okSlot_eq, okO_some, okS_fz, okS_ow, okS_sc, okS_none, wipeE, restE, prep, back, lent, lentOk, outsOf, outsFrom, argE, Res.good, isTy, tyN, noDict, itD, scAt, owA, fixR, isL, isS, seqOf, truth, truOk, List.getElem?_cons_zero, List.getElem?_cons_succ, List.set_cons_zero, List.set_cons_succ, List.replicate_zero, List.replicate_succ, List.cons_append, List.nil_append, List.append_nil, Option.some.injEq, Prod.mk.injEq, PyData.int.injEq, PyData.list.injEq, PyData.str.injEq, PyData.bool.injEq, PyData.tuple.injEq, Res.loc.injEq, Res.fz.injEq, Res.ow.injEq, and_true, true_and, List.length_cons, List.length_nil, if_true, if_false, reduceIte, Bool.false_eq_true, Option.map_some, List.cons.injEq, List.mem_cons, List.not_mem_nil, or_false, forall_eq, not_true_eq_false, not_false_eq_true, Bool.not_true, Bool.not_false, forall_const, List.nodup_nil, List.nodup_cons, Option.isSome_some, decide_eq_true_eq, Nat.reduceLeDiff, Nat.reduceAdd, Nat.zero_add, exists_eq', Int.reduceLT, Int.reduceLE, Int.reduceNeg, Int.reducePow, Nat.reducePow, Int.reduceToNat, Int.reduceAdd, Int.reduceMul, Nat.reduceMul, Nat.reduceEqDiff, Nat.reduceSub, String.reduceBEq, beq_self_eq_true, Bool.and_true, Bool.true_and, Bool.or_true, Bool.true_or, Bool.or_false, Bool.false_or, Bool.and_false, Bool.false_and, Bool.not_eq_true, Bool.not_eq_false, reduceCtorEq]
    exact hQ _
theorem let_nodup : LET.cps.toList.Nodup := by decide +kernel
theorem let_len : LET.cps.toList.length = 26 := by decide +kernel
theorem sum_all (z : Str) : ∀ L : List Nat, L.Nodup → ((0 < (L.map fun c => ((z.cps.toList.count c : Nat) : Int)).sum ∧ (L.map fun c => ((z.cps.toList.count c : Nat) : Int)).sum < 9 ∧ (L.map fun c => ((z.cps.toList.count c : Nat) : Int)).sum = (z.length : Int)) ↔ ((1 ≤ z.length ∧ z.length ≤ 8) ∧ z.cps.toList.all (fun c => decide (c ∈ L)) = true)) := by
  intro L h
  rw [count_sum _ _ h, slen]
  have hl := List.length_filter_le (fun c => decide (c ∈ L)) z.cps.toList
  have ha : (z.cps.toList.filter fun c => decide (c ∈ L)).length = z.cps.toList.length ↔ z.cps.toList.all (fun c => decide (c ∈ L)) = true := by
    rw [List.length_filter_eq_length_iff, List.all_eq_true]
  rw [← ha]
  omega
theorem law_is_ok {d : D} {Q : Res → List D → Prop} (nd : noDict d = true) (hz : ∀ z, d = .str z → z.length ≤ 1000) (hQ : ∀ o, Q (.fz (.bool (isN d))) o) : g__law_is [d] Q := by
  cases d with
  | str z =>
    have hz := hz z rfl
    have hq : ∀ b, b = nameB z → Q (.fz (.bool b)) [.none] := fun b hb => by rw [hb]; exact hQ _
    have hn : nameB z = decide ((1 ≤ z.length ∧ z.length ≤ 8) ∧ z.cps.toList.all (fun c => decide (c ∈ LET.cps.toList)) = true) := by
      unfold nameB
      rw [Bool.eq_iff_iff, Bool.and_eq_true, decide_eq_true_iff, decide_eq_true_iff]
    have key := sum_all z _ let_nodup
    have hlen := let_len
    simp -dsimp -implicitDefEqProofs only [g__law_is, w__law_is, w__law_is_0, w__law_is_1, ↓w2_eq, ↓wT_eq, ↓wChain_eq, ↓wTru_eq, ↓wAndV_eq, ↓wOrV_eq, ↓wNotV_eq, ↓wNeg_eq, ↓wPart_eq, ↓wSl_eq, ↓wN_eq, ↓wM_eq, ↓wMut_eq, ↓wTup_eq, ↓wLst_eq, ↓wCall_eq, ↓wGTup_eq, ↓wGCons_eq, ↓wGSub_eq, ↓wIsi_eq, ↓wIsi2_eq, ↓wIt_eq, ↓wRng1_eq, ↓wRng2_eq, ↓wLenSc_eq, ↓wIxSc_eq, ↓wPar_eq, ↓asgn_eq, ↓asgn_fz, ↓asgn_ow, ↓asgn_loc, ↓retR_fz, ↓retR_ow, ↓retR_loc, ↓wFor_eq, ↓wLc_eq, ↓wVar_eq, ↓wC_eq, ↓wNil_eq, ↓wCons_eq, ↓wAndT_eq, ↓wOrT_eq, ↓wNotT_eq, ↓wIfE_eq, ↓wNoPart_eq, ↓wYes_eq, ↓wNext_eq, ↓wBreak_eq, ↓wCont_eq, ↓wSeq_eq, ↓wDrop_eq, ↓wRet_eq, ↓wRetN_eq, ↓wIf_eq, ↓wAsg_eq, ↓wGNil_eq, ↓gOfB_eq, ↓endsF_nx, ↓endsF_rt, ↓bnd_some, ↓bnd_none, ↓ind_int, ↓tst_bool, ↓tsto_bool, ↓locR_loc, ↓tupR_tup, ↓cns_cons, ↓two_two, ↓ints1_int, ↓ints2_int, ↓g1_eq, ↓g2_eq, ↓gEq_eq, ↓gNe_eq, ↓gRepr_eq, ↓gIn_one, ↓gIs_bb, ↓gIs_none, ↓gIn_list, ↓gIn_tuple, ↓gSl_list, ↓gSl_tuple, ↓gSl_str, ↓gIx_list, ↓gIx_tuple, ↓gIx_str, ↓gSetL_eq, ↓gSum_eq, ↓gBools_eq, ↓gJoin_eq, ↓gAdd.eq_1, ↓gAdd.eq_2, ↓gAdd.eq_3, ↓gAdd.eq_4, ↓PL.gSub.eq_1, ↓gMod.eq_1, ↓gDiv.eq_1, ↓gPow.eq_1, ↓gMul.eq_1, ↓gMul.eq_2, ↓gMul.eq_3, ↓gCmp.eq_1, ↓gCmp.eq_2, ↓gLen.eq_1, ↓gLen.eq_2, ↓gLen.eq_3, ↓gAbs.eq_1, ↓gInt.eq_1, ↓gInt.eq_2, ↓gI2.eq_1, ↓gTup1.eq_1, ↓gTup1.eq_2, ↓gLst1.eq_1, ↓gLst1.eq_2, ↓gAppend.eq_1, ↓gCount.eq_1, ↓gUpper.eq_1, eqv_int, eqv_str, eqv_bool, eqv_ns, eqv_sn, eqv_nn, eqv_ni, eqv_in, eqv_si, eqv_is, eqOk_int, eqOk_str, eqOk_bool, eqOk_ns, eqOk_sn, eqOk_nn, eqOk_ni, eqOk_in, eqOk_si, eqOk_is, beq_iff_eq, ixN_0, ixN_1, ixN_2, ixN_3, ixN_4, ixN_5, ixN_6, ixN_7, atI_0, atI_1, atI_2, atI_3, atI_4, atI_5, atI_6, atI_7, rVar, lookAll, ownAt?, look, frz, frzAll, Out.res, okSlot_eq, okO_some, okS_fz, okS_ow, okS_sc, okS_none, wipeE, restE, prep, back, lent, lentOk, outsOf, outsFrom, argE, Res.good, isTy, tyN, noDict, itD, scAt, owA, fixR, isL, isS, seqOf, truth, truOk, List.getElem?_cons_zero, List.getElem?_cons_succ, List.set_cons_zero, List.set_cons_succ, List.replicate_zero, List.replicate_succ, List.cons_append, List.nil_append, List.append_nil, Option.some.injEq, Prod.mk.injEq, PyData.int.injEq, PyData.list.injEq, PyData.str.injEq, PyData.bool.injEq, PyData.tuple.injEq, Res.loc.injEq, Res.fz.injEq, Res.ow.injEq, and_true, true_and, List.length_cons, List.length_nil, if_true, if_false, reduceIte, Bool.false_eq_true, Option.map_some, List.cons.injEq, List.mem_cons, List.not_mem_nil, or_false, forall_eq, not_true_eq_false, not_false_eq_true, Bool.not_true, Bool.not_false, forall_const, List.nodup_nil, List.nodup_cons, Option.isSome_some, decide_eq_true_eq, Nat.reduceLeDiff, Nat.reduceAdd, Nat.zero_add, exists_eq', Int.reduceLT, Int.reduceLE, Int.reduceNeg, Int.reducePow, Nat.reducePow, Int.reduceToNat, Int.reduceAdd, Int.reduceMul, Nat.reduceMul, Nat.reduceEqDiff, Nat.reduceSub, String.reduceBEq, beq_self_eq_true, Bool.and_true, Bool.true_and, Bool.or_true, Bool.true_or, Bool.or_false, Bool.false_or, Bool.and_false, Bool.false_and, Bool.not_eq_true, Bool.not_eq_false, reduceCtorEq]
    unfold LET at hn key hlen
    generalize PySem.Str.ofString "abcdefghijklmnopqrstuvwxyz" = L at hn key hlen ⊢
    refine ⟨by rw [List.length_map, hlen]; decide, ?_⟩
    refine lcLT_inv (fun i acc e => acc = ((L.cps.toList.take i).map fun c => ((z.cps.toList.count c : Nat) : Int)).map PyData.int ∧ e = [some (.fz, .str z), none, none]) ⟨rfl, rfl⟩ (fun i d acc e K hd hi hk => ?_) (fun acc e hi => ?_)
    · obtain ⟨rfl, rfl⟩ := hi
      rw [List.getElem?_map, Option.map_eq_some_iff] at hd
      obtain ⟨c, hc, rfl⟩ := hd
      simp -dsimp -implicitDefEqProofs only [↓w2_eq, ↓wT_eq, ↓wChain_eq, ↓wTru_eq, ↓wAndV_eq, ↓wOrV_eq, ↓wNotV_eq, ↓wNeg_eq, ↓wPart_eq, ↓wSl_eq, ↓wN_eq, ↓wM_eq, ↓wMut_eq, ↓wTup_eq, ↓wLst_eq, ↓wCall_eq, ↓wGTup_eq, ↓wGCons_eq, ↓wGSub_eq, ↓wIsi_eq, ↓wIsi2_eq, ↓wIt_eq, ↓wRng1_eq, ↓wRng2_eq, ↓wLenSc_eq, ↓wIxSc_eq, ↓wPar_eq, ↓asgn_eq, ↓asgn_fz, ↓asgn_ow, ↓asgn_loc, ↓retR_fz, ↓retR_ow, ↓retR_loc, ↓wFor_eq, ↓wLc_eq, ↓wVar_eq, ↓wC_eq, ↓wNil_eq, ↓wCons_eq, ↓wAndT_eq, ↓wOrT_eq, ↓wNotT_eq, ↓wIfE_eq, ↓wNoPart_eq, ↓wYes_eq, ↓wNext_eq, ↓wBreak_eq, ↓wCont_eq, ↓wSeq_eq, ↓wDrop_eq, ↓wRet_eq, ↓wRetN_eq, ↓wIf_eq, ↓wAsg_eq, ↓wGNil_eq, ↓gOfB_eq, ↓endsF_nx, ↓endsF_rt, ↓bnd_some, ↓bnd_none, ↓ind_int, ↓tst_bool, ↓tsto_bool, ↓locR_loc, ↓tupR_tup, ↓cns_cons, ↓two_two, ↓ints1_int, ↓ints2_int, ↓g1_eq, ↓g2_eq, ↓gEq_eq, ↓gNe_eq, ↓gRepr_eq, ↓gIn_one, ↓gIs_bb, ↓gIs_none, ↓gIn_list, ↓gIn_tuple, ↓gSl_list, ↓gSl_tuple, ↓gSl_str, ↓gIx_list, ↓gIx_tuple, ↓gIx_str, ↓gSetL_eq, ↓gSum_eq, ↓gBools_eq, ↓gJoin_eq, ↓gAdd.eq_1, ↓gAdd.eq_2, ↓gAdd.eq_3, ↓gAdd.eq_4, ↓PL.gSub.eq_1, ↓gMod.eq_1, ↓gDiv.eq_1, ↓gPow.eq_1, ↓gMul.eq_1, ↓gMul.eq_2, ↓gMul.eq_3, ↓gCmp.eq_1, ↓gCmp.eq_2, ↓gLen.eq_1, ↓gLen.eq_2, ↓gLen.eq_3, ↓gAbs.eq_1, ↓gInt.eq_1, ↓gInt.eq_2, ↓gI2.eq_1, ↓gTup1.eq_1, ↓gTup1.eq_2, ↓gLst1.eq_1, ↓gLst1.eq_2, ↓gAppend.eq_1, ↓gCount.eq_1, ↓gUpper.eq_1, eqv_int, eqv_str, eqv_bool, eqv_ns, eqv_sn, eqv_nn, eqv_ni, eqv_in, eqv_si, eqv_is, eqOk_int, eqOk_str, eqOk_bool, eqOk_ns, eqOk_sn, eqOk_nn, eqOk_ni, eqOk_in, eqOk_si, eqOk_is, beq_iff_eq, ixN_0, ixN_1, ixN_2, ixN_3, ixN_4, ixN_5, ixN_6, ixN_7, atI_0, atI_1, atI_2, atI_3, atI_4, atI_5, atI_6, atI_7, rVar, lookAll, ownAt?, look, frz, frzAll, Out.res, okSlot_eq, okO_some, okS_fz, okS_ow, okS_sc, okS_none, wipeE, restE, prep, back, lent, lentOk, outsOf, outsFrom, argE, Res.good, isTy, tyN, noDict, itD, scAt, owA, fixR, isL, isS, seqOf, truth, truOk, List.getElem?_cons_zero, List.getElem?_cons_succ, List.set_cons_zero, List.set_cons_succ, List.replicate_zero, List.replicate_succ, List.cons_append, List.nil_append, List.append_nil, Option.some.injEq, Prod.mk.injEq, PyData.int.injEq, PyData.list.injEq, PyData.str.injEq, PyData.bool.injEq, PyData.tuple.injEq, Res.loc.injEq, Res.fz.injEq, Res.ow.injEq, and_true, true_and, List.length_cons, List.length_nil, if_true, if_false, reduceIte, Bool.false_eq_true, Option.map_some, List.cons.injEq, List.mem_cons, List.not_mem_nil, or_false, forall_eq, not_true_eq_false, not_false_eq_true, Bool.not_true, Bool.not_false, forall_const, List.nodup_nil, List.nodup_cons, Option.isSome_some, decide_eq_true_eq, Nat.reduceLeDiff, Nat.reduceAdd, Nat.zero_add, exists_eq', Int.reduceLT, Int.reduceLE, Int.reduceNeg, Int.reducePow, Nat.reducePow, Int.reduceToNat, Int.reduceAdd, Int.reduceMul, Nat.reduceMul, Nat.reduceEqDiff, Nat.reduceSub, String.reduceBEq, beq_self_eq_true, Bool.and_true, Bool.true_and, Bool.or_true, Bool.true_or, Bool.or_false, Bool.false_or, Bool.and_false, Bool.false_and, Bool.not_eq_true, Bool.not_eq_false, reduceCtorEq]
      refine hk _ _ ⟨?_, rfl⟩
      rw [List.take_succ, hc, count_z]
      simp
    · obtain ⟨rfl, rfl⟩ := hi
      rw [List.length_map, List.take_length]
      simp -dsimp -implicitDefEqProofs only [w__law_is_2, ↓w2_eq, ↓wT_eq, ↓wChain_eq, ↓wTru_eq, ↓wAndV_eq, ↓wOrV_eq, ↓wNotV_eq, ↓wNeg_eq, ↓wPart_eq, ↓wSl_eq, ↓wN_eq, ↓wM_eq, ↓wMut_eq, ↓wTup_eq, ↓wLst_eq, ↓wCall_eq, ↓wGTup_eq, ↓wGCons_eq, ↓wGSub_eq, ↓wIsi_eq, ↓wIsi2_eq, ↓wIt_eq, ↓wRng1_eq, ↓wRng2_eq, ↓wLenSc_eq, ↓wIxSc_eq, ↓wPar_eq, ↓asgn_eq, ↓asgn_fz, ↓asgn_ow, ↓asgn_loc, ↓retR_fz, ↓retR_ow, ↓retR_loc, ↓wFor_eq, ↓wLc_eq, ↓wVar_eq, ↓wC_eq, ↓wNil_eq, ↓wCons_eq, ↓wAndT_eq, ↓wOrT_eq, ↓wNotT_eq, ↓wIfE_eq, ↓wNoPart_eq, ↓wYes_eq, ↓wNext_eq, ↓wBreak_eq, ↓wCont_eq, ↓wSeq_eq, ↓wDrop_eq, ↓wRet_eq, ↓wRetN_eq, ↓wIf_eq, ↓wAsg_eq, ↓wGNil_eq, ↓gOfB_eq, ↓endsF_nx, ↓endsF_rt, ↓bnd_some, ↓bnd_none, ↓ind_int, ↓tst_bool, ↓tsto_bool, ↓locR_loc, ↓tupR_tup, ↓cns_cons, ↓two_two, ↓ints1_int, ↓ints2_int, ↓g1_eq, ↓g2_eq, ↓gEq_eq, ↓gNe_eq, ↓gRepr_eq, ↓gIn_one, ↓gIs_bb, ↓gIs_none, ↓gIn_list, ↓gIn_tuple, ↓gSl_list, ↓gSl_tuple, ↓gSl_str, ↓gIx_list, ↓gIx_tuple, ↓gIx_str, ↓gSetL_eq, ↓gSum_eq, ↓gBools_eq, ↓gJoin_eq, ↓gAdd.eq_1, ↓gAdd.eq_2, ↓gAdd.eq_3, ↓gAdd.eq_4, ↓PL.gSub.eq_1, ↓gMod.eq_1, ↓gDiv.eq_1, ↓gPow.eq_1, ↓gMul.eq_1, ↓gMul.eq_2, ↓gMul.eq_3, ↓gCmp.eq_1, ↓gCmp.eq_2, ↓gLen.eq_1, ↓gLen.eq_2, ↓gLen.eq_3, ↓gAbs.eq_1, ↓gInt.eq_1, ↓gInt.eq_2, ↓gI2.eq_1, ↓gTup1.eq_1, ↓gTup1.eq_2, ↓gLst1.eq_1, ↓gLst1.eq_2, ↓gAppend.eq_1, ↓gCount.eq_1, ↓gUpper.eq_1, eqv_int, eqv_str, eqv_bool, eqv_ns, eqv_sn, eqv_nn, eqv_ni, eqv_in, eqv_si, eqv_is, eqOk_int, eqOk_str, eqOk_bool, eqOk_ns, eqOk_sn, eqOk_nn, eqOk_ni, eqOk_in, eqOk_si, eqOk_is, beq_iff_eq, ixN_0, ixN_1, ixN_2, ixN_3, ixN_4, ixN_5, ixN_6, ixN_7, atI_0, atI_1, atI_2, atI_3, atI_4, atI_5, atI_6, atI_7, rVar, lookAll, ownAt?, look, frz, frzAll, Out.res, okSlot_eq, okO_some, okS_fz, okS_ow, okS_sc, okS_none, wipeE, restE, prep, back, lent, lentOk, outsOf, outsFrom, argE, Res.good, isTy, tyN, noDict, itD, scAt, owA, fixR, isL, isS, seqOf, truth, truOk, List.getElem?_cons_zero, List.getElem?_cons_succ, List.set_cons_zero, List.set_cons_succ, List.replicate_zero, List.replicate_succ, List.cons_append, List.nil_append, List.append_nil, Option.some.injEq, Prod.mk.injEq, PyData.int.injEq, PyData.list.injEq, PyData.str.injEq, PyData.bool.injEq, PyData.tuple.injEq, Res.loc.injEq, Res.fz.injEq, Res.ow.injEq, and_true, true_and, List.length_cons, List.length_nil, if_true, if_false, reduceIte, Bool.false_eq_true, Option.map_some, List.cons.injEq, List.mem_cons, List.not_mem_nil, or_false, forall_eq, not_true_eq_false, not_false_eq_true, Bool.not_true, Bool.not_false, forall_const, List.nodup_nil, List.nodup_cons, Option.isSome_some, decide_eq_true_eq, Nat.reduceLeDiff, Nat.reduceAdd, Nat.zero_add, exists_eq', Int.reduceLT, Int.reduceLE, Int.reduceNeg, Int.reducePow, Nat.reducePow, Int.reduceToNat, Int.reduceAdd, Int.reduceMul, Nat.reduceMul, Nat.reduceEqDiff, Nat.reduceSub, String.reduceBEq, beq_self_eq_true, Bool.and_true, Bool.true_and, Bool.or_true, Bool.true_or, Bool.or_false, Bool.false_or, Bool.and_false, Bool.false_and, Bool.not_eq_true, Bool.not_eq_false, reduceCtorEq, PL.ints_map]
      generalize (L.cps.toList.map fun c => ((z.cps.toList.count c : Nat) : Int)).sum = S at key ⊢
      split
      · split
        · refine ⟨by omega, hq _ ?_⟩
          rw [hn]
          show (S == (z.length : Int)) = _
          rw [Bool.eq_iff_iff, decide_eq_true_iff, ← key, beq_iff_eq]
          omega
        · refine hq _ ?_
          rw [hn, decide_eq_false (by omega)]
          symm
          refine decide_eq_false fun h => ?_
          have := key.mpr h
          omega
      · refine hq _ ?_
        rw [hn]
        symm
        refine decide_eq_false fun h => ?_
        have := key.mpr h
        omega
  | dict _ => cases nd
  | _ =>
    simp -dsimp -implicitDefEqProofs only [g__law_is, w__law_is, w__law_is_0, w__law_is_1, w__law_is_2, ↓w2_eq, ↓wT_eq, ↓wChain_eq, ↓wTru_eq, ↓wAndV_eq, ↓wOrV_eq, ↓wNotV_eq, ↓wNeg_eq, ↓wPart_eq, ↓wSl_eq, ↓wN_eq, ↓wM_eq, ↓wMut_eq, ↓wTup_eq, ↓wLst_eq, ↓wCall_eq, ↓wGTup_eq, ↓wGCons_eq, ↓wGSub_eq, ↓wIsi_eq, ↓wIsi2_eq, ↓wIt_eq, ↓wRng1_eq, ↓wRng2_eq, ↓wLenSc_eq, ↓wIxSc_eq, ↓wPar_eq, ↓asgn_eq, ↓asgn_fz, ↓asgn_ow, ↓asgn_loc, ↓retR_fz, ↓retR_ow, ↓retR_loc, ↓wFor_eq, ↓wLc_eq, ↓wVar_eq, ↓wC_eq, ↓wNil_eq, ↓wCons_eq, ↓wAndT_eq, ↓wOrT_eq, ↓wNotT_eq, ↓wIfE_eq, ↓wNoPart_eq, ↓wYes_eq, ↓wNext_eq, ↓wBreak_eq, ↓wCont_eq, ↓wSeq_eq, ↓wDrop_eq, ↓wRet_eq, ↓wRetN_eq, ↓wIf_eq, ↓wAsg_eq, ↓wGNil_eq, ↓gOfB_eq, ↓endsF_nx, ↓endsF_rt, ↓bnd_some, ↓bnd_none, ↓ind_int, ↓tst_bool, ↓tsto_bool, ↓locR_loc, ↓tupR_tup, ↓cns_cons, ↓two_two, ↓ints1_int, ↓ints2_int, ↓g1_eq, ↓g2_eq, ↓gEq_eq, ↓gNe_eq, ↓gRepr_eq, ↓gIn_one, ↓gIs_bb, ↓gIs_none, ↓gIn_list, ↓gIn_tuple, ↓gSl_list, ↓gSl_tuple, ↓gSl_str, ↓gIx_list, ↓gIx_tuple, ↓gIx_str, ↓gSetL_eq, ↓gSum_eq, ↓gBools_eq, ↓gJoin_eq, ↓gAdd.eq_1, ↓gAdd.eq_2, ↓gAdd.eq_3, ↓gAdd.eq_4, ↓PL.gSub.eq_1, ↓gMod.eq_1, ↓gDiv.eq_1, ↓gPow.eq_1, ↓gMul.eq_1, ↓gMul.eq_2, ↓gMul.eq_3, ↓gCmp.eq_1, ↓gCmp.eq_2, ↓gLen.eq_1, ↓gLen.eq_2, ↓gLen.eq_3, ↓gAbs.eq_1, ↓gInt.eq_1, ↓gInt.eq_2, ↓gI2.eq_1, ↓gTup1.eq_1, ↓gTup1.eq_2, ↓gLst1.eq_1, ↓gLst1.eq_2, ↓gAppend.eq_1, ↓gCount.eq_1, ↓gUpper.eq_1, eqv_int, eqv_str, eqv_bool, eqv_ns, eqv_sn, eqv_nn, eqv_ni, eqv_in, eqv_si, eqv_is, eqOk_int, eqOk_str, eqOk_bool, eqOk_ns, eqOk_sn, eqOk_nn, eqOk_ni, eqOk_in, eqOk_si, eqOk_is, beq_iff_eq, ixN_0, ixN_1, ixN_2, ixN_3, ixN_4, ixN_5, ixN_6, ixN_7, atI_0, atI_1, atI_2, atI_3, atI_4, atI_5, atI_6, atI_7, rVar, lookAll, ownAt?, look, frz, frzAll, Out.res, okSlot_eq, okO_some, okS_fz, okS_ow, okS_sc, okS_none, wipeE, restE, prep, back, lent, lentOk, outsOf, outsFrom, argE, Res.good, isTy, tyN, noDict, itD, scAt, owA, fixR, isL, isS, seqOf, truth, truOk, List.getElem?_cons_zero, List.getElem?_cons_succ, List.set_cons_zero, List.set_cons_succ, List.replicate_zero, List.replicate_succ, List.cons_append, List.nil_append, List.append_nil, Option.some.injEq, Prod.mk.injEq, PyData.int.injEq, PyData.list.injEq, PyData.str.injEq, PyData.bool.injEq, PyData.tuple.injEq, Res.loc.injEq, Res.fz.injEq, Res.ow.injEq, and_true, true_and, List.length_cons, List.length_nil, if_true, if_false, reduceIte, Bool.false_eq_true, Option.map_some, List.cons.injEq, List.mem_cons, List.not_mem_nil, or_false, forall_eq, not_true_eq_false, not_false_eq_true, Bool.not_true, Bool.not_false, forall_const, List.nodup_nil, List.nodup_cons, Option.isSome_some, decide_eq_true_eq, Nat.reduceLeDiff, Nat.reduceAdd, Nat.zero_add, exists_eq', Int.reduceLT, Int.reduceLE, Int.reduceNeg, Int.reducePow, Nat.reducePow, Int.reduceToNat, Int.reduceAdd, Int.reduceMul, Nat.reduceMul, Nat.reduceEqDiff, Nat.reduceSub, String.reduceBEq, beq_self_eq_true, Bool.and_true, Bool.true_and, Bool.or_true, Bool.true_or, Bool.or_false, Bool.false_or, Bool.and_false, Bool.false_and, Bool.not_eq_true, Bool.not_eq_false, reduceCtorEq]
    exact hQ _
theorem isN_bool (b : D) : ∃ k, PyData.bool (isN b) = .bool k := ⟨_, rfl⟩
/-- what may be asked about -/
structure Good (n : Nat) (d : D) : Prop where
  nd : noDict d = true
  sh : d.canLay0 = true ∧ d.showable = true ∧ d.depth ≤ 64 ∧ d.shown.length ≤ sizeLine
  tx : ∀ z, d = .str z → TOk n z
theorem Good.mono {n m : Nat} {d : D} (h : Good n d) (hm : n ≤ m) : Good m d := ⟨h.nd, h.sh, fun z q => (h.tx z q).mono hm⟩
theorem right_ok {n : Nat} {d : D} {Q : Res → List D → Prop} (g : Good n d) (hn : n ≤ 1000) (hQ : ∀ o, Q (.fz (.bool true)) o) : g__law_right [d] Q := by
  have hz : ∀ z, d = .str z → z.length ≤ 1000 := fun z q => Nat.le_trans (g.tx z q).l hn
  simp -dsimp -implicitDefEqProofs only [g__law_right, w__law_right, w__law_right_0, w__law_right_1, ↓w2_eq, ↓wT_eq, ↓wChain_eq, ↓wTru_eq, ↓wAndV_eq, ↓wOrV_eq, ↓wNotV_eq, ↓wNeg_eq, ↓wPart_eq, ↓wSl_eq, ↓wN_eq, ↓wM_eq, ↓wMut_eq, ↓wTup_eq, ↓wLst_eq, ↓wCall_eq, ↓wGTup_eq, ↓wGCons_eq, ↓wGSub_eq, ↓wIsi_eq, ↓wIsi2_eq, ↓wIt_eq, ↓wRng1_eq, ↓wRng2_eq, ↓wLenSc_eq, ↓wIxSc_eq, ↓wPar_eq, ↓asgn_eq, ↓asgn_fz, ↓asgn_ow, ↓asgn_loc, ↓retR_fz, ↓retR_ow, ↓retR_loc, ↓wFor_eq, ↓wLc_eq, ↓wVar_eq, ↓wC_eq, ↓wNil_eq, ↓wCons_eq, ↓wAndT_eq, ↓wOrT_eq, ↓wNotT_eq, ↓wIfE_eq, ↓wNoPart_eq, ↓wYes_eq, ↓wNext_eq, ↓wBreak_eq, ↓wCont_eq, ↓wSeq_eq, ↓wDrop_eq, ↓wRet_eq, ↓wRetN_eq, ↓wIf_eq, ↓wAsg_eq, ↓wGNil_eq, ↓gOfB_eq, ↓endsF_nx, ↓endsF_rt, ↓bnd_some, ↓bnd_none, ↓ind_int, ↓tst_bool, ↓tsto_bool, ↓locR_loc, ↓tupR_tup, ↓cns_cons, ↓two_two, ↓ints1_int, ↓ints2_int, ↓g1_eq, ↓g2_eq, ↓gEq_eq, ↓gNe_eq, ↓gRepr_eq, ↓gIn_one, ↓gIs_bb, ↓gIs_none, ↓gIn_list, ↓gIn_tuple, ↓gSl_list, ↓gSl_tuple, ↓gSl_str, ↓gIx_list, ↓gIx_tuple, ↓gIx_str, ↓gSetL_eq, ↓gSum_eq, ↓gBools_eq, ↓gJoin_eq, ↓gAdd.eq_1, ↓gAdd.eq_2, ↓gAdd.eq_3, ↓gAdd.eq_4, ↓PL.gSub.eq_1, ↓gMod.eq_1, ↓gDiv.eq_1, ↓gPow.eq_1, ↓gMul.eq_1, ↓gMul.eq_2, ↓gMul.eq_3, ↓gCmp.eq_1, ↓gCmp.eq_2, ↓gLen.eq_1, ↓gLen.eq_2, ↓gLen.eq_3, ↓gAbs.eq_1, ↓gInt.eq_1, ↓gInt.eq_2, ↓gI2.eq_1, ↓gTup1.eq_1, ↓gTup1.eq_2, ↓gLst1.eq_1, ↓gLst1.eq_2, ↓gAppend.eq_1, ↓gCount.eq_1, ↓gUpper.eq_1, eqv_int, eqv_str, eqv_bool, eqv_ns, eqv_sn, eqv_nn, eqv_ni, eqv_in, eqv_si, eqv_is, eqOk_int, eqOk_str, eqOk_bool, eqOk_ns, eqOk_sn, eqOk_nn, eqOk_ni, eqOk_in, eqOk_si, eqOk_is, beq_iff_eq, ixN_0, ixN_1, ixN_2, ixN_3, ixN_4, ixN_5, ixN_6, ixN_7, atI_0, atI_1, atI_2, atI_3, atI_4, atI_5, atI_6, atI_7, rVar, lookAll, ownAt?, look, frz, frzAll, Out.res, okSlot_eq, okO_some, okS_fz, okS_ow, okS_sc, okS_none, wipeE, restE, prep, back, lent, lentOk, outsOf, outsFrom, argE, Res.good, isTy, tyN, noDict, itD, scAt, owA, fixR, isL, isS, seqOf, truth, truOk, List.getElem?_cons_zero, List.getElem?_cons_succ, List.set_cons_zero, List.set_cons_succ, List.replicate_zero, List.replicate_succ, List.cons_append, List.nil_append, List.append_nil, Option.some.injEq, Prod.mk.injEq, PyData.int.injEq, PyData.list.injEq, PyData.str.injEq, PyData.bool.injEq, PyData.tuple.injEq, Res.loc.injEq, Res.fz.injEq, Res.ow.injEq, and_true, true_and, List.length_cons, List.length_nil, if_true, if_false, reduceIte, Bool.false_eq_true, Option.map_some, List.cons.injEq, List.mem_cons, List.not_mem_nil, or_false, forall_eq, not_true_eq_false, not_false_eq_true, Bool.not_true, Bool.not_false, forall_const, List.nodup_nil, List.nodup_cons, Option.isSome_some, decide_eq_true_eq, Nat.reduceLeDiff, Nat.reduceAdd, Nat.zero_add, exists_eq', Int.reduceLT, Int.reduceLE, Int.reduceNeg, Int.reducePow, Nat.reducePow, Int.reduceToNat, Int.reduceAdd, Int.reduceMul, Nat.reduceMul, Nat.reduceEqDiff, Nat.reduceSub, String.reduceBEq, beq_self_eq_true, Bool.and_true, Bool.true_and, Bool.or_true, Bool.true_or, Bool.or_false, Bool.false_or, Bool.and_false, Bool.false_and, Bool.not_eq_true, Bool.not_eq_false, reduceCtorEq]
  refine ⟨g.sh, callT_of (is_name_ok g.nd hz fun o h1 h2 => ?_)⟩
  match o, h2 with
  | [o1], _ =>
  simp -dsimp -implicitDefEqProofs only [↓w2_eq, ↓wT_eq, ↓wChain_eq, ↓wTru_eq, ↓wAndV_eq, ↓wOrV_eq, ↓wNotV_eq, ↓wNeg_eq, ↓wPart_eq, ↓wSl_eq, ↓wN_eq, ↓wM_eq, ↓wMut_eq, ↓wTup_eq, ↓wLst_eq, ↓wCall_eq, ↓wGTup_eq, ↓wGCons_eq, ↓wGSub_eq, ↓wIsi_eq, ↓wIsi2_eq, ↓wIt_eq, ↓wRng1_eq, ↓wRng2_eq, ↓wLenSc_eq, ↓wIxSc_eq, ↓wPar_eq, ↓asgn_eq, ↓asgn_fz, ↓asgn_ow, ↓asgn_loc, ↓retR_fz, ↓retR_ow, ↓retR_loc, ↓wFor_eq, ↓wLc_eq, ↓wVar_eq, ↓wC_eq, ↓wNil_eq, ↓wCons_eq, ↓wAndT_eq, ↓wOrT_eq, ↓wNotT_eq, ↓wIfE_eq, ↓wNoPart_eq, ↓wYes_eq, ↓wNext_eq, ↓wBreak_eq, ↓wCont_eq, ↓wSeq_eq, ↓wDrop_eq, ↓wRet_eq, ↓wRetN_eq, ↓wIf_eq, ↓wAsg_eq, ↓wGNil_eq, ↓gOfB_eq, ↓endsF_nx, ↓endsF_rt, ↓bnd_some, ↓bnd_none, ↓ind_int, ↓tst_bool, ↓tsto_bool, ↓locR_loc, ↓tupR_tup, ↓cns_cons, ↓two_two, ↓ints1_int, ↓ints2_int, ↓g1_eq, ↓g2_eq, ↓gEq_eq, ↓gNe_eq, ↓gRepr_eq, ↓gIn_one, ↓gIs_bb, ↓gIs_none, ↓gIn_list, ↓gIn_tuple, ↓gSl_list, ↓gSl_tuple, ↓gSl_str, ↓gIx_list, ↓gIx_tuple, ↓gIx_str, ↓gSetL_eq, ↓gSum_eq, ↓gBools_eq, ↓gJoin_eq, ↓gAdd.eq_1, ↓gAdd.eq_2, ↓gAdd.eq_3, ↓gAdd.eq_4, ↓PL.gSub.eq_1, ↓gMod.eq_1, ↓gDiv.eq_1, ↓gPow.eq_1, ↓gMul.eq_1, ↓gMul.eq_2, ↓gMul.eq_3, ↓gCmp.eq_1, ↓gCmp.eq_2, ↓gLen.eq_1, ↓gLen.eq_2, ↓gLen.eq_3, ↓gAbs.eq_1, ↓gInt.eq_1, ↓gInt.eq_2, ↓gI2.eq_1, ↓gTup1.eq_1, ↓gTup1.eq_2, ↓gLst1.eq_1, ↓gLst1.eq_2, ↓gAppend.eq_1, ↓gCount.eq_1, ↓gUpper.eq_1, eqv_int, eqv_str, eqv_bool, eqv_ns, eqv_sn, eqv_nn, eqv_ni, eqv_in, eqv_si, eqv_is, eqOk_int, eqOk_str, eqOk_bool, eqOk_ns, eqOk_sn, eqOk_nn, eqOk_ni, eqOk_in, eqOk_si, eqOk_is, beq_iff_eq, ixN_0, ixN_1, ixN_2, ixN_3, ixN_4, ixN_5, ixN_6, ixN_7, atI_0, atI_1, atI_2, atI_3, atI_4, atI_5, atI_6, atI_7, rVar, lookAll, ownAt?, look, frz, frzAll, Out.res, okSlot_eq, okO_some, okS_fz, okS_ow, okS_sc, okS_none, wipeE, restE, prep, back, lent, lentOk, outsOf, outsFrom, argE, Res.good, isTy, tyN, noDict, itD, scAt, owA, fixR, isL, isS, seqOf, truth, truOk, List.getElem?_cons_zero, List.getElem?_cons_succ, List.set_cons_zero, List.set_cons_succ, List.replicate_zero, List.replicate_succ, List.cons_append, List.nil_append, List.append_nil, Option.some.injEq, Prod.mk.injEq, PyData.int.injEq, PyData.list.injEq, PyData.str.injEq, PyData.bool.injEq, PyData.tuple.injEq, Res.loc.injEq, Res.fz.injEq, Res.ow.injEq, and_true, true_and, List.length_cons, List.length_nil, if_true, if_false, reduceIte, Bool.false_eq_true, Option.map_some, List.cons.injEq, List.mem_cons, List.not_mem_nil, or_false, forall_eq, not_true_eq_false, not_false_eq_true, Bool.not_true, Bool.not_false, forall_const, List.nodup_nil, List.nodup_cons, Option.isSome_some, decide_eq_true_eq, Nat.reduceLeDiff, Nat.reduceAdd, Nat.zero_add, exists_eq', Int.reduceLT, Int.reduceLE, Int.reduceNeg, Int.reducePow, Nat.reducePow, Int.reduceToNat, Int.reduceAdd, Int.reduceMul, Nat.reduceMul, Nat.reduceEqDiff, Nat.reduceSub, String.reduceBEq, beq_self_eq_true, Bool.and_true, Bool.true_and, Bool.or_true, Bool.true_or, Bool.or_false, Bool.false_or, Bool.and_false, Bool.false_and, Bool.not_eq_true, Bool.not_eq_false, reduceCtorEq]
  refine callT_of (is_name_ok g.nd hz fun o h1 h2 => ?_)
  match o, h2 with
  | [o1], _ =>
  simp -dsimp -implicitDefEqProofs only [w__law_right_2, ↓w2_eq, ↓wT_eq, ↓wChain_eq, ↓wTru_eq, ↓wAndV_eq, ↓wOrV_eq, ↓wNotV_eq, ↓wNeg_eq, ↓wPart_eq, ↓wSl_eq, ↓wN_eq, ↓wM_eq, ↓wMut_eq, ↓wTup_eq, ↓wLst_eq, ↓wCall_eq, ↓wGTup_eq, ↓wGCons_eq, ↓wGSub_eq, ↓wIsi_eq, ↓wIsi2_eq, ↓wIt_eq, ↓wRng1_eq, ↓wRng2_eq, ↓wLenSc_eq, ↓wIxSc_eq, ↓wPar_eq, ↓asgn_eq, ↓asgn_fz, ↓asgn_ow, ↓asgn_loc, ↓retR_fz, ↓retR_ow, ↓retR_loc, ↓wFor_eq, ↓wLc_eq, ↓wVar_eq, ↓wC_eq, ↓wNil_eq, ↓wCons_eq, ↓wAndT_eq, ↓wOrT_eq, ↓wNotT_eq, ↓wIfE_eq, ↓wNoPart_eq, ↓wYes_eq, ↓wNext_eq, ↓wBreak_eq, ↓wCont_eq, ↓wSeq_eq, ↓wDrop_eq, ↓wRet_eq, ↓wRetN_eq, ↓wIf_eq, ↓wAsg_eq, ↓wGNil_eq, ↓gOfB_eq, ↓endsF_nx, ↓endsF_rt, ↓bnd_some, ↓bnd_none, ↓ind_int, ↓tst_bool, ↓tsto_bool, ↓locR_loc, ↓tupR_tup, ↓cns_cons, ↓two_two, ↓ints1_int, ↓ints2_int, ↓g1_eq, ↓g2_eq, ↓gEq_eq, ↓gNe_eq, ↓gRepr_eq, ↓gIn_one, ↓gIs_bb, ↓gIs_none, ↓gIn_list, ↓gIn_tuple, ↓gSl_list, ↓gSl_tuple, ↓gSl_str, ↓gIx_list, ↓gIx_tuple, ↓gIx_str, ↓gSetL_eq, ↓gSum_eq, ↓gBools_eq, ↓gJoin_eq, ↓gAdd.eq_1, ↓gAdd.eq_2, ↓gAdd.eq_3, ↓gAdd.eq_4, ↓PL.gSub.eq_1, ↓gMod.eq_1, ↓gDiv.eq_1, ↓gPow.eq_1, ↓gMul.eq_1, ↓gMul.eq_2, ↓gMul.eq_3, ↓gCmp.eq_1, ↓gCmp.eq_2, ↓gLen.eq_1, ↓gLen.eq_2, ↓gLen.eq_3, ↓gAbs.eq_1, ↓gInt.eq_1, ↓gInt.eq_2, ↓gI2.eq_1, ↓gTup1.eq_1, ↓gTup1.eq_2, ↓gLst1.eq_1, ↓gLst1.eq_2, ↓gAppend.eq_1, ↓gCount.eq_1, ↓gUpper.eq_1, eqv_int, eqv_str, eqv_bool, eqv_ns, eqv_sn, eqv_nn, eqv_ni, eqv_in, eqv_si, eqv_is, eqOk_int, eqOk_str, eqOk_bool, eqOk_ns, eqOk_sn, eqOk_nn, eqOk_ni, eqOk_in, eqOk_si, eqOk_is, beq_iff_eq, ixN_0, ixN_1, ixN_2, ixN_3, ixN_4, ixN_5, ixN_6, ixN_7, atI_0, atI_1, atI_2, atI_3, atI_4, atI_5, atI_6, atI_7, rVar, lookAll, ownAt?, look, frz, frzAll, Out.res, okSlot_eq, okO_some, okS_fz, okS_ow, okS_sc, okS_none, wipeE, restE, prep, back, lent, lentOk, outsOf, outsFrom, argE, Res.good, isTy, tyN, noDict, itD, scAt, owA, fixR, isL, isS, seqOf, truth, truOk, List.getElem?_cons_zero, List.getElem?_cons_succ, List.set_cons_zero, List.set_cons_succ, List.replicate_zero, List.replicate_succ, List.cons_append, List.nil_append, List.append_nil, Option.some.injEq, Prod.mk.injEq, PyData.int.injEq, PyData.list.injEq, PyData.str.injEq, PyData.bool.injEq, PyData.tuple.injEq, Res.loc.injEq, Res.fz.injEq, Res.ow.injEq, and_true, true_and, List.length_cons, List.length_nil, if_true, if_false, reduceIte, Bool.false_eq_true, Option.map_some, List.cons.injEq, List.mem_cons, List.not_mem_nil, or_false, forall_eq, not_true_eq_false, not_false_eq_true, Bool.not_true, Bool.not_false, forall_const, List.nodup_nil, List.nodup_cons, Option.isSome_some, decide_eq_true_eq, Nat.reduceLeDiff, Nat.reduceAdd, Nat.zero_add, exists_eq', Int.reduceLT, Int.reduceLE, Int.reduceNeg, Int.reducePow, Nat.reducePow, Int.reduceToNat, Int.reduceAdd, Int.reduceMul, Nat.reduceMul, Nat.reduceEqDiff, Nat.reduceSub, String.reduceBEq, beq_self_eq_true, Bool.and_true, Bool.true_and, Bool.or_true, Bool.true_or, Bool.or_false, Bool.false_or, Bool.and_false, Bool.false_and, Bool.not_eq_true, Bool.not_eq_false, reduceCtorEq]
  refine callT_of (law_is_ok g.nd hz fun o h1 h2 => ?_)
  match o, h2 with
  | [o1], _ =>
  simp -dsimp -implicitDefEqProofs only [↓w2_eq, ↓wT_eq, ↓wChain_eq, ↓wTru_eq, ↓wAndV_eq, ↓wOrV_eq, ↓wNotV_eq, ↓wNeg_eq, ↓wPart_eq, ↓wSl_eq, ↓wN_eq, ↓wM_eq, ↓wMut_eq, ↓wTup_eq, ↓wLst_eq, ↓wCall_eq, ↓wGTup_eq, ↓wGCons_eq, ↓wGSub_eq, ↓wIsi_eq, ↓wIsi2_eq, ↓wIt_eq, ↓wRng1_eq, ↓wRng2_eq, ↓wLenSc_eq, ↓wIxSc_eq, ↓wPar_eq, ↓asgn_eq, ↓asgn_fz, ↓asgn_ow, ↓asgn_loc, ↓retR_fz, ↓retR_ow, ↓retR_loc, ↓wFor_eq, ↓wLc_eq, ↓wVar_eq, ↓wC_eq, ↓wNil_eq, ↓wCons_eq, ↓wAndT_eq, ↓wOrT_eq, ↓wNotT_eq, ↓wIfE_eq, ↓wNoPart_eq, ↓wYes_eq, ↓wNext_eq, ↓wBreak_eq, ↓wCont_eq, ↓wSeq_eq, ↓wDrop_eq, ↓wRet_eq, ↓wRetN_eq, ↓wIf_eq, ↓wAsg_eq, ↓wGNil_eq, ↓gOfB_eq, ↓endsF_nx, ↓endsF_rt, ↓bnd_some, ↓bnd_none, ↓ind_int, ↓tst_bool, ↓tsto_bool, ↓locR_loc, ↓tupR_tup, ↓cns_cons, ↓two_two, ↓ints1_int, ↓ints2_int, ↓g1_eq, ↓g2_eq, ↓gEq_eq, ↓gNe_eq, ↓gRepr_eq, ↓gIn_one, ↓gIs_bb, ↓gIs_none, ↓gIn_list, ↓gIn_tuple, ↓gSl_list, ↓gSl_tuple, ↓gSl_str, ↓gIx_list, ↓gIx_tuple, ↓gIx_str, ↓gSetL_eq, ↓gSum_eq, ↓gBools_eq, ↓gJoin_eq, ↓gAdd.eq_1, ↓gAdd.eq_2, ↓gAdd.eq_3, ↓gAdd.eq_4, ↓PL.gSub.eq_1, ↓gMod.eq_1, ↓gDiv.eq_1, ↓gPow.eq_1, ↓gMul.eq_1, ↓gMul.eq_2, ↓gMul.eq_3, ↓gCmp.eq_1, ↓gCmp.eq_2, ↓gLen.eq_1, ↓gLen.eq_2, ↓gLen.eq_3, ↓gAbs.eq_1, ↓gInt.eq_1, ↓gInt.eq_2, ↓gI2.eq_1, ↓gTup1.eq_1, ↓gTup1.eq_2, ↓gLst1.eq_1, ↓gLst1.eq_2, ↓gAppend.eq_1, ↓gCount.eq_1, ↓gUpper.eq_1, eqv_int, eqv_str, eqv_bool, eqv_ns, eqv_sn, eqv_nn, eqv_ni, eqv_in, eqv_si, eqv_is, eqOk_int, eqOk_str, eqOk_bool, eqOk_ns, eqOk_sn, eqOk_nn, eqOk_ni, eqOk_in, eqOk_si, eqOk_is, beq_iff_eq, ixN_0, ixN_1, ixN_2, ixN_3, ixN_4, ixN_5, ixN_6, ixN_7, atI_0, atI_1, atI_2, atI_3, atI_4, atI_5, atI_6, atI_7, rVar, lookAll, ownAt?, look, frz, frzAll, Out.res, okSlot_eq, okO_some, okS_fz, okS_ow, okS_sc, okS_none, wipeE, restE, prep, back, lent, lentOk, outsOf, outsFrom, argE, Res.good, isTy, tyN, noDict, itD, scAt, owA, fixR, isL, isS, seqOf, truth, truOk, List.getElem?_cons_zero, List.getElem?_cons_succ, List.set_cons_zero, List.set_cons_succ, List.replicate_zero, List.replicate_succ, List.cons_append, List.nil_append, List.append_nil, Option.some.injEq, Prod.mk.injEq, PyData.int.injEq, PyData.list.injEq, PyData.str.injEq, PyData.bool.injEq, PyData.tuple.injEq, Res.loc.injEq, Res.fz.injEq, Res.ow.injEq, and_true, true_and, List.length_cons, List.length_nil, if_true, if_false, reduceIte, Bool.false_eq_true, Option.map_some, List.cons.injEq, List.mem_cons, List.not_mem_nil, or_false, forall_eq, not_true_eq_false, not_false_eq_true, Bool.not_true, Bool.not_false, forall_const, List.nodup_nil, List.nodup_cons, Option.isSome_some, decide_eq_true_eq, Nat.reduceLeDiff, Nat.reduceAdd, Nat.zero_add, exists_eq', Int.reduceLT, Int.reduceLE, Int.reduceNeg, Int.reducePow, Nat.reducePow, Int.reduceToNat, Int.reduceAdd, Int.reduceMul, Nat.reduceMul, Nat.reduceEqDiff, Nat.reduceSub, String.reduceBEq, beq_self_eq_true, Bool.and_true, Bool.true_and, Bool.or_true, Bool.true_or, Bool.or_false, Bool.false_or, Bool.and_false, Bool.false_and, Bool.not_eq_true, Bool.not_eq_false, reduceCtorEq]
  generalize isN d = b
  have e1 : (PyData.list [PyData.bool b, PyData.bool b]).eqv (PyData.list [[PyData.bool b], [PyData.bool b]].flatten) = true := by
    cases b <;> simp [PyData.eqv, PyData.eqvAll]
  rw [e1]
  refine ⟨by cases b <;> exact ⟨by decide +kernel, by decide +kernel⟩, ?_⟩
  refine iteT (lcLT_inv (fun i acc e => acc = (List.replicate i true).map PyData.bool ∧ e = [some (.fz, d), some (.fz, .str d.shown), some (.fz, .list [.bool b, .bool b]), none]) ⟨rfl, rfl⟩ (fun i d' acc e K hd hi hk => ?_) (fun acc e hi => ?_))
  · obtain ⟨rfl, rfl⟩ := hi
    have : d' = .bool b := by
      match i, hd with
      | 0, h => cases h; rfl
      | 1, h => cases h; rfl
    subst this
    simp -dsimp -implicitDefEqProofs only [↓w2_eq, ↓wT_eq, ↓wChain_eq, ↓wTru_eq, ↓wAndV_eq, ↓wOrV_eq, ↓wNotV_eq, ↓wNeg_eq, ↓wPart_eq, ↓wSl_eq, ↓wN_eq, ↓wM_eq, ↓wMut_eq, ↓wTup_eq, ↓wLst_eq, ↓wCall_eq, ↓wGTup_eq, ↓wGCons_eq, ↓wGSub_eq, ↓wIsi_eq, ↓wIsi2_eq, ↓wIt_eq, ↓wRng1_eq, ↓wRng2_eq, ↓wLenSc_eq, ↓wIxSc_eq, ↓wPar_eq, ↓asgn_eq, ↓asgn_fz, ↓asgn_ow, ↓asgn_loc, ↓retR_fz, ↓retR_ow, ↓retR_loc, ↓wFor_eq, ↓wLc_eq, ↓wVar_eq, ↓wC_eq, ↓wNil_eq, ↓wCons_eq, ↓wAndT_eq, ↓wOrT_eq, ↓wNotT_eq, ↓wIfE_eq, ↓wNoPart_eq, ↓wYes_eq, ↓wNext_eq, ↓wBreak_eq, ↓wCont_eq, ↓wSeq_eq, ↓wDrop_eq, ↓wRet_eq, ↓wRetN_eq, ↓wIf_eq, ↓wAsg_eq, ↓wGNil_eq, ↓gOfB_eq, ↓endsF_nx, ↓endsF_rt, ↓bnd_some, ↓bnd_none, ↓ind_int, ↓tst_bool, ↓tsto_bool, ↓locR_loc, ↓tupR_tup, ↓cns_cons, ↓two_two, ↓ints1_int, ↓ints2_int, ↓g1_eq, ↓g2_eq, ↓gEq_eq, ↓gNe_eq, ↓gRepr_eq, ↓gIn_one, ↓gIs_bb, ↓gIs_none, ↓gIn_list, ↓gIn_tuple, ↓gSl_list, ↓gSl_tuple, ↓gSl_str, ↓gIx_list, ↓gIx_tuple, ↓gIx_str, ↓gSetL_eq, ↓gSum_eq, ↓gBools_eq, ↓gJoin_eq, ↓gAdd.eq_1, ↓gAdd.eq_2, ↓gAdd.eq_3, ↓gAdd.eq_4, ↓PL.gSub.eq_1, ↓gMod.eq_1, ↓gDiv.eq_1, ↓gPow.eq_1, ↓gMul.eq_1, ↓gMul.eq_2, ↓gMul.eq_3, ↓gCmp.eq_1, ↓gCmp.eq_2, ↓gLen.eq_1, ↓gLen.eq_2, ↓gLen.eq_3, ↓gAbs.eq_1, ↓gInt.eq_1, ↓gInt.eq_2, ↓gI2.eq_1, ↓gTup1.eq_1, ↓gTup1.eq_2, ↓gLst1.eq_1, ↓gLst1.eq_2, ↓gAppend.eq_1, ↓gCount.eq_1, ↓gUpper.eq_1, eqv_int, eqv_str, eqv_bool, eqv_ns, eqv_sn, eqv_nn, eqv_ni, eqv_in, eqv_si, eqv_is, eqOk_int, eqOk_str, eqOk_bool, eqOk_ns, eqOk_sn, eqOk_nn, eqOk_ni, eqOk_in, eqOk_si, eqOk_is, beq_iff_eq, ixN_0, ixN_1, ixN_2, ixN_3, ixN_4, ixN_5, ixN_6, ixN_7, atI_0, atI_1, atI_2, atI_3, atI_4, atI_5, atI_6, atI_7, rVar, lookAll, ownAt?, look, frz, frzAll, Out.res, okSlot_eq, okO_some, okS_fz, okS_ow, okS_sc, okS_none, wipeE, restE, prep, back, lent, lentOk, outsOf, outsFrom, argE, Res.good, isTy, tyN, noDict, itD, scAt, owA, fixR, isL, isS, seqOf, truth, truOk, List.getElem?_cons_zero, List.getElem?_cons_succ, List.set_cons_zero, List.set_cons_succ, List.replicate_zero, List.replicate_succ, List.cons_append, List.nil_append, List.append_nil, Option.some.injEq, Prod.mk.injEq, PyData.int.injEq, PyData.list.injEq, PyData.str.injEq, PyData.bool.injEq, PyData.tuple.injEq, Res.loc.injEq, Res.fz.injEq, Res.ow.injEq, and_true, true_and, List.length_cons, List.length_nil, if_true, if_false, reduceIte, Bool.false_eq_true, Option.map_some, List.cons.injEq, List.mem_cons, List.not_mem_nil, or_false, forall_eq, not_true_eq_false, not_false_eq_true, Bool.not_true, Bool.not_false, forall_const, List.nodup_nil, List.nodup_cons, Option.isSome_some, decide_eq_true_eq, Nat.reduceLeDiff, Nat.reduceAdd, Nat.zero_add, exists_eq', Int.reduceLT, Int.reduceLE, Int.reduceNeg, Int.reducePow, Nat.reducePow, Int.reduceToNat, Int.reduceAdd, Int.reduceMul, Nat.reduceMul, Nat.reduceEqDiff, Nat.reduceSub, String.reduceBEq, beq_self_eq_true, Bool.and_true, Bool.true_and, Bool.or_true, Bool.true_or, Bool.or_false, Bool.false_or, Bool.and_false, Bool.false_and, Bool.not_eq_true, Bool.not_eq_false, reduceCtorEq]
    refine hk _ _ ⟨?_, rfl⟩
    rw [List.replicate_succ', List.map_append]; rfl
  · obtain ⟨rfl, rfl⟩ := hi
    simp -dsimp -implicitDefEqProofs only [↓w2_eq, ↓wT_eq, ↓wChain_eq, ↓wTru_eq, ↓wAndV_eq, ↓wOrV_eq, ↓wNotV_eq, ↓wNeg_eq, ↓wPart_eq, ↓wSl_eq, ↓wN_eq, ↓wM_eq, ↓wMut_eq, ↓wTup_eq, ↓wLst_eq, ↓wCall_eq, ↓wGTup_eq, ↓wGCons_eq, ↓wGSub_eq, ↓wIsi_eq, ↓wIsi2_eq, ↓wIt_eq, ↓wRng1_eq, ↓wRng2_eq, ↓wLenSc_eq, ↓wIxSc_eq, ↓wPar_eq, ↓asgn_eq, ↓asgn_fz, ↓asgn_ow, ↓asgn_loc, ↓retR_fz, ↓retR_ow, ↓retR_loc, ↓wFor_eq, ↓wLc_eq, ↓wVar_eq, ↓wC_eq, ↓wNil_eq, ↓wCons_eq, ↓wAndT_eq, ↓wOrT_eq, ↓wNotT_eq, ↓wIfE_eq, ↓wNoPart_eq, ↓wYes_eq, ↓wNext_eq, ↓wBreak_eq, ↓wCont_eq, ↓wSeq_eq, ↓wDrop_eq, ↓wRet_eq, ↓wRetN_eq, ↓wIf_eq, ↓wAsg_eq, ↓wGNil_eq, ↓gOfB_eq, ↓endsF_nx, ↓endsF_rt, ↓bnd_some, ↓bnd_none, ↓ind_int, ↓tst_bool, ↓tsto_bool, ↓locR_loc, ↓tupR_tup, ↓cns_cons, ↓two_two, ↓ints1_int, ↓ints2_int, ↓g1_eq, ↓g2_eq, ↓gEq_eq, ↓gNe_eq, ↓gRepr_eq, ↓gIn_one, ↓gIs_bb, ↓gIs_none, ↓gIn_list, ↓gIn_tuple, ↓gSl_list, ↓gSl_tuple, ↓gSl_str, ↓gIx_list, ↓gIx_tuple, ↓gIx_str, ↓gSetL_eq, ↓gSum_eq, ↓gBools_eq, ↓gJoin_eq, ↓gAdd.eq_1, ↓gAdd.eq_2, ↓gAdd.eq_3, ↓gAdd.eq_4, ↓PL.gSub.eq_1, ↓gMod.eq_1, ↓gDiv.eq_1, ↓gPow.eq_1, ↓gMul.eq_1, ↓gMul.eq_2, ↓gMul.eq_3, ↓gCmp.eq_1, ↓gCmp.eq_2, ↓gLen.eq_1, ↓gLen.eq_2, ↓gLen.eq_3, ↓gAbs.eq_1, ↓gInt.eq_1, ↓gInt.eq_2, ↓gI2.eq_1, ↓gTup1.eq_1, ↓gTup1.eq_2, ↓gLst1.eq_1, ↓gLst1.eq_2, ↓gAppend.eq_1, ↓gCount.eq_1, ↓gUpper.eq_1, eqv_int, eqv_str, eqv_bool, eqv_ns, eqv_sn, eqv_nn, eqv_ni, eqv_in, eqv_si, eqv_is, eqOk_int, eqOk_str, eqOk_bool, eqOk_ns, eqOk_sn, eqOk_nn, eqOk_ni, eqOk_in, eqOk_si, eqOk_is, beq_iff_eq, ixN_0, ixN_1, ixN_2, ixN_3, ixN_4, ixN_5, ixN_6, ixN_7, atI_0, atI_1, atI_2, atI_3, atI_4, atI_5, atI_6, atI_7, rVar, lookAll, ownAt?, look, frz, frzAll, Out.res, okSlot_eq, okO_some, okS_fz, okS_ow, okS_sc, okS_none, wipeE, restE, prep, back, lent, lentOk, outsOf, outsFrom, argE, Res.good, isTy, tyN, noDict, itD, scAt, owA, fixR, isL, isS, seqOf, truth, truOk, List.getElem?_cons_zero, List.getElem?_cons_succ, List.set_cons_zero, List.set_cons_succ, List.replicate_zero, List.replicate_succ, List.cons_append, List.nil_append, List.append_nil, Option.some.injEq, Prod.mk.injEq, PyData.int.injEq, PyData.list.injEq, PyData.str.injEq, PyData.bool.injEq, PyData.tuple.injEq, Res.loc.injEq, Res.fz.injEq, Res.ow.injEq, and_true, true_and, List.length_cons, List.length_nil, if_true, if_false, reduceIte, Bool.false_eq_true, Option.map_some, List.cons.injEq, List.mem_cons, List.not_mem_nil, or_false, forall_eq, not_true_eq_false, not_false_eq_true, Bool.not_true, Bool.not_false, forall_const, List.nodup_nil, List.nodup_cons, Option.isSome_some, decide_eq_true_eq, Nat.reduceLeDiff, Nat.reduceAdd, Nat.zero_add, exists_eq', Int.reduceLT, Int.reduceLE, Int.reduceNeg, Int.reducePow, Nat.reducePow, Int.reduceToNat, Int.reduceAdd, Int.reduceMul, Nat.reduceMul, Nat.reduceEqDiff, Nat.reduceSub, String.reduceBEq, beq_self_eq_true, Bool.and_true, Bool.true_and, Bool.or_true, Bool.true_or, Bool.or_false, Bool.false_or, Bool.and_false, Bool.false_and, Bool.not_eq_true, Bool.not_eq_false, reduceCtorEq, PL.bools_map]
    exact iteT ⟨g.sh, hQ _⟩
theorem atI_map {ns : List Int} {k : Int} (h0 : 0 ≤ k) (h : k < ns.length) : ∃ m, atI (ns.map PyData.int) k = some (.int m) := by
  refine ⟨ns[k.toNat]'(by omega), ?_⟩
  rw [atI_lt h0 (by rw [List.length_map]; exact h), List.getElem_map]
theorem box_ok {ns : List Int} {k : Int} {Q : Res → List D → Prop} (h0 : 0 ≤ k) (h1 : k ≤ 63) (hQ : ∀ b o, BoxOk 0 b → Q (.ow b) o) : g__law_box [.list (ns.map .int), .int k] Q := by
  simp -dsimp -implicitDefEqProofs only [g__law_box, w__law_box, w__law_box_0, w__law_box_1, w__law_box_2, ↓w2_eq, ↓wT_eq, ↓wChain_eq, ↓wTru_eq, ↓wAndV_eq, ↓wOrV_eq, ↓wNotV_eq, ↓wNeg_eq, ↓wPart_eq, ↓wSl_eq, ↓wN_eq, ↓wM_eq, ↓wMut_eq, ↓wTup_eq, ↓wLst_eq, ↓wCall_eq, ↓wGTup_eq, ↓wGCons_eq, ↓wGSub_eq, ↓wIsi_eq, ↓wIsi2_eq, ↓wIt_eq, ↓wRng1_eq, ↓wRng2_eq, ↓wLenSc_eq, ↓wIxSc_eq, ↓wPar_eq, ↓asgn_eq, ↓asgn_fz, ↓asgn_ow, ↓asgn_loc, ↓retR_fz, ↓retR_ow, ↓retR_loc, ↓wFor_eq, ↓wLc_eq, ↓wVar_eq, ↓wC_eq, ↓wNil_eq, ↓wCons_eq, ↓wAndT_eq, ↓wOrT_eq, ↓wNotT_eq, ↓wIfE_eq, ↓wNoPart_eq, ↓wYes_eq, ↓wNext_eq, ↓wBreak_eq, ↓wCont_eq, ↓wSeq_eq, ↓wDrop_eq, ↓wRet_eq, ↓wRetN_eq, ↓wIf_eq, ↓wAsg_eq, ↓wGNil_eq, ↓gOfB_eq, ↓endsF_nx, ↓endsF_rt, ↓bnd_some, ↓bnd_none, ↓ind_int, ↓tst_bool, ↓tsto_bool, ↓locR_loc, ↓tupR_tup, ↓cns_cons, ↓two_two, ↓ints1_int, ↓ints2_int, ↓g1_eq, ↓g2_eq, ↓gEq_eq, ↓gNe_eq, ↓gRepr_eq, ↓gIn_one, ↓gIs_bb, ↓gIs_none, ↓gIn_list, ↓gIn_tuple, ↓gSl_list, ↓gSl_tuple, ↓gSl_str, ↓gIx_list, ↓gIx_tuple, ↓gIx_str, ↓gSetL_eq, ↓gSum_eq, ↓gBools_eq, ↓gJoin_eq, ↓gAdd.eq_1, ↓gAdd.eq_2, ↓gAdd.eq_3, ↓gAdd.eq_4, ↓PL.gSub.eq_1, ↓gMod.eq_1, ↓gDiv.eq_1, ↓gPow.eq_1, ↓gMul.eq_1, ↓gMul.eq_2, ↓gMul.eq_3, ↓gCmp.eq_1, ↓gCmp.eq_2, ↓gLen.eq_1, ↓gLen.eq_2, ↓gLen.eq_3, ↓gAbs.eq_1, ↓gInt.eq_1, ↓gInt.eq_2, ↓gI2.eq_1, ↓gTup1.eq_1, ↓gTup1.eq_2, ↓gLst1.eq_1, ↓gLst1.eq_2, ↓gAppend.eq_1, ↓gCount.eq_1, ↓gUpper.eq_1, eqv_int, eqv_str, eqv_bool, eqv_ns, eqv_sn, eqv_nn, eqv_ni, eqv_in, eqv_si, eqv_is, eqOk_int, eqOk_str, eqOk_bool, eqOk_ns, eqOk_sn, eqOk_nn, eqOk_ni, eqOk_in, eqOk_si, eqOk_is, beq_iff_eq, ixN_0, ixN_1, ixN_2, ixN_3, ixN_4, ixN_5, ixN_6, ixN_7, atI_0, atI_1, atI_2, atI_3, atI_4, atI_5, atI_6, atI_7, rVar, lookAll, ownAt?, look, frz, frzAll, Out.res, okSlot_eq, okO_some, okS_fz, okS_ow, okS_sc, okS_none, wipeE, restE, prep, back, lent, lentOk, outsOf, outsFrom, argE, Res.good, isTy, tyN, noDict, itD, scAt, owA, fixR, isL, isS, seqOf, truth, truOk, List.getElem?_cons_zero, List.getElem?_cons_succ, List.set_cons_zero, List.set_cons_succ, List.replicate_zero, List.replicate_succ, List.cons_append, List.nil_append, List.append_nil, Option.some.injEq, Prod.mk.injEq, PyData.int.injEq, PyData.list.injEq, PyData.str.injEq, PyData.bool.injEq, PyData.tuple.injEq, Res.loc.injEq, Res.fz.injEq, Res.ow.injEq, and_true, true_and, List.length_cons, List.length_nil, if_true, if_false, reduceIte, Bool.false_eq_true, Option.map_some, List.cons.injEq, List.mem_cons, List.not_mem_nil, or_false, forall_eq, not_true_eq_false, not_false_eq_true, Bool.not_true, Bool.not_false, forall_const, List.nodup_nil, List.nodup_cons, Option.isSome_some, decide_eq_true_eq, Nat.reduceLeDiff, Nat.reduceAdd, Nat.zero_add, exists_eq', Int.reduceLT, Int.reduceLE, Int.reduceNeg, Int.reducePow, Nat.reducePow, Int.reduceToNat, Int.reduceAdd, Int.reduceMul, Nat.reduceMul, Nat.reduceEqDiff, Nat.reduceSub, String.reduceBEq, beq_self_eq_true, Bool.and_true, Bool.true_and, Bool.or_true, Bool.true_or, Bool.or_false, Bool.false_or, Bool.and_false, Bool.false_and, Bool.not_eq_true, Bool.not_eq_false, reduceCtorEq]
  split
  · rename_i h
    rw [List.length_map] at h
    obtain ⟨m, hm⟩ := atI_map h0 h
    simp -dsimp -implicitDefEqProofs only [hm, w__law_box_2, ↓w2_eq, ↓wT_eq, ↓wChain_eq, ↓wTru_eq, ↓wAndV_eq, ↓wOrV_eq, ↓wNotV_eq, ↓wNeg_eq, ↓wPart_eq, ↓wSl_eq, ↓wN_eq, ↓wM_eq, ↓wMut_eq, ↓wTup_eq, ↓wLst_eq, ↓wCall_eq, ↓wGTup_eq, ↓wGCons_eq, ↓wGSub_eq, ↓wIsi_eq, ↓wIsi2_eq, ↓wIt_eq, ↓wRng1_eq, ↓wRng2_eq, ↓wLenSc_eq, ↓wIxSc_eq, ↓wPar_eq, ↓asgn_eq, ↓asgn_fz, ↓asgn_ow, ↓asgn_loc, ↓retR_fz, ↓retR_ow, ↓retR_loc, ↓wFor_eq, ↓wLc_eq, ↓wVar_eq, ↓wC_eq, ↓wNil_eq, ↓wCons_eq, ↓wAndT_eq, ↓wOrT_eq, ↓wNotT_eq, ↓wIfE_eq, ↓wNoPart_eq, ↓wYes_eq, ↓wNext_eq, ↓wBreak_eq, ↓wCont_eq, ↓wSeq_eq, ↓wDrop_eq, ↓wRet_eq, ↓wRetN_eq, ↓wIf_eq, ↓wAsg_eq, ↓wGNil_eq, ↓gOfB_eq, ↓endsF_nx, ↓endsF_rt, ↓bnd_some, ↓bnd_none, ↓ind_int, ↓tst_bool, ↓tsto_bool, ↓locR_loc, ↓tupR_tup, ↓cns_cons, ↓two_two, ↓ints1_int, ↓ints2_int, ↓g1_eq, ↓g2_eq, ↓gEq_eq, ↓gNe_eq, ↓gRepr_eq, ↓gIn_one, ↓gIs_bb, ↓gIs_none, ↓gIn_list, ↓gIn_tuple, ↓gSl_list, ↓gSl_tuple, ↓gSl_str, ↓gIx_list, ↓gIx_tuple, ↓gIx_str, ↓gSetL_eq, ↓gSum_eq, ↓gBools_eq, ↓gJoin_eq, ↓gAdd.eq_1, ↓gAdd.eq_2, ↓gAdd.eq_3, ↓gAdd.eq_4, ↓PL.gSub.eq_1, ↓gMod.eq_1, ↓gDiv.eq_1, ↓gPow.eq_1, ↓gMul.eq_1, ↓gMul.eq_2, ↓gMul.eq_3, ↓gCmp.eq_1, ↓gCmp.eq_2, ↓gLen.eq_1, ↓gLen.eq_2, ↓gLen.eq_3, ↓gAbs.eq_1, ↓gInt.eq_1, ↓gInt.eq_2, ↓gI2.eq_1, ↓gTup1.eq_1, ↓gTup1.eq_2, ↓gLst1.eq_1, ↓gLst1.eq_2, ↓gAppend.eq_1, ↓gCount.eq_1, ↓gUpper.eq_1, eqv_int, eqv_str, eqv_bool, eqv_ns, eqv_sn, eqv_nn, eqv_ni, eqv_in, eqv_si, eqv_is, eqOk_int, eqOk_str, eqOk_bool, eqOk_ns, eqOk_sn, eqOk_nn, eqOk_ni, eqOk_in, eqOk_si, eqOk_is, beq_iff_eq, ixN_0, ixN_1, ixN_2, ixN_3, ixN_4, ixN_5, ixN_6, ixN_7, atI_0, atI_1, atI_2, atI_3, atI_4, atI_5, atI_6, atI_7, rVar, lookAll, ownAt?, look, frz, frzAll, Out.res, okSlot_eq, okO_some, okS_fz, okS_ow, okS_sc, okS_none, wipeE, restE, prep, back, lent, lentOk, outsOf, outsFrom, argE, Res.good, isTy, tyN, noDict, itD, scAt, owA, fixR, isL, isS, seqOf, truth, truOk, List.getElem?_cons_zero, List.getElem?_cons_succ, List.set_cons_zero, List.set_cons_succ, List.replicate_zero, List.replicate_succ, List.cons_append, List.nil_append, List.append_nil, Option.some.injEq, Prod.mk.injEq, PyData.int.injEq, PyData.list.injEq, PyData.str.injEq, PyData.bool.injEq, PyData.tuple.injEq, Res.loc.injEq, Res.fz.injEq, Res.ow.injEq, and_true, true_and, List.length_cons, List.length_nil, if_true, if_false, reduceIte, Bool.false_eq_true, Option.map_some, List.cons.injEq, List.mem_cons, List.not_mem_nil, or_false, forall_eq, not_true_eq_false, not_false_eq_true, Bool.not_true, Bool.not_false, forall_const, List.nodup_nil, List.nodup_cons, Option.isSome_some, decide_eq_true_eq, Nat.reduceLeDiff, Nat.reduceAdd, Nat.zero_add, exists_eq', Int.reduceLT, Int.reduceLE, Int.reduceNeg, Int.reducePow, Nat.reducePow, Int.reduceToNat, Int.reduceAdd, Int.reduceMul, Nat.reduceMul, Nat.reduceEqDiff, Nat.reduceSub, String.reduceBEq, beq_self_eq_true, Bool.and_true, Bool.true_and, Bool.or_true, Bool.true_or, Bool.or_false, Bool.false_or, Bool.and_false, Bool.false_and, Bool.not_eq_true, Bool.not_eq_false, reduceCtorEq]
    refine ⟨by decide, ?_, .inl trivial, hQ _ _ ⟨_, _, _, rfl, ?_, ?_, ?_, by omega, by omega⟩⟩
    · refine .inr ?_
      split <;> omega
    · refine Int.mul_nonneg ?_ ?_ <;> split <;> omega
    · omega
    · omega
  · refine ⟨by decide, .inl trivial, .inl trivial, hQ _ _ ⟨_, _, _, rfl, by omega, by omega, by omega, by omega, by omega⟩⟩
theorem name_ok {n : Nat} {box : D} {Q : Res → List D → Prop} (h : BoxOk n box) (hn : n ≤ 100000) (hQ : ∀ z box', BoxOk (n + 10) box' → TOk 8 z → nameB z = true → Q (.fz (.str z)) [box']) : g__law_name [box] Q := by
  have hL1 : ∀ c ∈ LET.cps.toList, c < 128 := by decide +kernel
  have hL2 := let_len
  have hN : ∀ z : Str, nameB z = (decide (1 ≤ z.length ∧ z.length ≤ 8) && z.cps.toList.all fun c => decide (c ∈ LET.cps.toList)) := fun _ => rfl
  simp -dsimp -implicitDefEqProofs only [g__law_name, w__law_name, w__law_name_0, w__law_name_1, ↓w2_eq, ↓wT_eq, ↓wChain_eq, ↓wTru_eq, ↓wAndV_eq, ↓wOrV_eq, ↓wNotV_eq, ↓wNeg_eq, ↓wPart_eq, ↓wSl_eq, ↓wN_eq, ↓wM_eq, ↓wMut_eq, ↓wTup_eq, ↓wLst_eq, ↓wCall_eq, ↓wGTup_eq, ↓wGCons_eq, ↓wGSub_eq, ↓wIsi_eq, ↓wIsi2_eq, ↓wIt_eq, ↓wRng1_eq, ↓wRng2_eq, ↓wLenSc_eq, ↓wIxSc_eq, ↓wPar_eq, ↓asgn_eq, ↓asgn_fz, ↓asgn_ow, ↓asgn_loc, ↓retR_fz, ↓retR_ow, ↓retR_loc, ↓wFor_eq, ↓wLc_eq, ↓wVar_eq, ↓wC_eq, ↓wNil_eq, ↓wCons_eq, ↓wAndT_eq, ↓wOrT_eq, ↓wNotT_eq, ↓wIfE_eq, ↓wNoPart_eq, ↓wYes_eq, ↓wNext_eq, ↓wBreak_eq, ↓wCont_eq, ↓wSeq_eq, ↓wDrop_eq, ↓wRet_eq, ↓wRetN_eq, ↓wIf_eq, ↓wAsg_eq, ↓wGNil_eq, ↓gOfB_eq, ↓endsF_nx, ↓endsF_rt, ↓bnd_some, ↓bnd_none, ↓ind_int, ↓tst_bool, ↓tsto_bool, ↓locR_loc, ↓tupR_tup, ↓cns_cons, ↓two_two, ↓ints1_int, ↓ints2_int, ↓g1_eq, ↓g2_eq, ↓gEq_eq, ↓gNe_eq, ↓gRepr_eq, ↓gIn_one, ↓gIs_bb, ↓gIs_none, ↓gIn_list, ↓gIn_tuple, ↓gSl_list, ↓gSl_tuple, ↓gSl_str, ↓gIx_list, ↓gIx_tuple, ↓gIx_str, ↓gSetL_eq, ↓gSum_eq, ↓gBools_eq, ↓gJoin_eq, ↓gAdd.eq_1, ↓gAdd.eq_2, ↓gAdd.eq_3, ↓gAdd.eq_4, ↓PL.gSub.eq_1, ↓gMod.eq_1, ↓gDiv.eq_1, ↓gPow.eq_1, ↓gMul.eq_1, ↓gMul.eq_2, ↓gMul.eq_3, ↓gCmp.eq_1, ↓gCmp.eq_2, ↓gLen.eq_1, ↓gLen.eq_2, ↓gLen.eq_3, ↓gAbs.eq_1, ↓gInt.eq_1, ↓gInt.eq_2, ↓gI2.eq_1, ↓gTup1.eq_1, ↓gTup1.eq_2, ↓gLst1.eq_1, ↓gLst1.eq_2, ↓gAppend.eq_1, ↓gCount.eq_1, ↓gUpper.eq_1, eqv_int, eqv_str, eqv_bool, eqv_ns, eqv_sn, eqv_nn, eqv_ni, eqv_in, eqv_si, eqv_is, eqOk_int, eqOk_str, eqOk_bool, eqOk_ns, eqOk_sn, eqOk_nn, eqOk_ni, eqOk_in, eqOk_si, eqOk_is, beq_iff_eq, ixN_0, ixN_1, ixN_2, ixN_3, ixN_4, ixN_5, ixN_6, ixN_7, atI_0, atI_1, atI_2, atI_3, atI_4, atI_5, atI_6, atI_7, rVar, lookAll, ownAt?, look, frz, frzAll, Out.res, okSlot_eq, okO_some, okS_fz, okS_ow, okS_sc, okS_none, wipeE, restE, prep, back, lent, lentOk, outsOf, outsFrom, argE, Res.good, isTy, tyN, noDict, itD, scAt, owA, fixR, isL, isS, seqOf, truth, truOk, List.getElem?_cons_zero, List.getElem?_cons_succ, List.set_cons_zero, List.set_cons_succ, List.replicate_zero, List.replicate_succ, List.cons_append, List.nil_append, List.append_nil, Option.some.injEq, Prod.mk.injEq, PyData.int.injEq, PyData.list.injEq, PyData.str.injEq, PyData.bool.injEq, PyData.tuple.injEq, Res.loc.injEq, Res.fz.injEq, Res.ow.injEq, and_true, true_and, List.length_cons, List.length_nil, if_true, if_false, reduceIte, Bool.false_eq_true, Option.map_some, List.cons.injEq, List.mem_cons, List.not_mem_nil, or_false, forall_eq, not_true_eq_false, not_false_eq_true, Bool.not_true, Bool.not_false, forall_const, List.nodup_nil, List.nodup_cons, Option.isSome_some, decide_eq_true_eq, Nat.reduceLeDiff, Nat.reduceAdd, Nat.zero_add, exists_eq', Int.reduceLT, Int.reduceLE, Int.reduceNeg, Int.reducePow, Nat.reducePow, Int.reduceToNat, Int.reduceAdd, Int.reduceMul, Nat.reduceMul, Nat.reduceEqDiff, Nat.reduceSub, String.reduceBEq, beq_self_eq_true, Bool.and_true, Bool.true_and, Bool.or_true, Bool.true_or, Bool.or_false, Bool.false_or, Bool.and_false, Bool.false_and, Bool.not_eq_true, Bool.not_eq_false, reduceCtorEq]
  unfold LET at hL1 hL2 hN
  have w2 : w__law_name_2 = w__law_name_2 := rfl
  generalize PySem.Str.ofString "abcdefghijklmnopqrstuvwxyz" = L at hL1 hL2 hN ⊢
  refine callT_of (take_ok h (by omega) (by decide) (by decide) fun r1 b1 hb1 r10 r11 _ _ => ?_)
  simp -dsimp -implicitDefEqProofs only [↓w2_eq, ↓wT_eq, ↓wChain_eq, ↓wTru_eq, ↓wAndV_eq, ↓wOrV_eq, ↓wNotV_eq, ↓wNeg_eq, ↓wPart_eq, ↓wSl_eq, ↓wN_eq, ↓wM_eq, ↓wMut_eq, ↓wTup_eq, ↓wLst_eq, ↓wCall_eq, ↓wGTup_eq, ↓wGCons_eq, ↓wGSub_eq, ↓wIsi_eq, ↓wIsi2_eq, ↓wIt_eq, ↓wRng1_eq, ↓wRng2_eq, ↓wLenSc_eq, ↓wIxSc_eq, ↓wPar_eq, ↓asgn_eq, ↓asgn_fz, ↓asgn_ow, ↓asgn_loc, ↓retR_fz, ↓retR_ow, ↓retR_loc, ↓wFor_eq, ↓wLc_eq, ↓wVar_eq, ↓wC_eq, ↓wNil_eq, ↓wCons_eq, ↓wAndT_eq, ↓wOrT_eq, ↓wNotT_eq, ↓wIfE_eq, ↓wNoPart_eq, ↓wYes_eq, ↓wNext_eq, ↓wBreak_eq, ↓wCont_eq, ↓wSeq_eq, ↓wDrop_eq, ↓wRet_eq, ↓wRetN_eq, ↓wIf_eq, ↓wAsg_eq, ↓wGNil_eq, ↓gOfB_eq, ↓endsF_nx, ↓endsF_rt, ↓bnd_some, ↓bnd_none, ↓ind_int, ↓tst_bool, ↓tsto_bool, ↓locR_loc, ↓tupR_tup, ↓cns_cons, ↓two_two, ↓ints1_int, ↓ints2_int, ↓g1_eq, ↓g2_eq, ↓gEq_eq, ↓gNe_eq, ↓gRepr_eq, ↓gIn_one, ↓gIs_bb, ↓gIs_none, ↓gIn_list, ↓gIn_tuple, ↓gSl_list, ↓gSl_tuple, ↓gSl_str, ↓gIx_list, ↓gIx_tuple, ↓gIx_str, ↓gSetL_eq, ↓gSum_eq, ↓gBools_eq, ↓gJoin_eq, ↓gAdd.eq_1, ↓gAdd.eq_2, ↓gAdd.eq_3, ↓gAdd.eq_4, ↓PL.gSub.eq_1, ↓gMod.eq_1, ↓gDiv.eq_1, ↓gPow.eq_1, ↓gMul.eq_1, ↓gMul.eq_2, ↓gMul.eq_3, ↓gCmp.eq_1, ↓gCmp.eq_2, ↓gLen.eq_1, ↓gLen.eq_2, ↓gLen.eq_3, ↓gAbs.eq_1, ↓gInt.eq_1, ↓gInt.eq_2, ↓gI2.eq_1, ↓gTup1.eq_1, ↓gTup1.eq_2, ↓gLst1.eq_1, ↓gLst1.eq_2, ↓gAppend.eq_1, ↓gCount.eq_1, ↓gUpper.eq_1, eqv_int, eqv_str, eqv_bool, eqv_ns, eqv_sn, eqv_nn, eqv_ni, eqv_in, eqv_si, eqv_is, eqOk_int, eqOk_str, eqOk_bool, eqOk_ns, eqOk_sn, eqOk_nn, eqOk_ni, eqOk_in, eqOk_si, eqOk_is, beq_iff_eq, ixN_0, ixN_1, ixN_2, ixN_3, ixN_4, ixN_5, ixN_6, ixN_7, atI_0, atI_1, atI_2, atI_3, atI_4, atI_5, atI_6, atI_7, rVar, lookAll, ownAt?, look, frz, frzAll, Out.res, okSlot_eq, okO_some, okS_fz, okS_ow, okS_sc, okS_none, wipeE, restE, prep, back, lent, lentOk, outsOf, outsFrom, argE, Res.good, isTy, tyN, noDict, itD, scAt, owA, fixR, isL, isS, seqOf, truth, truOk, List.getElem?_cons_zero, List.getElem?_cons_succ, List.set_cons_zero, List.set_cons_succ, List.replicate_zero, List.replicate_succ, List.cons_append, List.nil_append, List.append_nil, Option.some.injEq, Prod.mk.injEq, PyData.int.injEq, PyData.list.injEq, PyData.str.injEq, PyData.bool.injEq, PyData.tuple.injEq, Res.loc.injEq, Res.fz.injEq, Res.ow.injEq, and_true, true_and, List.length_cons, List.length_nil, if_true, if_false, reduceIte, Bool.false_eq_true, Option.map_some, List.cons.injEq, List.mem_cons, List.not_mem_nil, or_false, forall_eq, not_true_eq_false, not_false_eq_true, Bool.not_true, Bool.not_false, forall_const, List.nodup_nil, List.nodup_cons, Option.isSome_some, decide_eq_true_eq, Nat.reduceLeDiff, Nat.reduceAdd, Nat.zero_add, exists_eq', Int.reduceLT, Int.reduceLE, Int.reduceNeg, Int.reducePow, Nat.reducePow, Int.reduceToNat, Int.reduceAdd, Int.reduceMul, Nat.reduceMul, Nat.reduceEqDiff, Nat.reduceSub, String.reduceBEq, beq_self_eq_true, Bool.and_true, Bool.true_and, Bool.or_true, Bool.true_or, Bool.or_false, Bool.false_or, Bool.and_false, Bool.false_and, Bool.not_eq_true, Bool.not_eq_false, reduceCtorEq]
  refine callT_of (take_ok hb1 (by omega) (by decide) (by decide) fun r2 b2 hb2 r20 r21 _ _ => ?_)
  simp -dsimp -implicitDefEqProofs only [↓w2_eq, ↓wT_eq, ↓wChain_eq, ↓wTru_eq, ↓wAndV_eq, ↓wOrV_eq, ↓wNotV_eq, ↓wNeg_eq, ↓wPart_eq, ↓wSl_eq, ↓wN_eq, ↓wM_eq, ↓wMut_eq, ↓wTup_eq, ↓wLst_eq, ↓wCall_eq, ↓wGTup_eq, ↓wGCons_eq, ↓wGSub_eq, ↓wIsi_eq, ↓wIsi2_eq, ↓wIt_eq, ↓wRng1_eq, ↓wRng2_eq, ↓wLenSc_eq, ↓wIxSc_eq, ↓wPar_eq, ↓asgn_eq, ↓asgn_fz, ↓asgn_ow, ↓asgn_loc, ↓retR_fz, ↓retR_ow, ↓retR_loc, ↓wFor_eq, ↓wLc_eq, ↓wVar_eq, ↓wC_eq, ↓wNil_eq, ↓wCons_eq, ↓wAndT_eq, ↓wOrT_eq, ↓wNotT_eq, ↓wIfE_eq, ↓wNoPart_eq, ↓wYes_eq, ↓wNext_eq, ↓wBreak_eq, ↓wCont_eq, ↓wSeq_eq, ↓wDrop_eq, ↓wRet_eq, ↓wRetN_eq, ↓wIf_eq, ↓wAsg_eq, ↓wGNil_eq, ↓gOfB_eq, ↓endsF_nx, ↓endsF_rt, ↓bnd_some, ↓bnd_none, ↓ind_int, ↓tst_bool, ↓tsto_bool, ↓locR_loc, ↓tupR_tup, ↓cns_cons, ↓two_two, ↓ints1_int, ↓ints2_int, ↓g1_eq, ↓g2_eq, ↓gEq_eq, ↓gNe_eq, ↓gRepr_eq, ↓gIn_one, ↓gIs_bb, ↓gIs_none, ↓gIn_list, ↓gIn_tuple, ↓gSl_list, ↓gSl_tuple, ↓gSl_str, ↓gIx_list, ↓gIx_tuple, ↓gIx_str, ↓gSetL_eq, ↓gSum_eq, ↓gBools_eq, ↓gJoin_eq, ↓gAdd.eq_1, ↓gAdd.eq_2, ↓gAdd.eq_3, ↓gAdd.eq_4, ↓PL.gSub.eq_1, ↓gMod.eq_1, ↓gDiv.eq_1, ↓gPow.eq_1, ↓gMul.eq_1, ↓gMul.eq_2, ↓gMul.eq_3, ↓gCmp.eq_1, ↓gCmp.eq_2, ↓gLen.eq_1, ↓gLen.eq_2, ↓gLen.eq_3, ↓gAbs.eq_1, ↓gInt.eq_1, ↓gInt.eq_2, ↓gI2.eq_1, ↓gTup1.eq_1, ↓gTup1.eq_2, ↓gLst1.eq_1, ↓gLst1.eq_2, ↓gAppend.eq_1, ↓gCount.eq_1, ↓gUpper.eq_1, eqv_int, eqv_str, eqv_bool, eqv_ns, eqv_sn, eqv_nn, eqv_ni, eqv_in, eqv_si, eqv_is, eqOk_int, eqOk_str, eqOk_bool, eqOk_ns, eqOk_sn, eqOk_nn, eqOk_ni, eqOk_in, eqOk_si, eqOk_is, beq_iff_eq, ixN_0, ixN_1, ixN_2, ixN_3, ixN_4, ixN_5, ixN_6, ixN_7, atI_0, atI_1, atI_2, atI_3, atI_4, atI_5, atI_6, atI_7, rVar, lookAll, ownAt?, look, frz, frzAll, Out.res, okSlot_eq, okO_some, okS_fz, okS_ow, okS_sc, okS_none, wipeE, restE, prep, back, lent, lentOk, outsOf, outsFrom, argE, Res.good, isTy, tyN, noDict, itD, scAt, owA, fixR, isL, isS, seqOf, truth, truOk, List.getElem?_cons_zero, List.getElem?_cons_succ, List.set_cons_zero, List.set_cons_succ, List.replicate_zero, List.replicate_succ, List.cons_append, List.nil_append, List.append_nil, Option.some.injEq, Prod.mk.injEq, PyData.int.injEq, PyData.list.injEq, PyData.str.injEq, PyData.bool.injEq, PyData.tuple.injEq, Res.loc.injEq, Res.fz.injEq, Res.ow.injEq, and_true, true_and, List.length_cons, List.length_nil, if_true, if_false, reduceIte, Bool.false_eq_true, Option.map_some, List.cons.injEq, List.mem_cons, List.not_mem_nil, or_false, forall_eq, not_true_eq_false, not_false_eq_true, Bool.not_true, Bool.not_false, forall_const, List.nodup_nil, List.nodup_cons, Option.isSome_some, decide_eq_true_eq, Nat.reduceLeDiff, Nat.reduceAdd, Nat.zero_add, exists_eq', Int.reduceLT, Int.reduceLE, Int.reduceNeg, Int.reducePow, Nat.reducePow, Int.reduceToNat, Int.reduceAdd, Int.reduceMul, Nat.reduceMul, Nat.reduceEqDiff, Nat.reduceSub, String.reduceBEq, beq_self_eq_true, Bool.and_true, Bool.true_and, Bool.or_true, Bool.true_or, Bool.or_false, Bool.false_or, Bool.and_false, Bool.false_and, Bool.not_eq_true, Bool.not_eq_false, reduceCtorEq]
  obtain ⟨sz, hsz, s1, s2⟩ : ∃ sz, atI [PyData.int 1, PyData.int 8, PyData.int (1 + r1)] r2 = some (.int sz) ∧ 1 ≤ sz ∧ sz ≤ 8 := by
    rcases (by omega : r2 = 0 ∨ r2 = 1 ∨ r2 = 2) with rfl | rfl | rfl
    · exact ⟨_, atI_0, by omega, by omega⟩
    · exact ⟨_, atI_1, by omega, by omega⟩
    · exact ⟨_, atI_2, by omega, by omega⟩
  simp -dsimp -implicitDefEqProofs only [hsz, w__law_name_2, ↓w2_eq, ↓wT_eq, ↓wChain_eq, ↓wTru_eq, ↓wAndV_eq, ↓wOrV_eq, ↓wNotV_eq, ↓wNeg_eq, ↓wPart_eq, ↓wSl_eq, ↓wN_eq, ↓wM_eq, ↓wMut_eq, ↓wTup_eq, ↓wLst_eq, ↓wCall_eq, ↓wGTup_eq, ↓wGCons_eq, ↓wGSub_eq, ↓wIsi_eq, ↓wIsi2_eq, ↓wIt_eq, ↓wRng1_eq, ↓wRng2_eq, ↓wLenSc_eq, ↓wIxSc_eq, ↓wPar_eq, ↓asgn_eq, ↓asgn_fz, ↓asgn_ow, ↓asgn_loc, ↓retR_fz, ↓retR_ow, ↓retR_loc, ↓wFor_eq, ↓wLc_eq, ↓wVar_eq, ↓wC_eq, ↓wNil_eq, ↓wCons_eq, ↓wAndT_eq, ↓wOrT_eq, ↓wNotT_eq, ↓wIfE_eq, ↓wNoPart_eq, ↓wYes_eq, ↓wNext_eq, ↓wBreak_eq, ↓wCont_eq, ↓wSeq_eq, ↓wDrop_eq, ↓wRet_eq, ↓wRetN_eq, ↓wIf_eq, ↓wAsg_eq, ↓wGNil_eq, ↓gOfB_eq, ↓endsF_nx, ↓endsF_rt, ↓bnd_some, ↓bnd_none, ↓ind_int, ↓tst_bool, ↓tsto_bool, ↓locR_loc, ↓tupR_tup, ↓cns_cons, ↓two_two, ↓ints1_int, ↓ints2_int, ↓g1_eq, ↓g2_eq, ↓gEq_eq, ↓gNe_eq, ↓gRepr_eq, ↓gIn_one, ↓gIs_bb, ↓gIs_none, ↓gIn_list, ↓gIn_tuple, ↓gSl_list, ↓gSl_tuple, ↓gSl_str, ↓gIx_list, ↓gIx_tuple, ↓gIx_str, ↓gSetL_eq, ↓gSum_eq, ↓gBools_eq, ↓gJoin_eq, ↓gAdd.eq_1, ↓gAdd.eq_2, ↓gAdd.eq_3, ↓gAdd.eq_4, ↓PL.gSub.eq_1, ↓gMod.eq_1, ↓gDiv.eq_1, ↓gPow.eq_1, ↓gMul.eq_1, ↓gMul.eq_2, ↓gMul.eq_3, ↓gCmp.eq_1, ↓gCmp.eq_2, ↓gLen.eq_1, ↓gLen.eq_2, ↓gLen.eq_3, ↓gAbs.eq_1, ↓gInt.eq_1, ↓gInt.eq_2, ↓gI2.eq_1, ↓gTup1.eq_1, ↓gTup1.eq_2, ↓gLst1.eq_1, ↓gLst1.eq_2, ↓gAppend.eq_1, ↓gCount.eq_1, ↓gUpper.eq_1, eqv_int, eqv_str, eqv_bool, eqv_ns, eqv_sn, eqv_nn, eqv_ni, eqv_in, eqv_si, eqv_is, eqOk_int, eqOk_str, eqOk_bool, eqOk_ns, eqOk_sn, eqOk_nn, eqOk_ni, eqOk_in, eqOk_si, eqOk_is, beq_iff_eq, ixN_0, ixN_1, ixN_2, ixN_3, ixN_4, ixN_5, ixN_6, ixN_7, atI_0, atI_1, atI_2, atI_3, atI_4, atI_5, atI_6, atI_7, rVar, lookAll, ownAt?, look, frz, frzAll, Out.res, okSlot_eq, okO_some, okS_fz, okS_ow, okS_sc, okS_none, wipeE, restE, prep, back, lent, lentOk, outsOf, outsFrom, argE, Res.good, isTy, tyN, noDict, itD, scAt, owA, fixR, isL, isS, seqOf, truth, truOk, List.getElem?_cons_zero, List.getElem?_cons_succ, List.set_cons_zero, List.set_cons_succ, List.replicate_zero, List.replicate_succ, List.cons_append, List.nil_append, List.append_nil, Option.some.injEq, Prod.mk.injEq, PyData.int.injEq, PyData.list.injEq, PyData.str.injEq, PyData.bool.injEq, PyData.tuple.injEq, Res.loc.injEq, Res.fz.injEq, Res.ow.injEq, and_true, true_and, List.length_cons, List.length_nil, if_true, if_false, reduceIte, Bool.false_eq_true, Option.map_some, List.cons.injEq, List.mem_cons, List.not_mem_nil, or_false, forall_eq, not_true_eq_false, not_false_eq_true, Bool.not_true, Bool.not_false, forall_const, List.nodup_nil, List.nodup_cons, Option.isSome_some, decide_eq_true_eq, Nat.reduceLeDiff, Nat.reduceAdd, Nat.zero_add, exists_eq', Int.reduceLT, Int.reduceLE, Int.reduceNeg, Int.reducePow, Nat.reducePow, Int.reduceToNat, Int.reduceAdd, Int.reduceMul, Nat.reduceMul, Nat.reduceEqDiff, Nat.reduceSub, String.reduceBEq, beq_self_eq_true, Bool.and_true, Bool.true_and, Bool.or_true, Bool.true_or, Bool.or_false, Bool.false_or, Bool.and_false, Bool.false_and, Bool.not_eq_true, Bool.not_eq_false, reduceCtorEq]
  have hem : PySem.Str.ofString "" = PySem.Str.empty := rfl
  rw [rngD_len]
  refine ⟨⟨by omega, by omega⟩, by show sz.toNat ≤ 100000; omega, ?_⟩
  refine lcLT_inv (fun i acc e => ∃ ys : List Nat, acc = (ys.map fun c => (⟨#[c]⟩ : Str)).map PyData.str ∧ ys.length = i ∧ (∀ c ∈ ys, c ∈ L.cps.toList) ∧ ∃ b, BoxOk (n + 2 + i) b ∧ e = [some (.io, b), some (.fz, .str L), some (.fz, .int sz), none]) ⟨[], rfl, rfl, by simp, b2, hb2, rfl⟩ (fun i d' acc e K hd hi hk => ?_) (fun acc e hi => ?_)
  · obtain ⟨ys, rfl, hl, hy, b, hb, rfl⟩ := hi
    obtain ⟨hi, rfl⟩ := rngD_get hd
    simp -dsimp -implicitDefEqProofs only [↓w2_eq, ↓wT_eq, ↓wChain_eq, ↓wTru_eq, ↓wAndV_eq, ↓wOrV_eq, ↓wNotV_eq, ↓wNeg_eq, ↓wPart_eq, ↓wSl_eq, ↓wN_eq, ↓wM_eq, ↓wMut_eq, ↓wTup_eq, ↓wLst_eq, ↓wCall_eq, ↓wGTup_eq, ↓wGCons_eq, ↓wGSub_eq, ↓wIsi_eq, ↓wIsi2_eq, ↓wIt_eq, ↓wRng1_eq, ↓wRng2_eq, ↓wLenSc_eq, ↓wIxSc_eq, ↓wPar_eq, ↓asgn_eq, ↓asgn_fz, ↓asgn_ow, ↓asgn_loc, ↓retR_fz, ↓retR_ow, ↓retR_loc, ↓wFor_eq, ↓wLc_eq, ↓wVar_eq, ↓wC_eq, ↓wNil_eq, ↓wCons_eq, ↓wAndT_eq, ↓wOrT_eq, ↓wNotT_eq, ↓wIfE_eq, ↓wNoPart_eq, ↓wYes_eq, ↓wNext_eq, ↓wBreak_eq, ↓wCont_eq, ↓wSeq_eq, ↓wDrop_eq, ↓wRet_eq, ↓wRetN_eq, ↓wIf_eq, ↓wAsg_eq, ↓wGNil_eq, ↓gOfB_eq, ↓endsF_nx, ↓endsF_rt, ↓bnd_some, ↓bnd_none, ↓ind_int, ↓tst_bool, ↓tsto_bool, ↓locR_loc, ↓tupR_tup, ↓cns_cons, ↓two_two, ↓ints1_int, ↓ints2_int, ↓g1_eq, ↓g2_eq, ↓gEq_eq, ↓gNe_eq, ↓gRepr_eq, ↓gIn_one, ↓gIs_bb, ↓gIs_none, ↓gIn_list, ↓gIn_tuple, ↓gSl_list, ↓gSl_tuple, ↓gSl_str, ↓gIx_list, ↓gIx_tuple, ↓gIx_str, ↓gSetL_eq, ↓gSum_eq, ↓gBools_eq, ↓gJoin_eq, ↓gAdd.eq_1, ↓gAdd.eq_2, ↓gAdd.eq_3, ↓gAdd.eq_4, ↓PL.gSub.eq_1, ↓gMod.eq_1, ↓gDiv.eq_1, ↓gPow.eq_1, ↓gMul.eq_1, ↓gMul.eq_2, ↓gMul.eq_3, ↓gCmp.eq_1, ↓gCmp.eq_2, ↓gLen.eq_1, ↓gLen.eq_2, ↓gLen.eq_3, ↓gAbs.eq_1, ↓gInt.eq_1, ↓gInt.eq_2, ↓gI2.eq_1, ↓gTup1.eq_1, ↓gTup1.eq_2, ↓gLst1.eq_1, ↓gLst1.eq_2, ↓gAppend.eq_1, ↓gCount.eq_1, ↓gUpper.eq_1, eqv_int, eqv_str, eqv_bool, eqv_ns, eqv_sn, eqv_nn, eqv_ni, eqv_in, eqv_si, eqv_is, eqOk_int, eqOk_str, eqOk_bool, eqOk_ns, eqOk_sn, eqOk_nn, eqOk_ni, eqOk_in, eqOk_si, eqOk_is, beq_iff_eq, ixN_0, ixN_1, ixN_2, ixN_3, ixN_4, ixN_5, ixN_6, ixN_7, atI_0, atI_1, atI_2, atI_3, atI_4, atI_5, atI_6, atI_7, rVar, lookAll, ownAt?, look, frz, frzAll, Out.res, okSlot_eq, okO_some, okS_fz, okS_ow, okS_sc, okS_none, wipeE, restE, prep, back, lent, lentOk, outsOf, outsFrom, argE, Res.good, isTy, tyN, noDict, itD, scAt, owA, fixR, isL, isS, seqOf, truth, truOk, List.getElem?_cons_zero, List.getElem?_cons_succ, List.set_cons_zero, List.set_cons_succ, List.replicate_zero, List.replicate_succ, List.cons_append, List.nil_append, List.append_nil, Option.some.injEq, Prod.mk.injEq, PyData.int.injEq, PyData.list.injEq, PyData.str.injEq, PyData.bool.injEq, PyData.tuple.injEq, Res.loc.injEq, Res.fz.injEq, Res.ow.injEq, and_true, true_and, List.length_cons, List.length_nil, if_true, if_false, reduceIte, Bool.false_eq_true, Option.map_some, List.cons.injEq, List.mem_cons, List.not_mem_nil, or_false, forall_eq, not_true_eq_false, not_false_eq_true, Bool.not_true, Bool.not_false, forall_const, List.nodup_nil, List.nodup_cons, Option.isSome_some, decide_eq_true_eq, Nat.reduceLeDiff, Nat.reduceAdd, Nat.zero_add, exists_eq', Int.reduceLT, Int.reduceLE, Int.reduceNeg, Int.reducePow, Nat.reducePow, Int.reduceToNat, Int.reduceAdd, Int.reduceMul, Nat.reduceMul, Nat.reduceEqDiff, Nat.reduceSub, String.reduceBEq, beq_self_eq_true, Bool.and_true, Bool.true_and, Bool.or_true, Bool.true_or, Bool.or_false, Bool.false_or, Bool.and_false, Bool.false_and, Bool.not_eq_true, Bool.not_eq_false, reduceCtorEq]
    refine callT_of (take_ok hb (by omega) (by decide) (by decide) fun r3 b3 hb3 r30 r31 _ _ => ?_)
    have ha := atI_lt (xs := L.cps.toList) r30 (by omega)
    simp -dsimp -implicitDefEqProofs only [↓w2_eq, ↓wT_eq, ↓wChain_eq, ↓wTru_eq, ↓wAndV_eq, ↓wOrV_eq, ↓wNotV_eq, ↓wNeg_eq, ↓wPart_eq, ↓wSl_eq, ↓wN_eq, ↓wM_eq, ↓wMut_eq, ↓wTup_eq, ↓wLst_eq, ↓wCall_eq, ↓wGTup_eq, ↓wGCons_eq, ↓wGSub_eq, ↓wIsi_eq, ↓wIsi2_eq, ↓wIt_eq, ↓wRng1_eq, ↓wRng2_eq, ↓wLenSc_eq, ↓wIxSc_eq, ↓wPar_eq, ↓asgn_eq, ↓asgn_fz, ↓asgn_ow, ↓asgn_loc, ↓retR_fz, ↓retR_ow, ↓retR_loc, ↓wFor_eq, ↓wLc_eq, ↓wVar_eq, ↓wC_eq, ↓wNil_eq, ↓wCons_eq, ↓wAndT_eq, ↓wOrT_eq, ↓wNotT_eq, ↓wIfE_eq, ↓wNoPart_eq, ↓wYes_eq, ↓wNext_eq, ↓wBreak_eq, ↓wCont_eq, ↓wSeq_eq, ↓wDrop_eq, ↓wRet_eq, ↓wRetN_eq, ↓wIf_eq, ↓wAsg_eq, ↓wGNil_eq, ↓gOfB_eq, ↓endsF_nx, ↓endsF_rt, ↓bnd_some, ↓bnd_none, ↓ind_int, ↓tst_bool, ↓tsto_bool, ↓locR_loc, ↓tupR_tup, ↓cns_cons, ↓two_two, ↓ints1_int, ↓ints2_int, ↓g1_eq, ↓g2_eq, ↓gEq_eq, ↓gNe_eq, ↓gRepr_eq, ↓gIn_one, ↓gIs_bb, ↓gIs_none, ↓gIn_list, ↓gIn_tuple, ↓gSl_list, ↓gSl_tuple, ↓gSl_str, ↓gIx_list, ↓gIx_tuple, ↓gIx_str, ↓gSetL_eq, ↓gSum_eq, ↓gBools_eq, ↓gJoin_eq, ↓gAdd.eq_1, ↓gAdd.eq_2, ↓gAdd.eq_3, ↓gAdd.eq_4, ↓PL.gSub.eq_1, ↓gMod.eq_1, ↓gDiv.eq_1, ↓gPow.eq_1, ↓gMul.eq_1, ↓gMul.eq_2, ↓gMul.eq_3, ↓gCmp.eq_1, ↓gCmp.eq_2, ↓gLen.eq_1, ↓gLen.eq_2, ↓gLen.eq_3, ↓gAbs.eq_1, ↓gInt.eq_1, ↓gInt.eq_2, ↓gI2.eq_1, ↓gTup1.eq_1, ↓gTup1.eq_2, ↓gLst1.eq_1, ↓gLst1.eq_2, ↓gAppend.eq_1, ↓gCount.eq_1, ↓gUpper.eq_1, eqv_int, eqv_str, eqv_bool, eqv_ns, eqv_sn, eqv_nn, eqv_ni, eqv_in, eqv_si, eqv_is, eqOk_int, eqOk_str, eqOk_bool, eqOk_ns, eqOk_sn, eqOk_nn, eqOk_ni, eqOk_in, eqOk_si, eqOk_is, beq_iff_eq, ixN_0, ixN_1, ixN_2, ixN_3, ixN_4, ixN_5, ixN_6, ixN_7, atI_0, atI_1, atI_2, atI_3, atI_4, atI_5, atI_6, atI_7, rVar, lookAll, ownAt?, look, frz, frzAll, Out.res, okSlot_eq, okO_some, okS_fz, okS_ow, okS_sc, okS_none, wipeE, restE, prep, back, lent, lentOk, outsOf, outsFrom, argE, Res.good, isTy, tyN, noDict, itD, scAt, owA, fixR, isL, isS, seqOf, truth, truOk, List.getElem?_cons_zero, List.getElem?_cons_succ, List.set_cons_zero, List.set_cons_succ, List.replicate_zero, List.replicate_succ, List.cons_append, List.nil_append, List.append_nil, Option.some.injEq, Prod.mk.injEq, PyData.int.injEq, PyData.list.injEq, PyData.str.injEq, PyData.bool.injEq, PyData.tuple.injEq, Res.loc.injEq, Res.fz.injEq, Res.ow.injEq, and_true, true_and, List.length_cons, List.length_nil, if_true, if_false, reduceIte, Bool.false_eq_true, Option.map_some, List.cons.injEq, List.mem_cons, List.not_mem_nil, or_false, forall_eq, not_true_eq_false, not_false_eq_true, Bool.not_true, Bool.not_false, forall_const, List.nodup_nil, List.nodup_cons, Option.isSome_some, decide_eq_true_eq, Nat.reduceLeDiff, Nat.reduceAdd, Nat.zero_add, exists_eq', Int.reduceLT, Int.reduceLE, Int.reduceNeg, Int.reducePow, Nat.reducePow, Int.reduceToNat, Int.reduceAdd, Int.reduceMul, Nat.reduceMul, Nat.reduceEqDiff, Nat.reduceSub, String.reduceBEq, beq_self_eq_true, Bool.and_true, Bool.true_and, Bool.or_true, Bool.true_or, Bool.or_false, Bool.false_or, Bool.and_false, Bool.false_and, Bool.not_eq_true, Bool.not_eq_false, reduceCtorEq, ha]
    refine ⟨by rw [slen]; omega, hk _ _ ⟨ys ++ [L.cps.toList[r3.toNat]'(by omega)], by simp, by simp [hl], ?_, b3, hb3, rfl⟩⟩
    intro c hc
    rcases List.mem_append.mp hc with q | q
    · exact hy c q
    · rw [List.mem_singleton] at q; subst q; exact List.getElem_mem _
  · obtain ⟨ys, rfl, hl, hy, b, hb, rfl⟩ := hi
    rw [rngD_len] at hl hb
    have hT : ∀ y ∈ ys.map fun c => (⟨#[c]⟩ : Str), TOk 1 y := by
      intro y hy'
      obtain ⟨c, hc, rfl⟩ := List.mem_map.mp hy'
      exact TOk.one (hL1 c (hy c hc))
    have h1 := sum_len hT
    have h2 := TOk.join hT
    rw [List.length_map] at h1 h2
    rw [hem]
    simp -dsimp -implicitDefEqProofs only [↓w2_eq, ↓wT_eq, ↓wChain_eq, ↓wTru_eq, ↓wAndV_eq, ↓wOrV_eq, ↓wNotV_eq, ↓wNeg_eq, ↓wPart_eq, ↓wSl_eq, ↓wN_eq, ↓wM_eq, ↓wMut_eq, ↓wTup_eq, ↓wLst_eq, ↓wCall_eq, ↓wGTup_eq, ↓wGCons_eq, ↓wGSub_eq, ↓wIsi_eq, ↓wIsi2_eq, ↓wIt_eq, ↓wRng1_eq, ↓wRng2_eq, ↓wLenSc_eq, ↓wIxSc_eq, ↓wPar_eq, ↓asgn_eq, ↓asgn_fz, ↓asgn_ow, ↓asgn_loc, ↓retR_fz, ↓retR_ow, ↓retR_loc, ↓wFor_eq, ↓wLc_eq, ↓wVar_eq, ↓wC_eq, ↓wNil_eq, ↓wCons_eq, ↓wAndT_eq, ↓wOrT_eq, ↓wNotT_eq, ↓wIfE_eq, ↓wNoPart_eq, ↓wYes_eq, ↓wNext_eq, ↓wBreak_eq, ↓wCont_eq, ↓wSeq_eq, ↓wDrop_eq, ↓wRet_eq, ↓wRetN_eq, ↓wIf_eq, ↓wAsg_eq, ↓wGNil_eq, ↓gOfB_eq, ↓endsF_nx, ↓endsF_rt, ↓bnd_some, ↓bnd_none, ↓ind_int, ↓tst_bool, ↓tsto_bool, ↓locR_loc, ↓tupR_tup, ↓cns_cons, ↓two_two, ↓ints1_int, ↓ints2_int, ↓g1_eq, ↓g2_eq, ↓gEq_eq, ↓gNe_eq, ↓gRepr_eq, ↓gIn_one, ↓gIs_bb, ↓gIs_none, ↓gIn_list, ↓gIn_tuple, ↓gSl_list, ↓gSl_tuple, ↓gSl_str, ↓gIx_list, ↓gIx_tuple, ↓gIx_str, ↓gSetL_eq, ↓gSum_eq, ↓gBools_eq, ↓gJoin_eq, ↓gAdd.eq_1, ↓gAdd.eq_2, ↓gAdd.eq_3, ↓gAdd.eq_4, ↓PL.gSub.eq_1, ↓gMod.eq_1, ↓gDiv.eq_1, ↓gPow.eq_1, ↓gMul.eq_1, ↓gMul.eq_2, ↓gMul.eq_3, ↓gCmp.eq_1, ↓gCmp.eq_2, ↓gLen.eq_1, ↓gLen.eq_2, ↓gLen.eq_3, ↓gAbs.eq_1, ↓gInt.eq_1, ↓gInt.eq_2, ↓gI2.eq_1, ↓gTup1.eq_1, ↓gTup1.eq_2, ↓gLst1.eq_1, ↓gLst1.eq_2, ↓gAppend.eq_1, ↓gCount.eq_1, ↓gUpper.eq_1, eqv_int, eqv_str, eqv_bool, eqv_ns, eqv_sn, eqv_nn, eqv_ni, eqv_in, eqv_si, eqv_is, eqOk_int, eqOk_str, eqOk_bool, eqOk_ns, eqOk_sn, eqOk_nn, eqOk_ni, eqOk_in, eqOk_si, eqOk_is, beq_iff_eq, ixN_0, ixN_1, ixN_2, ixN_3, ixN_4, ixN_5, ixN_6, ixN_7, atI_0, atI_1, atI_2, atI_3, atI_4, atI_5, atI_6, atI_7, rVar, lookAll, ownAt?, look, frz, frzAll, Out.res, okSlot_eq, okO_some, okS_fz, okS_ow, okS_sc, okS_none, wipeE, restE, prep, back, lent, lentOk, outsOf, outsFrom, argE, Res.good, isTy, tyN, noDict, itD, scAt, owA, fixR, isL, isS, seqOf, truth, truOk, List.getElem?_cons_zero, List.getElem?_cons_succ, List.set_cons_zero, List.set_cons_succ, List.replicate_zero, List.replicate_succ, List.cons_append, List.nil_append, List.append_nil, Option.some.injEq, Prod.mk.injEq, PyData.int.injEq, PyData.list.injEq, PyData.str.injEq, PyData.bool.injEq, PyData.tuple.injEq, Res.loc.injEq, Res.fz.injEq, Res.ow.injEq, and_true, true_and, List.length_cons, List.length_nil, if_true, if_false, reduceIte, Bool.false_eq_true, Option.map_some, List.cons.injEq, List.mem_cons, List.not_mem_nil, or_false, forall_eq, not_true_eq_false, not_false_eq_true, Bool.not_true, Bool.not_false, forall_const, List.nodup_nil, List.nodup_cons, Option.isSome_some, decide_eq_true_eq, Nat.reduceLeDiff, Nat.reduceAdd, Nat.zero_add, exists_eq', Int.reduceLT, Int.reduceLE, Int.reduceNeg, Int.reducePow, Nat.reducePow, Int.reduceToNat, Int.reduceAdd, Int.reduceMul, Nat.reduceMul, Nat.reduceEqDiff, Nat.reduceSub, String.reduceBEq, beq_self_eq_true, Bool.and_true, Bool.true_and, Bool.or_true, Bool.true_or, Bool.or_false, Bool.false_or, Bool.and_false, Bool.false_and, Bool.not_eq_true, Bool.not_eq_false, reduceCtorEq, PL.strs_map]
    refine ⟨?_, hQ _ _ (hb.mono (by omega)) (h2.mono (by omega)) ?_⟩
    · have : Str.empty.length = 0 := rfl
      rw [this, List.length_map]; omega
    · have hc : (Txt.join Str.empty (ys.map fun c => (⟨#[c]⟩ : Str))).cps.toList = ys := by
        rw [join_l, List.map_map]
        have : (List.map ((fun y : Str => y.cps.toList) ∘ fun c => (⟨#[c]⟩ : Str)) ys) = ys.map fun c => [c] := by
          apply List.map_congr_left
          intro c _; rfl
        rw [this]
        clear h1 h2 hT hy hl this
        induction ys with
        | nil => rfl
        | cons y ys ih => rw [List.map_cons, List.flatten_cons, ih]; rfl
      rw [hN, slen, hc, Bool.and_eq_true, List.all_eq_true]
      exact ⟨decide_eq_true (by omega), fun c hc => decide_eq_true (hy c hc)⟩
theorem bent_ok {n m : Nat} {box : D} {z : Str} {Q : Res → List D → Prop} (h : BoxOk n box) (hn : n ≤ 100000) (hz : TOk m z) (hm : m ≤ 900) (hQ : ∀ z' box', BoxOk (n + 3) box' → TOk (m + 1) z' → Q (.fz (.str z')) [box', .none]) : g__law_bent [box, .str z] Q := by
  simp -dsimp -implicitDefEqProofs only [g__law_bent, w__law_bent, w__law_bent_0, w__law_bent_1, ↓w2_eq, ↓wT_eq, ↓wChain_eq, ↓wTru_eq, ↓wAndV_eq, ↓wOrV_eq, ↓wNotV_eq, ↓wNeg_eq, ↓wPart_eq, ↓wSl_eq, ↓wN_eq, ↓wM_eq, ↓wMut_eq, ↓wTup_eq, ↓wLst_eq, ↓wCall_eq, ↓wGTup_eq, ↓wGCons_eq, ↓wGSub_eq, ↓wIsi_eq, ↓wIsi2_eq, ↓wIt_eq, ↓wRng1_eq, ↓wRng2_eq, ↓wLenSc_eq, ↓wIxSc_eq, ↓wPar_eq, ↓asgn_eq, ↓asgn_fz, ↓asgn_ow, ↓asgn_loc, ↓retR_fz, ↓retR_ow, ↓retR_loc, ↓wFor_eq, ↓wLc_eq, ↓wVar_eq, ↓wC_eq, ↓wNil_eq, ↓wCons_eq, ↓wAndT_eq, ↓wOrT_eq, ↓wNotT_eq, ↓wIfE_eq, ↓wNoPart_eq, ↓wYes_eq, ↓wNext_eq, ↓wBreak_eq, ↓wCont_eq, ↓wSeq_eq, ↓wDrop_eq, ↓wRet_eq, ↓wRetN_eq, ↓wIf_eq, ↓wAsg_eq, ↓wGNil_eq, ↓gOfB_eq, ↓endsF_nx, ↓endsF_rt, ↓bnd_some, ↓bnd_none, ↓ind_int, ↓tst_bool, ↓tsto_bool, ↓locR_loc, ↓tupR_tup, ↓cns_cons, ↓two_two, ↓ints1_int, ↓ints2_int, ↓g1_eq, ↓g2_eq, ↓gEq_eq, ↓gNe_eq, ↓gRepr_eq, ↓gIn_one, ↓gIs_bb, ↓gIs_none, ↓gIn_list, ↓gIn_tuple, ↓gSl_list, ↓gSl_tuple, ↓gSl_str, ↓gIx_list, ↓gIx_tuple, ↓gIx_str, ↓gSetL_eq, ↓gSum_eq, ↓gBools_eq, ↓gJoin_eq, ↓gAdd.eq_1, ↓gAdd.eq_2, ↓gAdd.eq_3, ↓gAdd.eq_4, ↓PL.gSub.eq_1, ↓gMod.eq_1, ↓gDiv.eq_1, ↓gPow.eq_1, ↓gMul.eq_1, ↓gMul.eq_2, ↓gMul.eq_3, ↓gCmp.eq_1, ↓gCmp.eq_2, ↓gLen.eq_1, ↓gLen.eq_2, ↓gLen.eq_3, ↓gAbs.eq_1, ↓gInt.eq_1, ↓gInt.eq_2, ↓gI2.eq_1, ↓gTup1.eq_1, ↓gTup1.eq_2, ↓gLst1.eq_1, ↓gLst1.eq_2, ↓gAppend.eq_1, ↓gCount.eq_1, ↓gUpper.eq_1, eqv_int, eqv_str, eqv_bool, eqv_ns, eqv_sn, eqv_nn, eqv_ni, eqv_in, eqv_si, eqv_is, eqOk_int, eqOk_str, eqOk_bool, eqOk_ns, eqOk_sn, eqOk_nn, eqOk_ni, eqOk_in, eqOk_si, eqOk_is, beq_iff_eq, ixN_0, ixN_1, ixN_2, ixN_3, ixN_4, ixN_5, ixN_6, ixN_7, atI_0, atI_1, atI_2, atI_3, atI_4, atI_5, atI_6, atI_7, rVar, lookAll, ownAt?, look, frz, frzAll, Out.res, okSlot_eq, okO_some, okS_fz, okS_ow, okS_sc, okS_none, wipeE, restE, prep, back, lent, lentOk, outsOf, outsFrom, argE, Res.good, isTy, tyN, noDict, itD, scAt, owA, fixR, isL, isS, seqOf, truth, truOk, List.getElem?_cons_zero, List.getElem?_cons_succ, List.set_cons_zero, List.set_cons_succ, List.replicate_zero, List.replicate_succ, List.cons_append, List.nil_append, List.append_nil, Option.some.injEq, Prod.mk.injEq, PyData.int.injEq, PyData.list.injEq, PyData.str.injEq, PyData.bool.injEq, PyData.tuple.injEq, Res.loc.injEq, Res.fz.injEq, Res.ow.injEq, and_true, true_and, List.length_cons, List.length_nil, if_true, if_false, reduceIte, Bool.false_eq_true, Option.map_some, List.cons.injEq, List.mem_cons, List.not_mem_nil, or_false, forall_eq, not_true_eq_false, not_false_eq_true, Bool.not_true, Bool.not_false, forall_const, List.nodup_nil, List.nodup_cons, Option.isSome_some, decide_eq_true_eq, Nat.reduceLeDiff, Nat.reduceAdd, Nat.zero_add, exists_eq', Int.reduceLT, Int.reduceLE, Int.reduceNeg, Int.reducePow, Nat.reducePow, Int.reduceToNat, Int.reduceAdd, Int.reduceMul, Nat.reduceMul, Nat.reduceEqDiff, Nat.reduceSub, String.reduceBEq, beq_self_eq_true, Bool.and_true, Bool.true_and, Bool.or_true, Bool.true_or, Bool.or_false, Bool.false_or, Bool.and_false, Bool.false_and, Bool.not_eq_true, Bool.not_eq_false, reduceCtorEq]
  obtain ⟨L, hL, hL1, hL2⟩ : ∃ L, PySem.Str.ofString " !\"#$&'()*+,-./0123456789:;<=>?@ABCDEFGHIJKLMNOPQRSTUVWXYZ[\\]^_`abcdefghijklmnopqrstuvwxyz{|}~\n\t" = L ∧ L.length = 96 ∧ ∀ c ∈ L.cps.toList, c < 128 := ⟨_, rfl, by decide +kernel, by decide +kernel⟩
  rw [hL]
  refine ⟨by omega, callT_of (take_ok h (by omega) (by omega) (by omega) fun r1 b1 hb1 r10 r11 _ _ => ?_)⟩
  have ha := atI_lt (xs := L.cps.toList) r10 (by rw [← slen]; omega)
  have hc := hL1
  have hc1 : L.cps.toList[r1.toNat]'(by rw [← slen]; omega) < 128 := hL2 _ (List.getElem_mem _)
  generalize (L.cps.toList[r1.toNat]'(by rw [← slen]; omega)) = c at ha hc1
  have hzl := hz.l
  simp -dsimp -implicitDefEqProofs only [↓w2_eq, ↓wT_eq, ↓wChain_eq, ↓wTru_eq, ↓wAndV_eq, ↓wOrV_eq, ↓wNotV_eq, ↓wNeg_eq, ↓wPart_eq, ↓wSl_eq, ↓wN_eq, ↓wM_eq, ↓wMut_eq, ↓wTup_eq, ↓wLst_eq, ↓wCall_eq, ↓wGTup_eq, ↓wGCons_eq, ↓wGSub_eq, ↓wIsi_eq, ↓wIsi2_eq, ↓wIt_eq, ↓wRng1_eq, ↓wRng2_eq, ↓wLenSc_eq, ↓wIxSc_eq, ↓wPar_eq, ↓asgn_eq, ↓asgn_fz, ↓asgn_ow, ↓asgn_loc, ↓retR_fz, ↓retR_ow, ↓retR_loc, ↓wFor_eq, ↓wLc_eq, ↓wVar_eq, ↓wC_eq, ↓wNil_eq, ↓wCons_eq, ↓wAndT_eq, ↓wOrT_eq, ↓wNotT_eq, ↓wIfE_eq, ↓wNoPart_eq, ↓wYes_eq, ↓wNext_eq, ↓wBreak_eq, ↓wCont_eq, ↓wSeq_eq, ↓wDrop_eq, ↓wRet_eq, ↓wRetN_eq, ↓wIf_eq, ↓wAsg_eq, ↓wGNil_eq, ↓gOfB_eq, ↓endsF_nx, ↓endsF_rt, ↓bnd_some, ↓bnd_none, ↓ind_int, ↓tst_bool, ↓tsto_bool, ↓locR_loc, ↓tupR_tup, ↓cns_cons, ↓two_two, ↓ints1_int, ↓ints2_int, ↓g1_eq, ↓g2_eq, ↓gEq_eq, ↓gNe_eq, ↓gRepr_eq, ↓gIn_one, ↓gIs_bb, ↓gIs_none, ↓gIn_list, ↓gIn_tuple, ↓gSl_list, ↓gSl_tuple, ↓gSl_str, ↓gIx_list, ↓gIx_tuple, ↓gIx_str, ↓gSetL_eq, ↓gSum_eq, ↓gBools_eq, ↓gJoin_eq, ↓gAdd.eq_1, ↓gAdd.eq_2, ↓gAdd.eq_3, ↓gAdd.eq_4, ↓PL.gSub.eq_1, ↓gMod.eq_1, ↓gDiv.eq_1, ↓gPow.eq_1, ↓gMul.eq_1, ↓gMul.eq_2, ↓gMul.eq_3, ↓gCmp.eq_1, ↓gCmp.eq_2, ↓gLen.eq_1, ↓gLen.eq_2, ↓gLen.eq_3, ↓gAbs.eq_1, ↓gInt.eq_1, ↓gInt.eq_2, ↓gI2.eq_1, ↓gTup1.eq_1, ↓gTup1.eq_2, ↓gLst1.eq_1, ↓gLst1.eq_2, ↓gAppend.eq_1, ↓gCount.eq_1, ↓gUpper.eq_1, eqv_int, eqv_str, eqv_bool, eqv_ns, eqv_sn, eqv_nn, eqv_ni, eqv_in, eqv_si, eqv_is, eqOk_int, eqOk_str, eqOk_bool, eqOk_ns, eqOk_sn, eqOk_nn, eqOk_ni, eqOk_in, eqOk_si, eqOk_is, beq_iff_eq, ixN_0, ixN_1, ixN_2, ixN_3, ixN_4, ixN_5, ixN_6, ixN_7, atI_0, atI_1, atI_2, atI_3, atI_4, atI_5, atI_6, atI_7, rVar, lookAll, ownAt?, look, frz, frzAll, Out.res, okSlot_eq, okO_some, okS_fz, okS_ow, okS_sc, okS_none, wipeE, restE, prep, back, lent, lentOk, outsOf, outsFrom, argE, Res.good, isTy, tyN, noDict, itD, scAt, owA, fixR, isL, isS, seqOf, truth, truOk, List.getElem?_cons_zero, List.getElem?_cons_succ, List.set_cons_zero, List.set_cons_succ, List.replicate_zero, List.replicate_succ, List.cons_append, List.nil_append, List.append_nil, Option.some.injEq, Prod.mk.injEq, PyData.int.injEq, PyData.list.injEq, PyData.str.injEq, PyData.bool.injEq, PyData.tuple.injEq, Res.loc.injEq, Res.fz.injEq, Res.ow.injEq, and_true, true_and, List.length_cons, List.length_nil, if_true, if_false, reduceIte, Bool.false_eq_true, Option.map_some, List.cons.injEq, List.mem_cons, List.not_mem_nil, or_false, forall_eq, not_true_eq_false, not_false_eq_true, Bool.not_true, Bool.not_false, forall_const, List.nodup_nil, List.nodup_cons, Option.isSome_some, decide_eq_true_eq, Nat.reduceLeDiff, Nat.reduceAdd, Nat.zero_add, exists_eq', Int.reduceLT, Int.reduceLE, Int.reduceNeg, Int.reducePow, Nat.reducePow, Int.reduceToNat, Int.reduceAdd, Int.reduceMul, Nat.reduceMul, Nat.reduceEqDiff, Nat.reduceSub, String.reduceBEq, beq_self_eq_true, Bool.and_true, Bool.true_and, Bool.or_true, Bool.true_or, Bool.or_false, Bool.false_or, Bool.and_false, Bool.false_and, Bool.not_eq_true, Bool.not_eq_false, reduceCtorEq, ha]
  refine ⟨by omega, by omega, callT_of (take_ok hb1 (by omega) (by omega) (by omega) fun r2 b2 hb2 r20 r21 _ _ => ?_)⟩
  simp -dsimp -implicitDefEqProofs only [w__law_bent_2, w__law_bent_3, ↓w2_eq, ↓wT_eq, ↓wChain_eq, ↓wTru_eq, ↓wAndV_eq, ↓wOrV_eq, ↓wNotV_eq, ↓wNeg_eq, ↓wPart_eq, ↓wSl_eq, ↓wN_eq, ↓wM_eq, ↓wMut_eq, ↓wTup_eq, ↓wLst_eq, ↓wCall_eq, ↓wGTup_eq, ↓wGCons_eq, ↓wGSub_eq, ↓wIsi_eq, ↓wIsi2_eq, ↓wIt_eq, ↓wRng1_eq, ↓wRng2_eq, ↓wLenSc_eq, ↓wIxSc_eq, ↓wPar_eq, ↓asgn_eq, ↓asgn_fz, ↓asgn_ow, ↓asgn_loc, ↓retR_fz, ↓retR_ow, ↓retR_loc, ↓wFor_eq, ↓wLc_eq, ↓wVar_eq, ↓wC_eq, ↓wNil_eq, ↓wCons_eq, ↓wAndT_eq, ↓wOrT_eq, ↓wNotT_eq, ↓wIfE_eq, ↓wNoPart_eq, ↓wYes_eq, ↓wNext_eq, ↓wBreak_eq, ↓wCont_eq, ↓wSeq_eq, ↓wDrop_eq, ↓wRet_eq, ↓wRetN_eq, ↓wIf_eq, ↓wAsg_eq, ↓wGNil_eq, ↓gOfB_eq, ↓endsF_nx, ↓endsF_rt, ↓bnd_some, ↓bnd_none, ↓ind_int, ↓tst_bool, ↓tsto_bool, ↓locR_loc, ↓tupR_tup, ↓cns_cons, ↓two_two, ↓ints1_int, ↓ints2_int, ↓g1_eq, ↓g2_eq, ↓gEq_eq, ↓gNe_eq, ↓gRepr_eq, ↓gIn_one, ↓gIs_bb, ↓gIs_none, ↓gIn_list, ↓gIn_tuple, ↓gSl_list, ↓gSl_tuple, ↓gSl_str, ↓gIx_list, ↓gIx_tuple, ↓gIx_str, ↓gSetL_eq, ↓gSum_eq, ↓gBools_eq, ↓gJoin_eq, ↓gAdd.eq_1, ↓gAdd.eq_2, ↓gAdd.eq_3, ↓gAdd.eq_4, ↓PL.gSub.eq_1, ↓gMod.eq_1, ↓gDiv.eq_1, ↓gPow.eq_1, ↓gMul.eq_1, ↓gMul.eq_2, ↓gMul.eq_3, ↓gCmp.eq_1, ↓gCmp.eq_2, ↓gLen.eq_1, ↓gLen.eq_2, ↓gLen.eq_3, ↓gAbs.eq_1, ↓gInt.eq_1, ↓gInt.eq_2, ↓gI2.eq_1, ↓gTup1.eq_1, ↓gTup1.eq_2, ↓gLst1.eq_1, ↓gLst1.eq_2, ↓gAppend.eq_1, ↓gCount.eq_1, ↓gUpper.eq_1, eqv_int, eqv_str, eqv_bool, eqv_ns, eqv_sn, eqv_nn, eqv_ni, eqv_in, eqv_si, eqv_is, eqOk_int, eqOk_str, eqOk_bool, eqOk_ns, eqOk_sn, eqOk_nn, eqOk_ni, eqOk_in, eqOk_si, eqOk_is, beq_iff_eq, ixN_0, ixN_1, ixN_2, ixN_3, ixN_4, ixN_5, ixN_6, ixN_7, atI_0, atI_1, atI_2, atI_3, atI_4, atI_5, atI_6, atI_7, rVar, lookAll, ownAt?, look, frz, frzAll, Out.res, okSlot_eq, okO_some, okS_fz, okS_ow, okS_sc, okS_none, wipeE, restE, prep, back, lent, lentOk, outsOf, outsFrom, argE, Res.good, isTy, tyN, noDict, itD, scAt, owA, fixR, isL, isS, seqOf, truth, truOk, List.getElem?_cons_zero, List.getElem?_cons_succ, List.set_cons_zero, List.set_cons_succ, List.replicate_zero, List.replicate_succ, List.cons_append, List.nil_append, List.append_nil, Option.some.injEq, Prod.mk.injEq, PyData.int.injEq, PyData.list.injEq, PyData.str.injEq, PyData.bool.injEq, PyData.tuple.injEq, Res.loc.injEq, Res.fz.injEq, Res.ow.injEq, and_true, true_and, List.length_cons, List.length_nil, if_true, if_false, reduceIte, Bool.false_eq_true, Option.map_some, List.cons.injEq, List.mem_cons, List.not_mem_nil, or_false, forall_eq, not_true_eq_false, not_false_eq_true, Bool.not_true, Bool.not_false, forall_const, List.nodup_nil, List.nodup_cons, Option.isSome_some, decide_eq_true_eq, Nat.reduceLeDiff, Nat.reduceAdd, Nat.zero_add, exists_eq', Int.reduceLT, Int.reduceLE, Int.reduceNeg, Int.reducePow, Nat.reducePow, Int.reduceToNat, Int.reduceAdd, Int.reduceMul, Nat.reduceMul, Nat.reduceEqDiff, Nat.reduceSub, String.reduceBEq, beq_self_eq_true, Bool.and_true, Bool.true_and, Bool.or_true, Bool.true_or, Bool.or_false, Bool.false_or, Bool.and_false, Bool.false_and, Bool.not_eq_true, Bool.not_eq_false, reduceCtorEq]
  have l1 : (cutS z none (some r2)).length + (cutS z (some r2) none).length ≤ z.length := by
    rw [slen, slen, slen, cut_head r20, cut_tail r20, List.length_take, List.length_drop]; omega
  have l2 : (cutS (cutS z (some r2) none) (some 1) none).length ≤ (cutS z (some r2) none).length := by
    rw [slen, slen, cut_tail (by omega : (0 : Int) ≤ 1), List.length_drop]; omega
  have l3 : (cutS (cutS z (some r2) none) none (some 1)).length ≤ 1 := by
    rw [slen, cut_head (by omega : (0 : Int) ≤ 1), List.length_take]; exact Nat.min_le_left _ _
  have a1 := hz.cut none (some r2)
  have a2 := hz.cut (some r2) none
  have a3 := a2.cut (some 1) none
  have a4 := a2.cut none (some 1)
  have a5 := TOk.one hc1
  have a6 : (⟨#[c]⟩ : Str).length = 1 := rfl
  have ap : ∀ a b : Str, (a ++ b).length = a.length + b.length := fun a b => Str.length_append a b
  have tight : ∀ y : Str, (∃ k, TOk k y) → y.length ≤ m + 1 → TOk (m + 1) y := fun y ⟨k, hk⟩ hl => ⟨by rw [← slen]; exact hl, hk.asc⟩
  have t1 := tight _ ⟨_, (a1.app a5).app a2⟩ (by rw [ap, ap]; omega)
  have t2 := tight _ ⟨_, (a1.app a5).app a3⟩ (by rw [ap, ap]; omega)
  have t3 := tight _ ⟨_, a1.app a3⟩ (by rw [ap]; omega)
  have t4 := tight _ ⟨_, (a1.app a4).app a2⟩ (by rw [ap, ap]; omega)
  have t5 := tight _ ⟨_, hz.upper⟩ (Nat.le_trans hz.upper.l (by omega))
  have t6 := tight _ ⟨_, hz.app a5⟩ (by rw [ap]; omega)
  have b1 := a1.l
  have b2 := a2.l
  have b3 := a3.l
  have b4 := a4.l
  refine ⟨by omega, by omega, by omega, by rw [ap]; omega, by omega, by omega, by rw [ap]; omega, by omega, by omega, by omega, by omega, by rw [ap]; omega, ?_⟩
  generalize cutS z none (some r2) ++ ⟨#[c]⟩ ++ cutS z (some r2) none = y1 at t1 ⊢
  generalize cutS z none (some r2) ++ ⟨#[c]⟩ ++ cutS (cutS z (some r2) none) (some 1) none = y2 at t2 ⊢
  generalize cutS z none (some r2) ++ cutS (cutS z (some r2) none) (some 1) none = y3 at t3 ⊢
  generalize cutS z none (some r2) ++ cutS (cutS z (some r2) none) none (some 1) ++ cutS z (some r2) none = y4 at t4 ⊢
  simp -dsimp -implicitDefEqProofs only [w__law_bent_4, ↓w2_eq, ↓wT_eq, ↓wChain_eq, ↓wTru_eq, ↓wAndV_eq, ↓wOrV_eq, ↓wNotV_eq, ↓wNeg_eq, ↓wPart_eq, ↓wSl_eq, ↓wN_eq, ↓wM_eq, ↓wMut_eq, ↓wTup_eq, ↓wLst_eq, ↓wCall_eq, ↓wGTup_eq, ↓wGCons_eq, ↓wGSub_eq, ↓wIsi_eq, ↓wIsi2_eq, ↓wIt_eq, ↓wRng1_eq, ↓wRng2_eq, ↓wLenSc_eq, ↓wIxSc_eq, ↓wPar_eq, ↓asgn_eq, ↓asgn_fz, ↓asgn_ow, ↓asgn_loc, ↓retR_fz, ↓retR_ow, ↓retR_loc, ↓wFor_eq, ↓wLc_eq, ↓wVar_eq, ↓wC_eq, ↓wNil_eq, ↓wCons_eq, ↓wAndT_eq, ↓wOrT_eq, ↓wNotT_eq, ↓wIfE_eq, ↓wNoPart_eq, ↓wYes_eq, ↓wNext_eq, ↓wBreak_eq, ↓wCont_eq, ↓wSeq_eq, ↓wDrop_eq, ↓wRet_eq, ↓wRetN_eq, ↓wIf_eq, ↓wAsg_eq, ↓wGNil_eq, ↓gOfB_eq, ↓endsF_nx, ↓endsF_rt, ↓bnd_some, ↓bnd_none, ↓ind_int, ↓tst_bool, ↓tsto_bool, ↓locR_loc, ↓tupR_tup, ↓cns_cons, ↓two_two, ↓ints1_int, ↓ints2_int, ↓g1_eq, ↓g2_eq, ↓gEq_eq, ↓gNe_eq, ↓gRepr_eq, ↓gIn_one, ↓gIs_bb, ↓gIs_none, ↓gIn_list, ↓gIn_tuple, ↓gSl_list, ↓gSl_tuple, ↓gSl_str, ↓gIx_list, ↓gIx_tuple, ↓gIx_str, ↓gSetL_eq, ↓gSum_eq, ↓gBools_eq, ↓gJoin_eq, ↓gAdd.eq_1, ↓gAdd.eq_2, ↓gAdd.eq_3, ↓gAdd.eq_4, ↓PL.gSub.eq_1, ↓gMod.eq_1, ↓gDiv.eq_1, ↓gPow.eq_1, ↓gMul.eq_1, ↓gMul.eq_2, ↓gMul.eq_3, ↓gCmp.eq_1, ↓gCmp.eq_2, ↓gLen.eq_1, ↓gLen.eq_2, ↓gLen.eq_3, ↓gAbs.eq_1, ↓gInt.eq_1, ↓gInt.eq_2, ↓gI2.eq_1, ↓gTup1.eq_1, ↓gTup1.eq_2, ↓gLst1.eq_1, ↓gLst1.eq_2, ↓gAppend.eq_1, ↓gCount.eq_1, ↓gUpper.eq_1, eqv_int, eqv_str, eqv_bool, eqv_ns, eqv_sn, eqv_nn, eqv_ni, eqv_in, eqv_si, eqv_is, eqOk_int, eqOk_str, eqOk_bool, eqOk_ns, eqOk_sn, eqOk_nn, eqOk_ni, eqOk_in, eqOk_si, eqOk_is, beq_iff_eq, ixN_0, ixN_1, ixN_2, ixN_3, ixN_4, ixN_5, ixN_6, ixN_7, atI_0, atI_1, atI_2, atI_3, atI_4, atI_5, atI_6, atI_7, rVar, lookAll, ownAt?, look, frz, frzAll, Out.res, okSlot_eq, okO_some, okS_fz, okS_ow, okS_sc, okS_none, wipeE, restE, prep, back, lent, lentOk, outsOf, outsFrom, argE, Res.good, isTy, tyN, noDict, itD, scAt, owA, fixR, isL, isS, seqOf, truth, truOk, List.getElem?_cons_zero, List.getElem?_cons_succ, List.set_cons_zero, List.set_cons_succ, List.replicate_zero, List.replicate_succ, List.cons_append, List.nil_append, List.append_nil, Option.some.injEq, Prod.mk.injEq, PyData.int.injEq, PyData.list.injEq, PyData.str.injEq, PyData.bool.injEq, PyData.tuple.injEq, Res.loc.injEq, Res.fz.injEq, Res.ow.injEq, and_true, true_and, List.length_cons, List.length_nil, if_true, if_false, reduceIte, Bool.false_eq_true, Option.map_some, List.cons.injEq, List.mem_cons, List.not_mem_nil, or_false, forall_eq, not_true_eq_false, not_false_eq_true, Bool.not_true, Bool.not_false, forall_const, List.nodup_nil, List.nodup_cons, Option.isSome_some, decide_eq_true_eq, Nat.reduceLeDiff, Nat.reduceAdd, Nat.zero_add, exists_eq', Int.reduceLT, Int.reduceLE, Int.reduceNeg, Int.reducePow, Nat.reducePow, Int.reduceToNat, Int.reduceAdd, Int.reduceMul, Nat.reduceMul, Nat.reduceEqDiff, Nat.reduceSub, String.reduceBEq, beq_self_eq_true, Bool.and_true, Bool.true_and, Bool.or_true, Bool.true_or, Bool.or_false, Bool.false_or, Bool.and_false, Bool.false_and, Bool.not_eq_true, Bool.not_eq_false, reduceCtorEq]
  refine ⟨by omega, by omega, callT_of (take_ok hb2 (by omega) (by omega) (by omega) fun r3 b3 hb3 r30 r31 _ _ => ?_)⟩
  obtain ⟨y, hy, ty⟩ : ∃ y, atI [PyData.str y1, .str y2, .str y3, .str y4, .str (Txt.upper z), .str (z ++ ⟨#[c]⟩)] r3 = some (.str y) ∧ TOk (m + 1) y := by
    rcases (by omega : r3 = 0 ∨ r3 = 1 ∨ r3 = 2 ∨ r3 = 3 ∨ r3 = 4 ∨ r3 = 5) with rfl | rfl | rfl | rfl | rfl | rfl
    · exact ⟨_, atI_0, t1⟩
    · exact ⟨_, atI_1, t2⟩
    · exact ⟨_, atI_2, t3⟩
    · exact ⟨_, atI_3, t4⟩
    · exact ⟨_, atI_4, t5⟩
    · exact ⟨_, atI_5, t6⟩
  simp -dsimp -implicitDefEqProofs only [↓w2_eq, ↓wT_eq, ↓wChain_eq, ↓wTru_eq, ↓wAndV_eq, ↓wOrV_eq, ↓wNotV_eq, ↓wNeg_eq, ↓wPart_eq, ↓wSl_eq, ↓wN_eq, ↓wM_eq, ↓wMut_eq, ↓wTup_eq, ↓wLst_eq, ↓wCall_eq, ↓wGTup_eq, ↓wGCons_eq, ↓wGSub_eq, ↓wIsi_eq, ↓wIsi2_eq, ↓wIt_eq, ↓wRng1_eq, ↓wRng2_eq, ↓wLenSc_eq, ↓wIxSc_eq, ↓wPar_eq, ↓asgn_eq, ↓asgn_fz, ↓asgn_ow, ↓asgn_loc, ↓retR_fz, ↓retR_ow, ↓retR_loc, ↓wFor_eq, ↓wLc_eq, ↓wVar_eq, ↓wC_eq, ↓wNil_eq, ↓wCons_eq, ↓wAndT_eq, ↓wOrT_eq, ↓wNotT_eq, ↓wIfE_eq, ↓wNoPart_eq, ↓wYes_eq, ↓wNext_eq, ↓wBreak_eq, ↓wCont_eq, ↓wSeq_eq, ↓wDrop_eq, ↓wRet_eq, ↓wRetN_eq, ↓wIf_eq, ↓wAsg_eq, ↓wGNil_eq, ↓gOfB_eq, ↓endsF_nx, ↓endsF_rt, ↓bnd_some, ↓bnd_none, ↓ind_int, ↓tst_bool, ↓tsto_bool, ↓locR_loc, ↓tupR_tup, ↓cns_cons, ↓two_two, ↓ints1_int, ↓ints2_int, ↓g1_eq, ↓g2_eq, ↓gEq_eq, ↓gNe_eq, ↓gRepr_eq, ↓gIn_one, ↓gIs_bb, ↓gIs_none, ↓gIn_list, ↓gIn_tuple, ↓gSl_list, ↓gSl_tuple, ↓gSl_str, ↓gIx_list, ↓gIx_tuple, ↓gIx_str, ↓gSetL_eq, ↓gSum_eq, ↓gBools_eq, ↓gJoin_eq, ↓gAdd.eq_1, ↓gAdd.eq_2, ↓gAdd.eq_3, ↓gAdd.eq_4, ↓PL.gSub.eq_1, ↓gMod.eq_1, ↓gDiv.eq_1, ↓gPow.eq_1, ↓gMul.eq_1, ↓gMul.eq_2, ↓gMul.eq_3, ↓gCmp.eq_1, ↓gCmp.eq_2, ↓gLen.eq_1, ↓gLen.eq_2, ↓gLen.eq_3, ↓gAbs.eq_1, ↓gInt.eq_1, ↓gInt.eq_2, ↓gI2.eq_1, ↓gTup1.eq_1, ↓gTup1.eq_2, ↓gLst1.eq_1, ↓gLst1.eq_2, ↓gAppend.eq_1, ↓gCount.eq_1, ↓gUpper.eq_1, eqv_int, eqv_str, eqv_bool, eqv_ns, eqv_sn, eqv_nn, eqv_ni, eqv_in, eqv_si, eqv_is, eqOk_int, eqOk_str, eqOk_bool, eqOk_ns, eqOk_sn, eqOk_nn, eqOk_ni, eqOk_in, eqOk_si, eqOk_is, beq_iff_eq, ixN_0, ixN_1, ixN_2, ixN_3, ixN_4, ixN_5, ixN_6, ixN_7, atI_0, atI_1, atI_2, atI_3, atI_4, atI_5, atI_6, atI_7, rVar, lookAll, ownAt?, look, frz, frzAll, Out.res, okSlot_eq, okO_some, okS_fz, okS_ow, okS_sc, okS_none, wipeE, restE, prep, back, lent, lentOk, outsOf, outsFrom, argE, Res.good, isTy, tyN, noDict, itD, scAt, owA, fixR, isL, isS, seqOf, truth, truOk, List.getElem?_cons_zero, List.getElem?_cons_succ, List.set_cons_zero, List.set_cons_succ, List.replicate_zero, List.replicate_succ, List.cons_append, List.nil_append, List.append_nil, Option.some.injEq, Prod.mk.injEq, PyData.int.injEq, PyData.list.injEq, PyData.str.injEq, PyData.bool.injEq, PyData.tuple.injEq, Res.loc.injEq, Res.fz.injEq, Res.ow.injEq, and_true, true_and, List.length_cons, List.length_nil, if_true, if_false, reduceIte, Bool.false_eq_true, Option.map_some, List.cons.injEq, List.mem_cons, List.not_mem_nil, or_false, forall_eq, not_true_eq_false, not_false_eq_true, Bool.not_true, Bool.not_false, forall_const, List.nodup_nil, List.nodup_cons, Option.isSome_some, decide_eq_true_eq, Nat.reduceLeDiff, Nat.reduceAdd, Nat.zero_add, exists_eq', Int.reduceLT, Int.reduceLE, Int.reduceNeg, Int.reducePow, Nat.reducePow, Int.reduceToNat, Int.reduceAdd, Int.reduceMul, Nat.reduceMul, Nat.reduceEqDiff, Nat.reduceSub, String.reduceBEq, beq_self_eq_true, Bool.and_true, Bool.true_and, Bool.or_true, Bool.true_or, Bool.or_false, Bool.false_or, Bool.and_false, Bool.false_and, Bool.not_eq_true, Bool.not_eq_false, reduceCtorEq, hy]
  exact hQ _ _ hb3 ty
theorem tok_w {n : Nat} {z : Str} (h : TOk n z) : z.cps.size ≤ n := h.l
theorem sh_of {d : D} (h1 : d.canLay0 = true) (h2 : d.showable = true) (h3 : d.depth ≤ 64) (h4 : d.weight ≤ 2 ^ 20) (h5 : d.intsShort 13 = true) : d.canLay0 = true ∧ d.showable = true ∧ d.depth ≤ 64 ∧ d.shown.length ≤ sizeLine :=
  ⟨h1, h2, h3, PyData.shown_fits_of_layable0 (B := 13) (by decide) (by decide) (by unfold PyData.layable0; rw [h1, decide_eq_true h3, decide_eq_true h4]; rfl) h5⟩
theorem good_str {n : Nat} {z : Str} (h : TOk n z) (hn : n ≤ 1000) : Good n (.str z) := by
  have := tok_w h
  refine ⟨rfl, sh_of h.strOk rfl (by rw [PyData.depth]; omega) (by rw [PyData.weight]; omega) rfl, fun z' q => ?_⟩
  cases q; exact h
theorem good_bool (n : Nat) (b : Bool) : Good n (.bool b) := ⟨rfl, by cases b <;> exact ⟨rfl, rfl, by decide +kernel, by decide +kernel⟩, fun z q => by cases q⟩
theorem good_none (n : Nat) : Good n .none := ⟨rfl, ⟨rfl, rfl, by decide +kernel, by decide +kernel⟩, fun z q => by cases q⟩
theorem good_0 (n : Nat) : Good n (.int 0) := ⟨rfl, ⟨rfl, by decide +kernel, by decide +kernel, by decide +kernel⟩, fun z q => by cases q⟩
theorem good_7 (n : Nat) : Good n (.int 7) := ⟨rfl, ⟨rfl, by decide +kernel, by decide +kernel, by decide +kernel⟩, fun z q => by cases q⟩
theorem good_nil (n : Nat) : Good n (.list []) := ⟨rfl, ⟨by decide +kernel, by decide +kernel, by decide +kernel, by decide +kernel⟩, fun z q => by cases q⟩
theorem good_l1 (n : Nat) {z : Str} (h : TOk 8 z) : Good n (.list [.str z]) := by
  have := tok_w h
  have h2 := h.strOk
  refine ⟨rfl, sh_of (by simp only [PyData.canLay0, PyData.canLayAll0, Bool.and_true] at h2 ⊢; exact h2) rfl (by simp [PyData.depth, PyData.depthAll]) (by simp only [PyData.weight, PyData.weightAll]; omega) rfl, fun z q => by cases q⟩
theorem good_t1 (n : Nat) {z : Str} (h : TOk 8 z) : Good n (.tuple [.str z]) := by
  have := tok_w h
  have h2 := h.strOk
  refine ⟨rfl, sh_of (by simp only [PyData.canLay0, PyData.canLayAll0, Bool.and_true] at h2 ⊢; exact h2) rfl (by simp [PyData.depth, PyData.depthAll]) (by simp only [PyData.weight, PyData.weightAll]; omega) rfl, fun z q => by cases q⟩
theorem good_t2 (n : Nat) {z : Str} (h : TOk 8 z) : Good n (.tuple [.str z, .str z]) := by
  have := tok_w h
  have h2 := h.strOk
  refine ⟨rfl, sh_of (by simp only [PyData.canLay0, PyData.canLayAll0, Bool.and_true, Bool.and_self] at h2 ⊢; exact h2) rfl (by simp [PyData.depth, PyData.depthAll]) (by simp only [PyData.weight, PyData.weightAll]; omega) rfl, fun z q => by cases q⟩
theorem turn_ok {ns : List Int} {k : Int} {x2 x3 x4 x5 : Option (Kd × D)} {D0 : DEnds} (h0 : 0 ≤ k) (h1 : k ≤ 63) (o2 : okS x2 = true) (o3 : okS x3 = true) (o4 : okS x4 = true) (o5 : okS x5 = true)
    (hK : ∀ y1 y2 y3 y4 y5, okS y1 = true → okS y2 = true → okS y3 = true → okS y4 = true → okS y5 = true → D0.nx [some (.sc, .list (ns.map .int)), y1, y2, y3, y4, y5, none]) :
    b_law_2 D0 [some (.sc, .list (ns.map .int)), some (.fz, .int k), x2, x3, x4, x5, none] := by
  simp -dsimp -implicitDefEqProofs only [b_law_2, ↓w2_eq, ↓wT_eq, ↓wChain_eq, ↓wTru_eq, ↓wAndV_eq, ↓wOrV_eq, ↓wNotV_eq, ↓wNeg_eq, ↓wPart_eq, ↓wSl_eq, ↓wN_eq, ↓wM_eq, ↓wMut_eq, ↓wTup_eq, ↓wLst_eq, ↓wCall_eq, ↓wGTup_eq, ↓wGCons_eq, ↓wGSub_eq, ↓wIsi_eq, ↓wIsi2_eq, ↓wIt_eq, ↓wRng1_eq, ↓wRng2_eq, ↓wLenSc_eq, ↓wIxSc_eq, ↓wPar_eq, ↓asgn_eq, ↓asgn_fz, ↓asgn_ow, ↓asgn_loc, ↓retR_fz, ↓retR_ow, ↓retR_loc, ↓wFor_eq, ↓wLc_eq, ↓wVar_eq, ↓wC_eq, ↓wNil_eq, ↓wCons_eq, ↓wAndT_eq, ↓wOrT_eq, ↓wNotT_eq, ↓wIfE_eq, ↓wNoPart_eq, ↓wYes_eq, ↓wNext_eq, ↓wBreak_eq, ↓wCont_eq, ↓wSeq_eq, ↓wDrop_eq, ↓wRet_eq, ↓wRetN_eq, ↓wIf_eq, ↓wAsg_eq, ↓wGNil_eq, ↓gOfB_eq, ↓endsF_nx, ↓endsF_rt, ↓bnd_some, ↓bnd_none, ↓ind_int, ↓tst_bool, ↓tsto_bool, ↓locR_loc, ↓tupR_tup, ↓cns_cons, ↓two_two, ↓ints1_int, ↓ints2_int, ↓g1_eq, ↓g2_eq, ↓gEq_eq, ↓gNe_eq, ↓gRepr_eq, ↓gIn_one, ↓gIs_bb, ↓gIs_none, ↓gIn_list, ↓gIn_tuple, ↓gSl_list, ↓gSl_tuple, ↓gSl_str, ↓gIx_list, ↓gIx_tuple, ↓gIx_str, ↓gSetL_eq, ↓gSum_eq, ↓gBools_eq, ↓gJoin_eq, ↓gAdd.eq_1, ↓gAdd.eq_2, ↓gAdd.eq_3, ↓gAdd.eq_4, ↓PL.gSub.eq_1, ↓gMod.eq_1, ↓gDiv.eq_1, ↓gPow.eq_1, ↓gMul.eq_1, ↓gMul.eq_2, ↓gMul.eq_3, ↓gCmp.eq_1, ↓gCmp.eq_2, ↓gLen.eq_1, ↓gLen.eq_2, ↓gLen.eq_3, ↓gAbs.eq_1, ↓gInt.eq_1, ↓gInt.eq_2, ↓gI2.eq_1, ↓gTup1.eq_1, ↓gTup1.eq_2, ↓gLst1.eq_1, ↓gLst1.eq_2, ↓gAppend.eq_1, ↓gCount.eq_1, ↓gUpper.eq_1, eqv_int, eqv_str, eqv_bool, eqv_ns, eqv_sn, eqv_nn, eqv_ni, eqv_in, eqv_si, eqv_is, eqOk_int, eqOk_str, eqOk_bool, eqOk_ns, eqOk_sn, eqOk_nn, eqOk_ni, eqOk_in, eqOk_si, eqOk_is, beq_iff_eq, ixN_0, ixN_1, ixN_2, ixN_3, ixN_4, ixN_5, ixN_6, ixN_7, atI_0, atI_1, atI_2, atI_3, atI_4, atI_5, atI_6, atI_7, rVar, lookAll, ownAt?, look, frz, frzAll, Out.res, okSlot_eq, okO_some, okS_fz, okS_ow, okS_sc, okS_none, wipeE, restE, prep, back, lent, lentOk, outsOf, outsFrom, argE, Res.good, isTy, tyN, noDict, itD, scAt, owA, fixR, isL, isS, seqOf, truth, truOk, List.getElem?_cons_zero, List.getElem?_cons_succ, List.set_cons_zero, List.set_cons_succ, List.replicate_zero, List.replicate_succ, List.cons_append, List.nil_append, List.append_nil, Option.some.injEq, Prod.mk.injEq, PyData.int.injEq, PyData.list.injEq, PyData.str.injEq, PyData.bool.injEq, PyData.tuple.injEq, Res.loc.injEq, Res.fz.injEq, Res.ow.injEq, and_true, true_and, List.length_cons, List.length_nil, if_true, if_false, reduceIte, Bool.false_eq_true, Option.map_some, List.cons.injEq, List.mem_cons, List.not_mem_nil, or_false, forall_eq, not_true_eq_false, not_false_eq_true, Bool.not_true, Bool.not_false, forall_const, List.nodup_nil, List.nodup_cons, Option.isSome_some, decide_eq_true_eq, Nat.reduceLeDiff, Nat.reduceAdd, Nat.zero_add, exists_eq', Int.reduceLT, Int.reduceLE, Int.reduceNeg, Int.reducePow, Nat.reducePow, Int.reduceToNat, Int.reduceAdd, Int.reduceMul, Nat.reduceMul, Nat.reduceEqDiff, Nat.reduceSub, String.reduceBEq, beq_self_eq_true, Bool.and_true, Bool.true_and, Bool.or_true, Bool.true_or, Bool.or_false, Bool.false_or, Bool.and_false, Bool.false_and, Bool.not_eq_true, Bool.not_eq_false, reduceCtorEq]
  refine callT_of (box_ok h0 h1 fun b o hb g1 g2 => ?_)
  match o, g2 with
  | [p1, p2], _ =>
  simp -dsimp -implicitDefEqProofs only [↓w2_eq, ↓wT_eq, ↓wChain_eq, ↓wTru_eq, ↓wAndV_eq, ↓wOrV_eq, ↓wNotV_eq, ↓wNeg_eq, ↓wPart_eq, ↓wSl_eq, ↓wN_eq, ↓wM_eq, ↓wMut_eq, ↓wTup_eq, ↓wLst_eq, ↓wCall_eq, ↓wGTup_eq, ↓wGCons_eq, ↓wGSub_eq, ↓wIsi_eq, ↓wIsi2_eq, ↓wIt_eq, ↓wRng1_eq, ↓wRng2_eq, ↓wLenSc_eq, ↓wIxSc_eq, ↓wPar_eq, ↓asgn_eq, ↓asgn_fz, ↓asgn_ow, ↓asgn_loc, ↓retR_fz, ↓retR_ow, ↓retR_loc, ↓wFor_eq, ↓wLc_eq, ↓wVar_eq, ↓wC_eq, ↓wNil_eq, ↓wCons_eq, ↓wAndT_eq, ↓wOrT_eq, ↓wNotT_eq, ↓wIfE_eq, ↓wNoPart_eq, ↓wYes_eq, ↓wNext_eq, ↓wBreak_eq, ↓wCont_eq, ↓wSeq_eq, ↓wDrop_eq, ↓wRet_eq, ↓wRetN_eq, ↓wIf_eq, ↓wAsg_eq, ↓wGNil_eq, ↓gOfB_eq, ↓endsF_nx, ↓endsF_rt, ↓bnd_some, ↓bnd_none, ↓ind_int, ↓tst_bool, ↓tsto_bool, ↓locR_loc, ↓tupR_tup, ↓cns_cons, ↓two_two, ↓ints1_int, ↓ints2_int, ↓g1_eq, ↓g2_eq, ↓gEq_eq, ↓gNe_eq, ↓gRepr_eq, ↓gIn_one, ↓gIs_bb, ↓gIs_none, ↓gIn_list, ↓gIn_tuple, ↓gSl_list, ↓gSl_tuple, ↓gSl_str, ↓gIx_list, ↓gIx_tuple, ↓gIx_str, ↓gSetL_eq, ↓gSum_eq, ↓gBools_eq, ↓gJoin_eq, ↓gAdd.eq_1, ↓gAdd.eq_2, ↓gAdd.eq_3, ↓gAdd.eq_4, ↓PL.gSub.eq_1, ↓gMod.eq_1, ↓gDiv.eq_1, ↓gPow.eq_1, ↓gMul.eq_1, ↓gMul.eq_2, ↓gMul.eq_3, ↓gCmp.eq_1, ↓gCmp.eq_2, ↓gLen.eq_1, ↓gLen.eq_2, ↓gLen.eq_3, ↓gAbs.eq_1, ↓gInt.eq_1, ↓gInt.eq_2, ↓gI2.eq_1, ↓gTup1.eq_1, ↓gTup1.eq_2, ↓gLst1.eq_1, ↓gLst1.eq_2, ↓gAppend.eq_1, ↓gCount.eq_1, ↓gUpper.eq_1, eqv_int, eqv_str, eqv_bool, eqv_ns, eqv_sn, eqv_nn, eqv_ni, eqv_in, eqv_si, eqv_is, eqOk_int, eqOk_str, eqOk_bool, eqOk_ns, eqOk_sn, eqOk_nn, eqOk_ni, eqOk_in, eqOk_si, eqOk_is, beq_iff_eq, ixN_0, ixN_1, ixN_2, ixN_3, ixN_4, ixN_5, ixN_6, ixN_7, atI_0, atI_1, atI_2, atI_3, atI_4, atI_5, atI_6, atI_7, rVar, lookAll, ownAt?, look, frz, frzAll, Out.res, okSlot_eq, okO_some, okS_fz, okS_ow, okS_sc, okS_none, wipeE, restE, prep, back, lent, lentOk, outsOf, outsFrom, argE, Res.good, isTy, tyN, noDict, itD, scAt, owA, fixR, isL, isS, seqOf, truth, truOk, List.getElem?_cons_zero, List.getElem?_cons_succ, List.set_cons_zero, List.set_cons_succ, List.replicate_zero, List.replicate_succ, List.cons_append, List.nil_append, List.append_nil, Option.some.injEq, Prod.mk.injEq, PyData.int.injEq, PyData.list.injEq, PyData.str.injEq, PyData.bool.injEq, PyData.tuple.injEq, Res.loc.injEq, Res.fz.injEq, Res.ow.injEq, and_true, true_and, List.length_cons, List.length_nil, if_true, if_false, reduceIte, Bool.false_eq_true, Option.map_some, List.cons.injEq, List.mem_cons, List.not_mem_nil, or_false, forall_eq, not_true_eq_false, not_false_eq_true, Bool.not_true, Bool.not_false, forall_const, List.nodup_nil, List.nodup_cons, Option.isSome_some, decide_eq_true_eq, Nat.reduceLeDiff, Nat.reduceAdd, Nat.zero_add, exists_eq', Int.reduceLT, Int.reduceLE, Int.reduceNeg, Int.reducePow, Nat.reducePow, Int.reduceToNat, Int.reduceAdd, Int.reduceMul, Nat.reduceMul, Nat.reduceEqDiff, Nat.reduceSub, String.reduceBEq, beq_self_eq_true, Bool.and_true, Bool.true_and, Bool.or_true, Bool.true_or, Bool.or_false, Bool.false_or, Bool.and_false, Bool.false_and, Bool.not_eq_true, Bool.not_eq_false, reduceCtorEq, o2]
  refine callT_of (name_ok hb (by omega) fun z b1 hb1 hz hzn _ _ => ?_)
  have zl := hz.l
  have hab : (PySem.Str.ofString "abcdefgh").length = 8 := by decide +kernel
  have hab2 : TOk 8 (PySem.Str.ofString "abcdefgh") := ⟨by decide +kernel, by decide +kernel⟩
  have hem : TOk 0 (PySem.Str.ofString "") := ⟨by decide +kernel, by decide +kernel⟩
  simp -dsimp -implicitDefEqProofs only [↓w2_eq, ↓wT_eq, ↓wChain_eq, ↓wTru_eq, ↓wAndV_eq, ↓wOrV_eq, ↓wNotV_eq, ↓wNeg_eq, ↓wPart_eq, ↓wSl_eq, ↓wN_eq, ↓wM_eq, ↓wMut_eq, ↓wTup_eq, ↓wLst_eq, ↓wCall_eq, ↓wGTup_eq, ↓wGCons_eq, ↓wGSub_eq, ↓wIsi_eq, ↓wIsi2_eq, ↓wIt_eq, ↓wRng1_eq, ↓wRng2_eq, ↓wLenSc_eq, ↓wIxSc_eq, ↓wPar_eq, ↓asgn_eq, ↓asgn_fz, ↓asgn_ow, ↓asgn_loc, ↓retR_fz, ↓retR_ow, ↓retR_loc, ↓wFor_eq, ↓wLc_eq, ↓wVar_eq, ↓wC_eq, ↓wNil_eq, ↓wCons_eq, ↓wAndT_eq, ↓wOrT_eq, ↓wNotT_eq, ↓wIfE_eq, ↓wNoPart_eq, ↓wYes_eq, ↓wNext_eq, ↓wBreak_eq, ↓wCont_eq, ↓wSeq_eq, ↓wDrop_eq, ↓wRet_eq, ↓wRetN_eq, ↓wIf_eq, ↓wAsg_eq, ↓wGNil_eq, ↓gOfB_eq, ↓endsF_nx, ↓endsF_rt, ↓bnd_some, ↓bnd_none, ↓ind_int, ↓tst_bool, ↓tsto_bool, ↓locR_loc, ↓tupR_tup, ↓cns_cons, ↓two_two, ↓ints1_int, ↓ints2_int, ↓g1_eq, ↓g2_eq, ↓gEq_eq, ↓gNe_eq, ↓gRepr_eq, ↓gIn_one, ↓gIs_bb, ↓gIs_none, ↓gIn_list, ↓gIn_tuple, ↓gSl_list, ↓gSl_tuple, ↓gSl_str, ↓gIx_list, ↓gIx_tuple, ↓gIx_str, ↓gSetL_eq, ↓gSum_eq, ↓gBools_eq, ↓gJoin_eq, ↓gAdd.eq_1, ↓gAdd.eq_2, ↓gAdd.eq_3, ↓gAdd.eq_4, ↓PL.gSub.eq_1, ↓gMod.eq_1, ↓gDiv.eq_1, ↓gPow.eq_1, ↓gMul.eq_1, ↓gMul.eq_2, ↓gMul.eq_3, ↓gCmp.eq_1, ↓gCmp.eq_2, ↓gLen.eq_1, ↓gLen.eq_2, ↓gLen.eq_3, ↓gAbs.eq_1, ↓gInt.eq_1, ↓gInt.eq_2, ↓gI2.eq_1, ↓gTup1.eq_1, ↓gTup1.eq_2, ↓gLst1.eq_1, ↓gLst1.eq_2, ↓gAppend.eq_1, ↓gCount.eq_1, ↓gUpper.eq_1, eqv_int, eqv_str, eqv_bool, eqv_ns, eqv_sn, eqv_nn, eqv_ni, eqv_in, eqv_si, eqv_is, eqOk_int, eqOk_str, eqOk_bool, eqOk_ns, eqOk_sn, eqOk_nn, eqOk_ni, eqOk_in, eqOk_si, eqOk_is, beq_iff_eq, ixN_0, ixN_1, ixN_2, ixN_3, ixN_4, ixN_5, ixN_6, ixN_7, atI_0, atI_1, atI_2, atI_3, atI_4, atI_5, atI_6, atI_7, rVar, lookAll, ownAt?, look, frz, frzAll, Out.res, okSlot_eq, okO_some, okS_fz, okS_ow, okS_sc, okS_none, wipeE, restE, prep, back, lent, lentOk, outsOf, outsFrom, argE, Res.good, isTy, tyN, noDict, itD, scAt, owA, fixR, isL, isS, seqOf, truth, truOk, List.getElem?_cons_zero, List.getElem?_cons_succ, List.set_cons_zero, List.set_cons_succ, List.replicate_zero, List.replicate_succ, List.cons_append, List.nil_append, List.append_nil, Option.some.injEq, Prod.mk.injEq, PyData.int.injEq, PyData.list.injEq, PyData.str.injEq, PyData.bool.injEq, PyData.tuple.injEq, Res.loc.injEq, Res.fz.injEq, Res.ow.injEq, and_true, true_and, List.length_cons, List.length_nil, if_true, if_false, reduceIte, Bool.false_eq_true, Option.map_some, List.cons.injEq, List.mem_cons, List.not_mem_nil, or_false, forall_eq, not_true_eq_false, not_false_eq_true, Bool.not_true, Bool.not_false, forall_const, List.nodup_nil, List.nodup_cons, Option.isSome_some, decide_eq_true_eq, Nat.reduceLeDiff, Nat.reduceAdd, Nat.zero_add, exists_eq', Int.reduceLT, Int.reduceLE, Int.reduceNeg, Int.reducePow, Nat.reducePow, Int.reduceToNat, Int.reduceAdd, Int.reduceMul, Nat.reduceMul, Nat.reduceEqDiff, Nat.reduceSub, String.reduceBEq, beq_self_eq_true, Bool.and_true, Bool.true_and, Bool.or_true, Bool.true_or, Bool.or_false, Bool.false_or, Bool.and_false, Bool.false_and, Bool.not_eq_true, Bool.not_eq_false, reduceCtorEq, o3, o4]
  rw [hab]
  refine ⟨by omega, by omega, ?_⟩
  generalize PySem.Str.ofString "abcdefgh" = za at hab2 ⊢
  generalize PySem.Str.ofString "" = ze at hem ⊢
  refine forLT_inv (fun i e => ∃ b l y5, e = [some (.sc, .list (ns.map .int)), some (.fz, .int k), some (.ow, b), some (.fz, .str z), some (.ow, .list l), y5, none] ∧ okS y5 = true ∧ BoxOk (10 + 3 * i) b ∧ l.length = 13 + i ∧ (∀ d ∈ l, Good (400 + i) d))
    ⟨b1, _, x5, rfl, o5, hb1.mono (by omega), rfl, ?_⟩ (fun i d e K hd hi hk => ?_) (fun e hi => ?_)
  · intro d hd
    simp only [List.mem_cons, List.not_mem_nil, or_false] at hd
    rcases hd with rfl | rfl | rfl | rfl | rfl | rfl | rfl | rfl | rfl | rfl | rfl | rfl | rfl
    · exact (good_str hz (by omega)).mono (by omega)
    · exact (good_str hem (by omega)).mono (by omega)
    · exact (good_str (hz.app hab2) (by omega)).mono (by omega)
    · exact (good_str (hz.mul 40) (by decide)).mono (by decide)
    · exact good_l1 _ hz
    · exact good_t1 _ hz
    · exact good_t2 _ hz
    · exact good_none _
    · exact good_bool _ _
    · exact good_bool _ _
    · exact good_0 _
    · exact good_7 _
    · exact good_nil _
  · obtain ⟨b, l, y5, rfl, oy, hb, hl, hg⟩ := hi
    obtain ⟨hi, rfl⟩ := rngD_get hd
    obtain ⟨y, hy⟩ : ∃ y, l.getLast? = some y := by
      cases hll : l.getLast? with
      | some y => exact ⟨y, rfl⟩
      | none =>
        rw [List.getLast?_eq_none_iff] at hll
        rw [hll] at hl
        exact absurd hl (by simp; omega)
    have hat := atI_last hy
    have gy := hg y (List.mem_of_getLast? hy)
    have fin : ∀ z' box', BoxOk (10 + 3 * i + 3) box' → TOk (400 + i + 1) z' → K [some (.sc, .list (ns.map .int)), some (.fz, .int k), some (.ow, box'), some (.fz, .str z), some (.ow, .list (l ++ [.str z'])), some (.fz, .int (0 + (i : Nat))), none] := by
      intro z' box' hb' hz'
      refine hk _ ⟨box', _, _, rfl, rfl, hb'.mono (by omega), by simp [hl]; omega, ?_⟩
      intro d hd
      rcases List.mem_append.mp hd with q | q
      · exact (hg d q).mono (by omega)
      · rw [List.mem_singleton] at q; subst q; exact (good_str hz' (by omega)).mono (by omega)
    have hz2 : TOk (400 + i) z := hz.mono (by omega)
    cases y with
    | str s =>
      have ts := gy.tx s rfl
      simp -dsimp -implicitDefEqProofs only [b_law_1, ↓w2_eq, ↓wT_eq, ↓wChain_eq, ↓wTru_eq, ↓wAndV_eq, ↓wOrV_eq, ↓wNotV_eq, ↓wNeg_eq, ↓wPart_eq, ↓wSl_eq, ↓wN_eq, ↓wM_eq, ↓wMut_eq, ↓wTup_eq, ↓wLst_eq, ↓wCall_eq, ↓wGTup_eq, ↓wGCons_eq, ↓wGSub_eq, ↓wIsi_eq, ↓wIsi2_eq, ↓wIt_eq, ↓wRng1_eq, ↓wRng2_eq, ↓wLenSc_eq, ↓wIxSc_eq, ↓wPar_eq, ↓asgn_eq, ↓asgn_fz, ↓asgn_ow, ↓asgn_loc, ↓retR_fz, ↓retR_ow, ↓retR_loc, ↓wFor_eq, ↓wLc_eq, ↓wVar_eq, ↓wC_eq, ↓wNil_eq, ↓wCons_eq, ↓wAndT_eq, ↓wOrT_eq, ↓wNotT_eq, ↓wIfE_eq, ↓wNoPart_eq, ↓wYes_eq, ↓wNext_eq, ↓wBreak_eq, ↓wCont_eq, ↓wSeq_eq, ↓wDrop_eq, ↓wRet_eq, ↓wRetN_eq, ↓wIf_eq, ↓wAsg_eq, ↓wGNil_eq, ↓gOfB_eq, ↓endsF_nx, ↓endsF_rt, ↓bnd_some, ↓bnd_none, ↓ind_int, ↓tst_bool, ↓tsto_bool, ↓locR_loc, ↓tupR_tup, ↓cns_cons, ↓two_two, ↓ints1_int, ↓ints2_int, ↓g1_eq, ↓g2_eq, ↓gEq_eq, ↓gNe_eq, ↓gRepr_eq, ↓gIn_one, ↓gIs_bb, ↓gIs_none, ↓gIn_list, ↓gIn_tuple, ↓gSl_list, ↓gSl_tuple, ↓gSl_str, ↓gIx_list, ↓gIx_tuple, ↓gIx_str, ↓gSetL_eq, ↓gSum_eq, ↓gBools_eq, ↓gJoin_eq, ↓gAdd.eq_1, ↓gAdd.eq_2, ↓gAdd.eq_3, ↓gAdd.eq_4, ↓PL.gSub.eq_1, ↓gMod.eq_1, ↓gDiv.eq_1, ↓gPow.eq_1, ↓gMul.eq_1, ↓gMul.eq_2, ↓gMul.eq_3, ↓gCmp.eq_1, ↓gCmp.eq_2, ↓gLen.eq_1, ↓gLen.eq_2, ↓gLen.eq_3, ↓gAbs.eq_1, ↓gInt.eq_1, ↓gInt.eq_2, ↓gI2.eq_1, ↓gTup1.eq_1, ↓gTup1.eq_2, ↓gLst1.eq_1, ↓gLst1.eq_2, ↓gAppend.eq_1, ↓gCount.eq_1, ↓gUpper.eq_1, eqv_int, eqv_str, eqv_bool, eqv_ns, eqv_sn, eqv_nn, eqv_ni, eqv_in, eqv_si, eqv_is, eqOk_int, eqOk_str, eqOk_bool, eqOk_ns, eqOk_sn, eqOk_nn, eqOk_ni, eqOk_in, eqOk_si, eqOk_is, beq_iff_eq, ixN_0, ixN_1, ixN_2, ixN_3, ixN_4, ixN_5, ixN_6, ixN_7, atI_0, atI_1, atI_2, atI_3, atI_4, atI_5, atI_6, atI_7, rVar, lookAll, ownAt?, look, frz, frzAll, Out.res, okSlot_eq, okO_some, okS_fz, okS_ow, okS_sc, okS_none, wipeE, restE, prep, back, lent, lentOk, outsOf, outsFrom, argE, Res.good, isTy, tyN, noDict, itD, scAt, owA, fixR, isL, isS, seqOf, truth, truOk, List.getElem?_cons_zero, List.getElem?_cons_succ, List.set_cons_zero, List.set_cons_succ, List.replicate_zero, List.replicate_succ, List.cons_append, List.nil_append, List.append_nil, Option.some.injEq, Prod.mk.injEq, PyData.int.injEq, PyData.list.injEq, PyData.str.injEq, PyData.bool.injEq, PyData.tuple.injEq, Res.loc.injEq, Res.fz.injEq, Res.ow.injEq, and_true, true_and, List.length_cons, List.length_nil, if_true, if_false, reduceIte, Bool.false_eq_true, Option.map_some, List.cons.injEq, List.mem_cons, List.not_mem_nil, or_false, forall_eq, not_true_eq_false, not_false_eq_true, Bool.not_true, Bool.not_false, forall_const, List.nodup_nil, List.nodup_cons, Option.isSome_some, decide_eq_true_eq, Nat.reduceLeDiff, Nat.reduceAdd, Nat.zero_add, exists_eq', Int.reduceLT, Int.reduceLE, Int.reduceNeg, Int.reducePow, Nat.reducePow, Int.reduceToNat, Int.reduceAdd, Int.reduceMul, Nat.reduceMul, Nat.reduceEqDiff, Nat.reduceSub, String.reduceBEq, beq_self_eq_true, Bool.and_true, Bool.true_and, Bool.or_true, Bool.true_or, Bool.or_false, Bool.false_or, Bool.and_false, Bool.false_and, Bool.not_eq_true, Bool.not_eq_false, reduceCtorEq, oy, hat]
      split
      · refine callT_of (bent_ok hb (by omega) ts (by omega) fun z' b' hb' hz' _ _ => ?_)
        simp -dsimp -implicitDefEqProofs only [↓w2_eq, ↓wT_eq, ↓wChain_eq, ↓wTru_eq, ↓wAndV_eq, ↓wOrV_eq, ↓wNotV_eq, ↓wNeg_eq, ↓wPart_eq, ↓wSl_eq, ↓wN_eq, ↓wM_eq, ↓wMut_eq, ↓wTup_eq, ↓wLst_eq, ↓wCall_eq, ↓wGTup_eq, ↓wGCons_eq, ↓wGSub_eq, ↓wIsi_eq, ↓wIsi2_eq, ↓wIt_eq, ↓wRng1_eq, ↓wRng2_eq, ↓wLenSc_eq, ↓wIxSc_eq, ↓wPar_eq, ↓asgn_eq, ↓asgn_fz, ↓asgn_ow, ↓asgn_loc, ↓retR_fz, ↓retR_ow, ↓retR_loc, ↓wFor_eq, ↓wLc_eq, ↓wVar_eq, ↓wC_eq, ↓wNil_eq, ↓wCons_eq, ↓wAndT_eq, ↓wOrT_eq, ↓wNotT_eq, ↓wIfE_eq, ↓wNoPart_eq, ↓wYes_eq, ↓wNext_eq, ↓wBreak_eq, ↓wCont_eq, ↓wSeq_eq, ↓wDrop_eq, ↓wRet_eq, ↓wRetN_eq, ↓wIf_eq, ↓wAsg_eq, ↓wGNil_eq, ↓gOfB_eq, ↓endsF_nx, ↓endsF_rt, ↓bnd_some, ↓bnd_none, ↓ind_int, ↓tst_bool, ↓tsto_bool, ↓locR_loc, ↓tupR_tup, ↓cns_cons, ↓two_two, ↓ints1_int, ↓ints2_int, ↓g1_eq, ↓g2_eq, ↓gEq_eq, ↓gNe_eq, ↓gRepr_eq, ↓gIn_one, ↓gIs_bb, ↓gIs_none, ↓gIn_list, ↓gIn_tuple, ↓gSl_list, ↓gSl_tuple, ↓gSl_str, ↓gIx_list, ↓gIx_tuple, ↓gIx_str, ↓gSetL_eq, ↓gSum_eq, ↓gBools_eq, ↓gJoin_eq, ↓gAdd.eq_1, ↓gAdd.eq_2, ↓gAdd.eq_3, ↓gAdd.eq_4, ↓PL.gSub.eq_1, ↓gMod.eq_1, ↓gDiv.eq_1, ↓gPow.eq_1, ↓gMul.eq_1, ↓gMul.eq_2, ↓gMul.eq_3, ↓gCmp.eq_1, ↓gCmp.eq_2, ↓gLen.eq_1, ↓gLen.eq_2, ↓gLen.eq_3, ↓gAbs.eq_1, ↓gInt.eq_1, ↓gInt.eq_2, ↓gI2.eq_1, ↓gTup1.eq_1, ↓gTup1.eq_2, ↓gLst1.eq_1, ↓gLst1.eq_2, ↓gAppend.eq_1, ↓gCount.eq_1, ↓gUpper.eq_1, eqv_int, eqv_str, eqv_bool, eqv_ns, eqv_sn, eqv_nn, eqv_ni, eqv_in, eqv_si, eqv_is, eqOk_int, eqOk_str, eqOk_bool, eqOk_ns, eqOk_sn, eqOk_nn, eqOk_ni, eqOk_in, eqOk_si, eqOk_is, beq_iff_eq, ixN_0, ixN_1, ixN_2, ixN_3, ixN_4, ixN_5, ixN_6, ixN_7, atI_0, atI_1, atI_2, atI_3, atI_4, atI_5, atI_6, atI_7, rVar, lookAll, ownAt?, look, frz, frzAll, Out.res, okSlot_eq, okO_some, okS_fz, okS_ow, okS_sc, okS_none, wipeE, restE, prep, back, lent, lentOk, outsOf, outsFrom, argE, Res.good, isTy, tyN, noDict, itD, scAt, owA, fixR, isL, isS, seqOf, truth, truOk, List.getElem?_cons_zero, List.getElem?_cons_succ, List.set_cons_zero, List.set_cons_succ, List.replicate_zero, List.replicate_succ, List.cons_append, List.nil_append, List.append_nil, Option.some.injEq, Prod.mk.injEq, PyData.int.injEq, PyData.list.injEq, PyData.str.injEq, PyData.bool.injEq, PyData.tuple.injEq, Res.loc.injEq, Res.fz.injEq, Res.ow.injEq, and_true, true_and, List.length_cons, List.length_nil, if_true, if_false, reduceIte, Bool.false_eq_true, Option.map_some, List.cons.injEq, List.mem_cons, List.not_mem_nil, or_false, forall_eq, not_true_eq_false, not_false_eq_true, Bool.not_true, Bool.not_false, forall_const, List.nodup_nil, List.nodup_cons, Option.isSome_some, decide_eq_true_eq, Nat.reduceLeDiff, Nat.reduceAdd, Nat.zero_add, exists_eq', Int.reduceLT, Int.reduceLE, Int.reduceNeg, Int.reducePow, Nat.reducePow, Int.reduceToNat, Int.reduceAdd, Int.reduceMul, Nat.reduceMul, Nat.reduceEqDiff, Nat.reduceSub, String.reduceBEq, beq_self_eq_true, Bool.and_true, Bool.true_and, Bool.or_true, Bool.true_or, Bool.or_false, Bool.false_or, Bool.and_false, Bool.false_and, Bool.not_eq_true, Bool.not_eq_false, reduceCtorEq]
        exact ⟨by omega, fin _ _ hb' hz'⟩
      · refine callT_of (bent_ok hb (by omega) hz2 (by omega) fun z' b' hb' hz' _ _ => ?_)
        simp -dsimp -implicitDefEqProofs only [↓w2_eq, ↓wT_eq, ↓wChain_eq, ↓wTru_eq, ↓wAndV_eq, ↓wOrV_eq, ↓wNotV_eq, ↓wNeg_eq, ↓wPart_eq, ↓wSl_eq, ↓wN_eq, ↓wM_eq, ↓wMut_eq, ↓wTup_eq, ↓wLst_eq, ↓wCall_eq, ↓wGTup_eq, ↓wGCons_eq, ↓wGSub_eq, ↓wIsi_eq, ↓wIsi2_eq, ↓wIt_eq, ↓wRng1_eq, ↓wRng2_eq, ↓wLenSc_eq, ↓wIxSc_eq, ↓wPar_eq, ↓asgn_eq, ↓asgn_fz, ↓asgn_ow, ↓asgn_loc, ↓retR_fz, ↓retR_ow, ↓retR_loc, ↓wFor_eq, ↓wLc_eq, ↓wVar_eq, ↓wC_eq, ↓wNil_eq, ↓wCons_eq, ↓wAndT_eq, ↓wOrT_eq, ↓wNotT_eq, ↓wIfE_eq, ↓wNoPart_eq, ↓wYes_eq, ↓wNext_eq, ↓wBreak_eq, ↓wCont_eq, ↓wSeq_eq, ↓wDrop_eq, ↓wRet_eq, ↓wRetN_eq, ↓wIf_eq, ↓wAsg_eq, ↓wGNil_eq, ↓gOfB_eq, ↓endsF_nx, ↓endsF_rt, ↓bnd_some, ↓bnd_none, ↓ind_int, ↓tst_bool, ↓tsto_bool, ↓locR_loc, ↓tupR_tup, ↓cns_cons, ↓two_two, ↓ints1_int, ↓ints2_int, ↓g1_eq, ↓g2_eq, ↓gEq_eq, ↓gNe_eq, ↓gRepr_eq, ↓gIn_one, ↓gIs_bb, ↓gIs_none, ↓gIn_list, ↓gIn_tuple, ↓gSl_list, ↓gSl_tuple, ↓gSl_str, ↓gIx_list, ↓gIx_tuple, ↓gIx_str, ↓gSetL_eq, ↓gSum_eq, ↓gBools_eq, ↓gJoin_eq, ↓gAdd.eq_1, ↓gAdd.eq_2, ↓gAdd.eq_3, ↓gAdd.eq_4, ↓PL.gSub.eq_1, ↓gMod.eq_1, ↓gDiv.eq_1, ↓gPow.eq_1, ↓gMul.eq_1, ↓gMul.eq_2, ↓gMul.eq_3, ↓gCmp.eq_1, ↓gCmp.eq_2, ↓gLen.eq_1, ↓gLen.eq_2, ↓gLen.eq_3, ↓gAbs.eq_1, ↓gInt.eq_1, ↓gInt.eq_2, ↓gI2.eq_1, ↓gTup1.eq_1, ↓gTup1.eq_2, ↓gLst1.eq_1, ↓gLst1.eq_2, ↓gAppend.eq_1, ↓gCount.eq_1, ↓gUpper.eq_1, eqv_int, eqv_str, eqv_bool, eqv_ns, eqv_sn, eqv_nn, eqv_ni, eqv_in, eqv_si, eqv_is, eqOk_int, eqOk_str, eqOk_bool, eqOk_ns, eqOk_sn, eqOk_nn, eqOk_ni, eqOk_in, eqOk_si, eqOk_is, beq_iff_eq, ixN_0, ixN_1, ixN_2, ixN_3, ixN_4, ixN_5, ixN_6, ixN_7, atI_0, atI_1, atI_2, atI_3, atI_4, atI_5, atI_6, atI_7, rVar, lookAll, ownAt?, look, frz, frzAll, Out.res, okSlot_eq, okO_some, okS_fz, okS_ow, okS_sc, okS_none, wipeE, restE, prep, back, lent, lentOk, outsOf, outsFrom, argE, Res.good, isTy, tyN, noDict, itD, scAt, owA, fixR, isL, isS, seqOf, truth, truOk, List.getElem?_cons_zero, List.getElem?_cons_succ, List.set_cons_zero, List.set_cons_succ, List.replicate_zero, List.replicate_succ, List.cons_append, List.nil_append, List.append_nil, Option.some.injEq, Prod.mk.injEq, PyData.int.injEq, PyData.list.injEq, PyData.str.injEq, PyData.bool.injEq, PyData.tuple.injEq, Res.loc.injEq, Res.fz.injEq, Res.ow.injEq, and_true, true_and, List.length_cons, List.length_nil, if_true, if_false, reduceIte, Bool.false_eq_true, Option.map_some, List.cons.injEq, List.mem_cons, List.not_mem_nil, or_false, forall_eq, not_true_eq_false, not_false_eq_true, Bool.not_true, Bool.not_false, forall_const, List.nodup_nil, List.nodup_cons, Option.isSome_some, decide_eq_true_eq, Nat.reduceLeDiff, Nat.reduceAdd, Nat.zero_add, exists_eq', Int.reduceLT, Int.reduceLE, Int.reduceNeg, Int.reducePow, Nat.reducePow, Int.reduceToNat, Int.reduceAdd, Int.reduceMul, Nat.reduceMul, Nat.reduceEqDiff, Nat.reduceSub, String.reduceBEq, beq_self_eq_true, Bool.and_true, Bool.true_and, Bool.or_true, Bool.true_or, Bool.or_false, Bool.false_or, Bool.and_false, Bool.false_and, Bool.not_eq_true, Bool.not_eq_false, reduceCtorEq]
        exact ⟨by omega, fin _ _ hb' hz'⟩
    | dict _ => cases gy.nd
    | _ =>
      simp -dsimp -implicitDefEqProofs only [b_law_1, ↓w2_eq, ↓wT_eq, ↓wChain_eq, ↓wTru_eq, ↓wAndV_eq, ↓wOrV_eq, ↓wNotV_eq, ↓wNeg_eq, ↓wPart_eq, ↓wSl_eq, ↓wN_eq, ↓wM_eq, ↓wMut_eq, ↓wTup_eq, ↓wLst_eq, ↓wCall_eq, ↓wGTup_eq, ↓wGCons_eq, ↓wGSub_eq, ↓wIsi_eq, ↓wIsi2_eq, ↓wIt_eq, ↓wRng1_eq, ↓wRng2_eq, ↓wLenSc_eq, ↓wIxSc_eq, ↓wPar_eq, ↓asgn_eq, ↓asgn_fz, ↓asgn_ow, ↓asgn_loc, ↓retR_fz, ↓retR_ow, ↓retR_loc, ↓wFor_eq, ↓wLc_eq, ↓wVar_eq, ↓wC_eq, ↓wNil_eq, ↓wCons_eq, ↓wAndT_eq, ↓wOrT_eq, ↓wNotT_eq, ↓wIfE_eq, ↓wNoPart_eq, ↓wYes_eq, ↓wNext_eq, ↓wBreak_eq, ↓wCont_eq, ↓wSeq_eq, ↓wDrop_eq, ↓wRet_eq, ↓wRetN_eq, ↓wIf_eq, ↓wAsg_eq, ↓wGNil_eq, ↓gOfB_eq, ↓endsF_nx, ↓endsF_rt, ↓bnd_some, ↓bnd_none, ↓ind_int, ↓tst_bool, ↓tsto_bool, ↓locR_loc, ↓tupR_tup, ↓cns_cons, ↓two_two, ↓ints1_int, ↓ints2_int, ↓g1_eq, ↓g2_eq, ↓gEq_eq, ↓gNe_eq, ↓gRepr_eq, ↓gIn_one, ↓gIs_bb, ↓gIs_none, ↓gIn_list, ↓gIn_tuple, ↓gSl_list, ↓gSl_tuple, ↓gSl_str, ↓gIx_list, ↓gIx_tuple, ↓gIx_str, ↓gSetL_eq, ↓gSum_eq, ↓gBools_eq, ↓gJoin_eq, ↓gAdd.eq_1, ↓gAdd.eq_2, ↓gAdd.eq_3, ↓gAdd.eq_4, ↓PL.gSub.eq_1, ↓gMod.eq_1, ↓gDiv.eq_1, ↓gPow.eq_1, ↓gMul.eq_1, ↓gMul.eq_2, ↓gMul.eq_3, ↓gCmp.eq_1, ↓gCmp.eq_2, ↓gLen.eq_1, ↓gLen.eq_2, ↓gLen.eq_3, ↓gAbs.eq_1, ↓gInt.eq_1, ↓gInt.eq_2, ↓gI2.eq_1, ↓gTup1.eq_1, ↓gTup1.eq_2, ↓gLst1.eq_1, ↓gLst1.eq_2, ↓gAppend.eq_1, ↓gCount.eq_1, ↓gUpper.eq_1, eqv_int, eqv_str, eqv_bool, eqv_ns, eqv_sn, eqv_nn, eqv_ni, eqv_in, eqv_si, eqv_is, eqOk_int, eqOk_str, eqOk_bool, eqOk_ns, eqOk_sn, eqOk_nn, eqOk_ni, eqOk_in, eqOk_si, eqOk_is, beq_iff_eq, ixN_0, ixN_1, ixN_2, ixN_3, ixN_4, ixN_5, ixN_6, ixN_7, atI_0, atI_1, atI_2, atI_3, atI_4, atI_5, atI_6, atI_7, rVar, lookAll, ownAt?, look, frz, frzAll, Out.res, okSlot_eq, okO_some, okS_fz, okS_ow, okS_sc, okS_none, wipeE, restE, prep, back, lent, lentOk, outsOf, outsFrom, argE, Res.good, isTy, tyN, noDict, itD, scAt, owA, fixR, isL, isS, seqOf, truth, truOk, List.getElem?_cons_zero, List.getElem?_cons_succ, List.set_cons_zero, List.set_cons_succ, List.replicate_zero, List.replicate_succ, List.cons_append, List.nil_append, List.append_nil, Option.some.injEq, Prod.mk.injEq, PyData.int.injEq, PyData.list.injEq, PyData.str.injEq, PyData.bool.injEq, PyData.tuple.injEq, Res.loc.injEq, Res.fz.injEq, Res.ow.injEq, and_true, true_and, List.length_cons, List.length_nil, if_true, if_false, reduceIte, Bool.false_eq_true, Option.map_some, List.cons.injEq, List.mem_cons, List.not_mem_nil, or_false, forall_eq, not_true_eq_false, not_false_eq_true, Bool.not_true, Bool.not_false, forall_const, List.nodup_nil, List.nodup_cons, Option.isSome_some, decide_eq_true_eq, Nat.reduceLeDiff, Nat.reduceAdd, Nat.zero_add, exists_eq', Int.reduceLT, Int.reduceLE, Int.reduceNeg, Int.reducePow, Nat.reducePow, Int.reduceToNat, Int.reduceAdd, Int.reduceMul, Nat.reduceMul, Nat.reduceEqDiff, Nat.reduceSub, String.reduceBEq, beq_self_eq_true, Bool.and_true, Bool.true_and, Bool.or_true, Bool.true_or, Bool.or_false, Bool.false_or, Bool.and_false, Bool.false_and, Bool.not_eq_true, Bool.not_eq_false, reduceCtorEq, oy, hat]
      split
      · refine callT_of (bent_ok hb (by omega) hz2 (by omega) fun z' b' hb' hz' _ _ => ?_)
        simp -dsimp -implicitDefEqProofs only [↓w2_eq, ↓wT_eq, ↓wChain_eq, ↓wTru_eq, ↓wAndV_eq, ↓wOrV_eq, ↓wNotV_eq, ↓wNeg_eq, ↓wPart_eq, ↓wSl_eq, ↓wN_eq, ↓wM_eq, ↓wMut_eq, ↓wTup_eq, ↓wLst_eq, ↓wCall_eq, ↓wGTup_eq, ↓wGCons_eq, ↓wGSub_eq, ↓wIsi_eq, ↓wIsi2_eq, ↓wIt_eq, ↓wRng1_eq, ↓wRng2_eq, ↓wLenSc_eq, ↓wIxSc_eq, ↓wPar_eq, ↓asgn_eq, ↓asgn_fz, ↓asgn_ow, ↓asgn_loc, ↓retR_fz, ↓retR_ow, ↓retR_loc, ↓wFor_eq, ↓wLc_eq, ↓wVar_eq, ↓wC_eq, ↓wNil_eq, ↓wCons_eq, ↓wAndT_eq, ↓wOrT_eq, ↓wNotT_eq, ↓wIfE_eq, ↓wNoPart_eq, ↓wYes_eq, ↓wNext_eq, ↓wBreak_eq, ↓wCont_eq, ↓wSeq_eq, ↓wDrop_eq, ↓wRet_eq, ↓wRetN_eq, ↓wIf_eq, ↓wAsg_eq, ↓wGNil_eq, ↓gOfB_eq, ↓endsF_nx, ↓endsF_rt, ↓bnd_some, ↓bnd_none, ↓ind_int, ↓tst_bool, ↓tsto_bool, ↓locR_loc, ↓tupR_tup, ↓cns_cons, ↓two_two, ↓ints1_int, ↓ints2_int, ↓g1_eq, ↓g2_eq, ↓gEq_eq, ↓gNe_eq, ↓gRepr_eq, ↓gIn_one, ↓gIs_bb, ↓gIs_none, ↓gIn_list, ↓gIn_tuple, ↓gSl_list, ↓gSl_tuple, ↓gSl_str, ↓gIx_list, ↓gIx_tuple, ↓gIx_str, ↓gSetL_eq, ↓gSum_eq, ↓gBools_eq, ↓gJoin_eq, ↓gAdd.eq_1, ↓gAdd.eq_2, ↓gAdd.eq_3, ↓gAdd.eq_4, ↓PL.gSub.eq_1, ↓gMod.eq_1, ↓gDiv.eq_1, ↓gPow.eq_1, ↓gMul.eq_1, ↓gMul.eq_2, ↓gMul.eq_3, ↓gCmp.eq_1, ↓gCmp.eq_2, ↓gLen.eq_1, ↓gLen.eq_2, ↓gLen.eq_3, ↓gAbs.eq_1, ↓gInt.eq_1, ↓gInt.eq_2, ↓gI2.eq_1, ↓gTup1.eq_1, ↓gTup1.eq_2, ↓gLst1.eq_1, ↓gLst1.eq_2, ↓gAppend.eq_1, ↓gCount.eq_1, ↓gUpper.eq_1, eqv_int, eqv_str, eqv_bool, eqv_ns, eqv_sn, eqv_nn, eqv_ni, eqv_in, eqv_si, eqv_is, eqOk_int, eqOk_str, eqOk_bool, eqOk_ns, eqOk_sn, eqOk_nn, eqOk_ni, eqOk_in, eqOk_si, eqOk_is, beq_iff_eq, ixN_0, ixN_1, ixN_2, ixN_3, ixN_4, ixN_5, ixN_6, ixN_7, atI_0, atI_1, atI_2, atI_3, atI_4, atI_5, atI_6, atI_7, rVar, lookAll, ownAt?, look, frz, frzAll, Out.res, okSlot_eq, okO_some, okS_fz, okS_ow, okS_sc, okS_none, wipeE, restE, prep, back, lent, lentOk, outsOf, outsFrom, argE, Res.good, isTy, tyN, noDict, itD, scAt, owA, fixR, isL, isS, seqOf, truth, truOk, List.getElem?_cons_zero, List.getElem?_cons_succ, List.set_cons_zero, List.set_cons_succ, List.replicate_zero, List.replicate_succ, List.cons_append, List.nil_append, List.append_nil, Option.some.injEq, Prod.mk.injEq, PyData.int.injEq, PyData.list.injEq, PyData.str.injEq, PyData.bool.injEq, PyData.tuple.injEq, Res.loc.injEq, Res.fz.injEq, Res.ow.injEq, and_true, true_and, List.length_cons, List.length_nil, if_true, if_false, reduceIte, Bool.false_eq_true, Option.map_some, List.cons.injEq, List.mem_cons, List.not_mem_nil, or_false, forall_eq, not_true_eq_false, not_false_eq_true, Bool.not_true, Bool.not_false, forall_const, List.nodup_nil, List.nodup_cons, Option.isSome_some, decide_eq_true_eq, Nat.reduceLeDiff, Nat.reduceAdd, Nat.zero_add, exists_eq', Int.reduceLT, Int.reduceLE, Int.reduceNeg, Int.reducePow, Nat.reducePow, Int.reduceToNat, Int.reduceAdd, Int.reduceMul, Nat.reduceMul, Nat.reduceEqDiff, Nat.reduceSub, String.reduceBEq, beq_self_eq_true, Bool.and_true, Bool.true_and, Bool.or_true, Bool.true_or, Bool.or_false, Bool.false_or, Bool.and_false, Bool.false_and, Bool.not_eq_true, Bool.not_eq_false, reduceCtorEq]
        exact ⟨by omega, fin _ _ hb' hz'⟩
      · refine callT_of (bent_ok hb (by omega) hz2 (by omega) fun z' b' hb' hz' _ _ => ?_)
        simp -dsimp -implicitDefEqProofs only [↓w2_eq, ↓wT_eq, ↓wChain_eq, ↓wTru_eq, ↓wAndV_eq, ↓wOrV_eq, ↓wNotV_eq, ↓wNeg_eq, ↓wPart_eq, ↓wSl_eq, ↓wN_eq, ↓wM_eq, ↓wMut_eq, ↓wTup_eq, ↓wLst_eq, ↓wCall_eq, ↓wGTup_eq, ↓wGCons_eq, ↓wGSub_eq, ↓wIsi_eq, ↓wIsi2_eq, ↓wIt_eq, ↓wRng1_eq, ↓wRng2_eq, ↓wLenSc_eq, ↓wIxSc_eq, ↓wPar_eq, ↓asgn_eq, ↓asgn_fz, ↓asgn_ow, ↓asgn_loc, ↓retR_fz, ↓retR_ow, ↓retR_loc, ↓wFor_eq, ↓wLc_eq, ↓wVar_eq, ↓wC_eq, ↓wNil_eq, ↓wCons_eq, ↓wAndT_eq, ↓wOrT_eq, ↓wNotT_eq, ↓wIfE_eq, ↓wNoPart_eq, ↓wYes_eq, ↓wNext_eq, ↓wBreak_eq, ↓wCont_eq, ↓wSeq_eq, ↓wDrop_eq, ↓wRet_eq, ↓wRetN_eq, ↓wIf_eq, ↓wAsg_eq, ↓wGNil_eq, ↓gOfB_eq, ↓endsF_nx, ↓endsF_rt, ↓bnd_some, ↓bnd_none, ↓ind_int, ↓tst_bool, ↓tsto_bool, ↓locR_loc, ↓tupR_tup, ↓cns_cons, ↓two_two, ↓ints1_int, ↓ints2_int, ↓g1_eq, ↓g2_eq, ↓gEq_eq, ↓gNe_eq, ↓gRepr_eq, ↓gIn_one, ↓gIs_bb, ↓gIs_none, ↓gIn_list, ↓gIn_tuple, ↓gSl_list, ↓gSl_tuple, ↓gSl_str, ↓gIx_list, ↓gIx_tuple, ↓gIx_str, ↓gSetL_eq, ↓gSum_eq, ↓gBools_eq, ↓gJoin_eq, ↓gAdd.eq_1, ↓gAdd.eq_2, ↓gAdd.eq_3, ↓gAdd.eq_4, ↓PL.gSub.eq_1, ↓gMod.eq_1, ↓gDiv.eq_1, ↓gPow.eq_1, ↓gMul.eq_1, ↓gMul.eq_2, ↓gMul.eq_3, ↓gCmp.eq_1, ↓gCmp.eq_2, ↓gLen.eq_1, ↓gLen.eq_2, ↓gLen.eq_3, ↓gAbs.eq_1, ↓gInt.eq_1, ↓gInt.eq_2, ↓gI2.eq_1, ↓gTup1.eq_1, ↓gTup1.eq_2, ↓gLst1.eq_1, ↓gLst1.eq_2, ↓gAppend.eq_1, ↓gCount.eq_1, ↓gUpper.eq_1, eqv_int, eqv_str, eqv_bool, eqv_ns, eqv_sn, eqv_nn, eqv_ni, eqv_in, eqv_si, eqv_is, eqOk_int, eqOk_str, eqOk_bool, eqOk_ns, eqOk_sn, eqOk_nn, eqOk_ni, eqOk_in, eqOk_si, eqOk_is, beq_iff_eq, ixN_0, ixN_1, ixN_2, ixN_3, ixN_4, ixN_5, ixN_6, ixN_7, atI_0, atI_1, atI_2, atI_3, atI_4, atI_5, atI_6, atI_7, rVar, lookAll, ownAt?, look, frz, frzAll, Out.res, okSlot_eq, okO_some, okS_fz, okS_ow, okS_sc, okS_none, wipeE, restE, prep, back, lent, lentOk, outsOf, outsFrom, argE, Res.good, isTy, tyN, noDict, itD, scAt, owA, fixR, isL, isS, seqOf, truth, truOk, List.getElem?_cons_zero, List.getElem?_cons_succ, List.set_cons_zero, List.set_cons_succ, List.replicate_zero, List.replicate_succ, List.cons_append, List.nil_append, List.append_nil, Option.some.injEq, Prod.mk.injEq, PyData.int.injEq, PyData.list.injEq, PyData.str.injEq, PyData.bool.injEq, PyData.tuple.injEq, Res.loc.injEq, Res.fz.injEq, Res.ow.injEq, and_true, true_and, List.length_cons, List.length_nil, if_true, if_false, reduceIte, Bool.false_eq_true, Option.map_some, List.cons.injEq, List.mem_cons, List.not_mem_nil, or_false, forall_eq, not_true_eq_false, not_false_eq_true, Bool.not_true, Bool.not_false, forall_const, List.nodup_nil, List.nodup_cons, Option.isSome_some, decide_eq_true_eq, Nat.reduceLeDiff, Nat.reduceAdd, Nat.zero_add, exists_eq', Int.reduceLT, Int.reduceLE, Int.reduceNeg, Int.reducePow, Nat.reducePow, Int.reduceToNat, Int.reduceAdd, Int.reduceMul, Nat.reduceMul, Nat.reduceEqDiff, Nat.reduceSub, String.reduceBEq, beq_self_eq_true, Bool.and_true, Bool.true_and, Bool.or_true, Bool.true_or, Bool.or_false, Bool.false_or, Bool.and_false, Bool.false_and, Bool.not_eq_true, Bool.not_eq_false, reduceCtorEq]
        exact ⟨by omega, fin _ _ hb' hz'⟩
  · obtain ⟨b, l, y5, rfl, oy, hb, hl, hg⟩ := hi
    rw [rngD_len] at hl hg
    simp -dsimp -implicitDefEqProofs only [↓w2_eq, ↓wT_eq, ↓wChain_eq, ↓wTru_eq, ↓wAndV_eq, ↓wOrV_eq, ↓wNotV_eq, ↓wNeg_eq, ↓wPart_eq, ↓wSl_eq, ↓wN_eq, ↓wM_eq, ↓wMut_eq, ↓wTup_eq, ↓wLst_eq, ↓wCall_eq, ↓wGTup_eq, ↓wGCons_eq, ↓wGSub_eq, ↓wIsi_eq, ↓wIsi2_eq, ↓wIt_eq, ↓wRng1_eq, ↓wRng2_eq, ↓wLenSc_eq, ↓wIxSc_eq, ↓wPar_eq, ↓asgn_eq, ↓asgn_fz, ↓asgn_ow, ↓asgn_loc, ↓retR_fz, ↓retR_ow, ↓retR_loc, ↓wFor_eq, ↓wLc_eq, ↓wVar_eq, ↓wC_eq, ↓wNil_eq, ↓wCons_eq, ↓wAndT_eq, ↓wOrT_eq, ↓wNotT_eq, ↓wIfE_eq, ↓wNoPart_eq, ↓wYes_eq, ↓wNext_eq, ↓wBreak_eq, ↓wCont_eq, ↓wSeq_eq, ↓wDrop_eq, ↓wRet_eq, ↓wRetN_eq, ↓wIf_eq, ↓wAsg_eq, ↓wGNil_eq, ↓gOfB_eq, ↓endsF_nx, ↓endsF_rt, ↓bnd_some, ↓bnd_none, ↓ind_int, ↓tst_bool, ↓tsto_bool, ↓locR_loc, ↓tupR_tup, ↓cns_cons, ↓two_two, ↓ints1_int, ↓ints2_int, ↓g1_eq, ↓g2_eq, ↓gEq_eq, ↓gNe_eq, ↓gRepr_eq, ↓gIn_one, ↓gIs_bb, ↓gIs_none, ↓gIn_list, ↓gIn_tuple, ↓gSl_list, ↓gSl_tuple, ↓gSl_str, ↓gIx_list, ↓gIx_tuple, ↓gIx_str, ↓gSetL_eq, ↓gSum_eq, ↓gBools_eq, ↓gJoin_eq, ↓gAdd.eq_1, ↓gAdd.eq_2, ↓gAdd.eq_3, ↓gAdd.eq_4, ↓PL.gSub.eq_1, ↓gMod.eq_1, ↓gDiv.eq_1, ↓gPow.eq_1, ↓gMul.eq_1, ↓gMul.eq_2, ↓gMul.eq_3, ↓gCmp.eq_1, ↓gCmp.eq_2, ↓gLen.eq_1, ↓gLen.eq_2, ↓gLen.eq_3, ↓gAbs.eq_1, ↓gInt.eq_1, ↓gInt.eq_2, ↓gI2.eq_1, ↓gTup1.eq_1, ↓gTup1.eq_2, ↓gLst1.eq_1, ↓gLst1.eq_2, ↓gAppend.eq_1, ↓gCount.eq_1, ↓gUpper.eq_1, eqv_int, eqv_str, eqv_bool, eqv_ns, eqv_sn, eqv_nn, eqv_ni, eqv_in, eqv_si, eqv_is, eqOk_int, eqOk_str, eqOk_bool, eqOk_ns, eqOk_sn, eqOk_nn, eqOk_ni, eqOk_in, eqOk_si, eqOk_is, beq_iff_eq, ixN_0, ixN_1, ixN_2, ixN_3, ixN_4, ixN_5, ixN_6, ixN_7, atI_0, atI_1, atI_2, atI_3, atI_4, atI_5, atI_6, atI_7, rVar, lookAll, ownAt?, look, frz, frzAll, Out.res, okSlot_eq, okO_some, okS_fz, okS_ow, okS_sc, okS_none, wipeE, restE, prep, back, lent, lentOk, outsOf, outsFrom, argE, Res.good, isTy, tyN, noDict, itD, scAt, owA, fixR, isL, isS, seqOf, truth, truOk, List.getElem?_cons_zero, List.getElem?_cons_succ, List.set_cons_zero, List.set_cons_succ, List.replicate_zero, List.replicate_succ, List.cons_append, List.nil_append, List.append_nil, Option.some.injEq, Prod.mk.injEq, PyData.int.injEq, PyData.list.injEq, PyData.str.injEq, PyData.bool.injEq, PyData.tuple.injEq, Res.loc.injEq, Res.fz.injEq, Res.ow.injEq, and_true, true_and, List.length_cons, List.length_nil, if_true, if_false, reduceIte, Bool.false_eq_true, Option.map_some, List.cons.injEq, List.mem_cons, List.not_mem_nil, or_false, forall_eq, not_true_eq_false, not_false_eq_true, Bool.not_true, Bool.not_false, forall_const, List.nodup_nil, List.nodup_cons, Option.isSome_some, decide_eq_true_eq, Nat.reduceLeDiff, Nat.reduceAdd, Nat.zero_add, exists_eq', Int.reduceLT, Int.reduceLE, Int.reduceNeg, Int.reducePow, Nat.reducePow, Int.reduceToNat, Int.reduceAdd, Int.reduceMul, Nat.reduceMul, Nat.reduceEqDiff, Nat.reduceSub, String.reduceBEq, beq_self_eq_true, Bool.and_true, Bool.true_and, Bool.or_true, Bool.true_or, Bool.or_false, Bool.false_or, Bool.and_false, Bool.false_and, Bool.not_eq_true, Bool.not_eq_false, reduceCtorEq]
    refine ⟨by omega, ?_⟩
    refine lcLT_inv (fun i acc e => acc = (List.replicate i true).map PyData.bool ∧ e = [some (.sc, .list (ns.map .int)), some (.fz, .int k), some (.ow, b), some (.fz, .str z), some (.fz, .list l), y5, none]) ⟨rfl, rfl⟩ (fun i d' acc e K hd hi hk => ?_) (fun acc e hi => ?_)
    · obtain ⟨rfl, rfl⟩ := hi
      have gd := hg d' (List.mem_of_getElem? hd)
      simp -dsimp -implicitDefEqProofs only [↓w2_eq, ↓wT_eq, ↓wChain_eq, ↓wTru_eq, ↓wAndV_eq, ↓wOrV_eq, ↓wNotV_eq, ↓wNeg_eq, ↓wPart_eq, ↓wSl_eq, ↓wN_eq, ↓wM_eq, ↓wMut_eq, ↓wTup_eq, ↓wLst_eq, ↓wCall_eq, ↓wGTup_eq, ↓wGCons_eq, ↓wGSub_eq, ↓wIsi_eq, ↓wIsi2_eq, ↓wIt_eq, ↓wRng1_eq, ↓wRng2_eq, ↓wLenSc_eq, ↓wIxSc_eq, ↓wPar_eq, ↓asgn_eq, ↓asgn_fz, ↓asgn_ow, ↓asgn_loc, ↓retR_fz, ↓retR_ow, ↓retR_loc, ↓wFor_eq, ↓wLc_eq, ↓wVar_eq, ↓wC_eq, ↓wNil_eq, ↓wCons_eq, ↓wAndT_eq, ↓wOrT_eq, ↓wNotT_eq, ↓wIfE_eq, ↓wNoPart_eq, ↓wYes_eq, ↓wNext_eq, ↓wBreak_eq, ↓wCont_eq, ↓wSeq_eq, ↓wDrop_eq, ↓wRet_eq, ↓wRetN_eq, ↓wIf_eq, ↓wAsg_eq, ↓wGNil_eq, ↓gOfB_eq, ↓endsF_nx, ↓endsF_rt, ↓bnd_some, ↓bnd_none, ↓ind_int, ↓tst_bool, ↓tsto_bool, ↓locR_loc, ↓tupR_tup, ↓cns_cons, ↓two_two, ↓ints1_int, ↓ints2_int, ↓g1_eq, ↓g2_eq, ↓gEq_eq, ↓gNe_eq, ↓gRepr_eq, ↓gIn_one, ↓gIs_bb, ↓gIs_none, ↓gIn_list, ↓gIn_tuple, ↓gSl_list, ↓gSl_tuple, ↓gSl_str, ↓gIx_list, ↓gIx_tuple, ↓gIx_str, ↓gSetL_eq, ↓gSum_eq, ↓gBools_eq, ↓gJoin_eq, ↓gAdd.eq_1, ↓gAdd.eq_2, ↓gAdd.eq_3, ↓gAdd.eq_4, ↓PL.gSub.eq_1, ↓gMod.eq_1, ↓gDiv.eq_1, ↓gPow.eq_1, ↓gMul.eq_1, ↓gMul.eq_2, ↓gMul.eq_3, ↓gCmp.eq_1, ↓gCmp.eq_2, ↓gLen.eq_1, ↓gLen.eq_2, ↓gLen.eq_3, ↓gAbs.eq_1, ↓gInt.eq_1, ↓gInt.eq_2, ↓gI2.eq_1, ↓gTup1.eq_1, ↓gTup1.eq_2, ↓gLst1.eq_1, ↓gLst1.eq_2, ↓gAppend.eq_1, ↓gCount.eq_1, ↓gUpper.eq_1, eqv_int, eqv_str, eqv_bool, eqv_ns, eqv_sn, eqv_nn, eqv_ni, eqv_in, eqv_si, eqv_is, eqOk_int, eqOk_str, eqOk_bool, eqOk_ns, eqOk_sn, eqOk_nn, eqOk_ni, eqOk_in, eqOk_si, eqOk_is, beq_iff_eq, ixN_0, ixN_1, ixN_2, ixN_3, ixN_4, ixN_5, ixN_6, ixN_7, atI_0, atI_1, atI_2, atI_3, atI_4, atI_5, atI_6, atI_7, rVar, lookAll, ownAt?, look, frz, frzAll, Out.res, okSlot_eq, okO_some, okS_fz, okS_ow, okS_sc, okS_none, wipeE, restE, prep, back, lent, lentOk, outsOf, outsFrom, argE, Res.good, isTy, tyN, noDict, itD, scAt, owA, fixR, isL, isS, seqOf, truth, truOk, List.getElem?_cons_zero, List.getElem?_cons_succ, List.set_cons_zero, List.set_cons_succ, List.replicate_zero, List.replicate_succ, List.cons_append, List.nil_append, List.append_nil, Option.some.injEq, Prod.mk.injEq, PyData.int.injEq, PyData.list.injEq, PyData.str.injEq, PyData.bool.injEq, PyData.tuple.injEq, Res.loc.injEq, Res.fz.injEq, Res.ow.injEq, and_true, true_and, List.length_cons, List.length_nil, if_true, if_false, reduceIte, Bool.false_eq_true, Option.map_some, List.cons.injEq, List.mem_cons, List.not_mem_nil, or_false, forall_eq, not_true_eq_false, not_false_eq_true, Bool.not_true, Bool.not_false, forall_const, List.nodup_nil, List.nodup_cons, Option.isSome_some, decide_eq_true_eq, Nat.reduceLeDiff, Nat.reduceAdd, Nat.zero_add, exists_eq', Int.reduceLT, Int.reduceLE, Int.reduceNeg, Int.reducePow, Nat.reducePow, Int.reduceToNat, Int.reduceAdd, Int.reduceMul, Nat.reduceMul, Nat.reduceEqDiff, Nat.reduceSub, String.reduceBEq, beq_self_eq_true, Bool.and_true, Bool.true_and, Bool.or_true, Bool.true_or, Bool.or_false, Bool.false_or, Bool.and_false, Bool.false_and, Bool.not_eq_true, Bool.not_eq_false, reduceCtorEq]
      refine callT_of (right_ok gd (by omega) fun o g1 g2 => ?_)
      match o, g2 with
      | [p1], _ =>
      simp -dsimp -implicitDefEqProofs only [↓w2_eq, ↓wT_eq, ↓wChain_eq, ↓wTru_eq, ↓wAndV_eq, ↓wOrV_eq, ↓wNotV_eq, ↓wNeg_eq, ↓wPart_eq, ↓wSl_eq, ↓wN_eq, ↓wM_eq, ↓wMut_eq, ↓wTup_eq, ↓wLst_eq, ↓wCall_eq, ↓wGTup_eq, ↓wGCons_eq, ↓wGSub_eq, ↓wIsi_eq, ↓wIsi2_eq, ↓wIt_eq, ↓wRng1_eq, ↓wRng2_eq, ↓wLenSc_eq, ↓wIxSc_eq, ↓wPar_eq, ↓asgn_eq, ↓asgn_fz, ↓asgn_ow, ↓asgn_loc, ↓retR_fz, ↓retR_ow, ↓retR_loc, ↓wFor_eq, ↓wLc_eq, ↓wVar_eq, ↓wC_eq, ↓wNil_eq, ↓wCons_eq, ↓wAndT_eq, ↓wOrT_eq, ↓wNotT_eq, ↓wIfE_eq, ↓wNoPart_eq, ↓wYes_eq, ↓wNext_eq, ↓wBreak_eq, ↓wCont_eq, ↓wSeq_eq, ↓wDrop_eq, ↓wRet_eq, ↓wRetN_eq, ↓wIf_eq, ↓wAsg_eq, ↓wGNil_eq, ↓gOfB_eq, ↓endsF_nx, ↓endsF_rt, ↓bnd_some, ↓bnd_none, ↓ind_int, ↓tst_bool, ↓tsto_bool, ↓locR_loc, ↓tupR_tup, ↓cns_cons, ↓two_two, ↓ints1_int, ↓ints2_int, ↓g1_eq, ↓g2_eq, ↓gEq_eq, ↓gNe_eq, ↓gRepr_eq, ↓gIn_one, ↓gIs_bb, ↓gIs_none, ↓gIn_list, ↓gIn_tuple, ↓gSl_list, ↓gSl_tuple, ↓gSl_str, ↓gIx_list, ↓gIx_tuple, ↓gIx_str, ↓gSetL_eq, ↓gSum_eq, ↓gBools_eq, ↓gJoin_eq, ↓gAdd.eq_1, ↓gAdd.eq_2, ↓gAdd.eq_3, ↓gAdd.eq_4, ↓PL.gSub.eq_1, ↓gMod.eq_1, ↓gDiv.eq_1, ↓gPow.eq_1, ↓gMul.eq_1, ↓gMul.eq_2, ↓gMul.eq_3, ↓gCmp.eq_1, ↓gCmp.eq_2, ↓gLen.eq_1, ↓gLen.eq_2, ↓gLen.eq_3, ↓gAbs.eq_1, ↓gInt.eq_1, ↓gInt.eq_2, ↓gI2.eq_1, ↓gTup1.eq_1, ↓gTup1.eq_2, ↓gLst1.eq_1, ↓gLst1.eq_2, ↓gAppend.eq_1, ↓gCount.eq_1, ↓gUpper.eq_1, eqv_int, eqv_str, eqv_bool, eqv_ns, eqv_sn, eqv_nn, eqv_ni, eqv_in, eqv_si, eqv_is, eqOk_int, eqOk_str, eqOk_bool, eqOk_ns, eqOk_sn, eqOk_nn, eqOk_ni, eqOk_in, eqOk_si, eqOk_is, beq_iff_eq, ixN_0, ixN_1, ixN_2, ixN_3, ixN_4, ixN_5, ixN_6, ixN_7, atI_0, atI_1, atI_2, atI_3, atI_4, atI_5, atI_6, atI_7, rVar, lookAll, ownAt?, look, frz, frzAll, Out.res, okSlot_eq, okO_some, okS_fz, okS_ow, okS_sc, okS_none, wipeE, restE, prep, back, lent, lentOk, outsOf, outsFrom, argE, Res.good, isTy, tyN, noDict, itD, scAt, owA, fixR, isL, isS, seqOf, truth, truOk, List.getElem?_cons_zero, List.getElem?_cons_succ, List.set_cons_zero, List.set_cons_succ, List.replicate_zero, List.replicate_succ, List.cons_append, List.nil_append, List.append_nil, Option.some.injEq, Prod.mk.injEq, PyData.int.injEq, PyData.list.injEq, PyData.str.injEq, PyData.bool.injEq, PyData.tuple.injEq, Res.loc.injEq, Res.fz.injEq, Res.ow.injEq, and_true, true_and, List.length_cons, List.length_nil, if_true, if_false, reduceIte, Bool.false_eq_true, Option.map_some, List.cons.injEq, List.mem_cons, List.not_mem_nil, or_false, forall_eq, not_true_eq_false, not_false_eq_true, Bool.not_true, Bool.not_false, forall_const, List.nodup_nil, List.nodup_cons, Option.isSome_some, decide_eq_true_eq, Nat.reduceLeDiff, Nat.reduceAdd, Nat.zero_add, exists_eq', Int.reduceLT, Int.reduceLE, Int.reduceNeg, Int.reducePow, Nat.reducePow, Int.reduceToNat, Int.reduceAdd, Int.reduceMul, Nat.reduceMul, Nat.reduceEqDiff, Nat.reduceSub, String.reduceBEq, beq_self_eq_true, Bool.and_true, Bool.true_and, Bool.or_true, Bool.true_or, Bool.or_false, Bool.false_or, Bool.and_false, Bool.false_and, Bool.not_eq_true, Bool.not_eq_false, reduceCtorEq]
      refine hk _ _ ⟨?_, rfl⟩
      rw [List.replicate_succ', List.map_append]; rfl
    · obtain ⟨rfl, rfl⟩ := hi
      have ha : ((List.replicate l.length true).all id) = true := by simp
      simp -dsimp -implicitDefEqProofs only [↓w2_eq, ↓wT_eq, ↓wChain_eq, ↓wTru_eq, ↓wAndV_eq, ↓wOrV_eq, ↓wNotV_eq, ↓wNeg_eq, ↓wPart_eq, ↓wSl_eq, ↓wN_eq, ↓wM_eq, ↓wMut_eq, ↓wTup_eq, ↓wLst_eq, ↓wCall_eq, ↓wGTup_eq, ↓wGCons_eq, ↓wGSub_eq, ↓wIsi_eq, ↓wIsi2_eq, ↓wIt_eq, ↓wRng1_eq, ↓wRng2_eq, ↓wLenSc_eq, ↓wIxSc_eq, ↓wPar_eq, ↓asgn_eq, ↓asgn_fz, ↓asgn_ow, ↓asgn_loc, ↓retR_fz, ↓retR_ow, ↓retR_loc, ↓wFor_eq, ↓wLc_eq, ↓wVar_eq, ↓wC_eq, ↓wNil_eq, ↓wCons_eq, ↓wAndT_eq, ↓wOrT_eq, ↓wNotT_eq, ↓wIfE_eq, ↓wNoPart_eq, ↓wYes_eq, ↓wNext_eq, ↓wBreak_eq, ↓wCont_eq, ↓wSeq_eq, ↓wDrop_eq, ↓wRet_eq, ↓wRetN_eq, ↓wIf_eq, ↓wAsg_eq, ↓wGNil_eq, ↓gOfB_eq, ↓endsF_nx, ↓endsF_rt, ↓bnd_some, ↓bnd_none, ↓ind_int, ↓tst_bool, ↓tsto_bool, ↓locR_loc, ↓tupR_tup, ↓cns_cons, ↓two_two, ↓ints1_int, ↓ints2_int, ↓g1_eq, ↓g2_eq, ↓gEq_eq, ↓gNe_eq, ↓gRepr_eq, ↓gIn_one, ↓gIs_bb, ↓gIs_none, ↓gIn_list, ↓gIn_tuple, ↓gSl_list, ↓gSl_tuple, ↓gSl_str, ↓gIx_list, ↓gIx_tuple, ↓gIx_str, ↓gSetL_eq, ↓gSum_eq, ↓gBools_eq, ↓gJoin_eq, ↓gAdd.eq_1, ↓gAdd.eq_2, ↓gAdd.eq_3, ↓gAdd.eq_4, ↓PL.gSub.eq_1, ↓gMod.eq_1, ↓gDiv.eq_1, ↓gPow.eq_1, ↓gMul.eq_1, ↓gMul.eq_2, ↓gMul.eq_3, ↓gCmp.eq_1, ↓gCmp.eq_2, ↓gLen.eq_1, ↓gLen.eq_2, ↓gLen.eq_3, ↓gAbs.eq_1, ↓gInt.eq_1, ↓gInt.eq_2, ↓gI2.eq_1, ↓gTup1.eq_1, ↓gTup1.eq_2, ↓gLst1.eq_1, ↓gLst1.eq_2, ↓gAppend.eq_1, ↓gCount.eq_1, ↓gUpper.eq_1, eqv_int, eqv_str, eqv_bool, eqv_ns, eqv_sn, eqv_nn, eqv_ni, eqv_in, eqv_si, eqv_is, eqOk_int, eqOk_str, eqOk_bool, eqOk_ns, eqOk_sn, eqOk_nn, eqOk_ni, eqOk_in, eqOk_si, eqOk_is, beq_iff_eq, ixN_0, ixN_1, ixN_2, ixN_3, ixN_4, ixN_5, ixN_6, ixN_7, atI_0, atI_1, atI_2, atI_3, atI_4, atI_5, atI_6, atI_7, rVar, lookAll, ownAt?, look, frz, frzAll, Out.res, okSlot_eq, okO_some, okS_fz, okS_ow, okS_sc, okS_none, wipeE, restE, prep, back, lent, lentOk, outsOf, outsFrom, argE, Res.good, isTy, tyN, noDict, itD, scAt, owA, fixR, isL, isS, seqOf, truth, truOk, List.getElem?_cons_zero, List.getElem?_cons_succ, List.set_cons_zero, List.set_cons_succ, List.replicate_zero, List.replicate_succ, List.cons_append, List.nil_append, List.append_nil, Option.some.injEq, Prod.mk.injEq, PyData.int.injEq, PyData.list.injEq, PyData.str.injEq, PyData.bool.injEq, PyData.tuple.injEq, Res.loc.injEq, Res.fz.injEq, Res.ow.injEq, and_true, true_and, List.length_cons, List.length_nil, if_true, if_false, reduceIte, Bool.false_eq_true, Option.map_some, List.cons.injEq, List.mem_cons, List.not_mem_nil, or_false, forall_eq, not_true_eq_false, not_false_eq_true, Bool.not_true, Bool.not_false, forall_const, List.nodup_nil, List.nodup_cons, Option.isSome_some, decide_eq_true_eq, Nat.reduceLeDiff, Nat.reduceAdd, Nat.zero_add, exists_eq', Int.reduceLT, Int.reduceLE, Int.reduceNeg, Int.reducePow, Nat.reducePow, Int.reduceToNat, Int.reduceAdd, Int.reduceMul, Nat.reduceMul, Nat.reduceEqDiff, Nat.reduceSub, String.reduceBEq, beq_self_eq_true, Bool.and_true, Bool.true_and, Bool.or_true, Bool.true_or, Bool.or_false, Bool.false_or, Bool.and_false, Bool.false_and, Bool.not_eq_true, Bool.not_eq_false, reduceCtorEq, PL.bools_map, ha]
      refine callT_of (is_name_ok rfl (fun z' q => by cases q; omega) fun o g1 g2 => ?_)
      match o, g2 with
      | [p1], _ =>
      have hi : isN (.str z) = true := hzn
      rw [hi]
      simp -dsimp -implicitDefEqProofs only [↓w2_eq, ↓wT_eq, ↓wChain_eq, ↓wTru_eq, ↓wAndV_eq, ↓wOrV_eq, ↓wNotV_eq, ↓wNeg_eq, ↓wPart_eq, ↓wSl_eq, ↓wN_eq, ↓wM_eq, ↓wMut_eq, ↓wTup_eq, ↓wLst_eq, ↓wCall_eq, ↓wGTup_eq, ↓wGCons_eq, ↓wGSub_eq, ↓wIsi_eq, ↓wIsi2_eq, ↓wIt_eq, ↓wRng1_eq, ↓wRng2_eq, ↓wLenSc_eq, ↓wIxSc_eq, ↓wPar_eq, ↓asgn_eq, ↓asgn_fz, ↓asgn_ow, ↓asgn_loc, ↓retR_fz, ↓retR_ow, ↓retR_loc, ↓wFor_eq, ↓wLc_eq, ↓wVar_eq, ↓wC_eq, ↓wNil_eq, ↓wCons_eq, ↓wAndT_eq, ↓wOrT_eq, ↓wNotT_eq, ↓wIfE_eq, ↓wNoPart_eq, ↓wYes_eq, ↓wNext_eq, ↓wBreak_eq, ↓wCont_eq, ↓wSeq_eq, ↓wDrop_eq, ↓wRet_eq, ↓wRetN_eq, ↓wIf_eq, ↓wAsg_eq, ↓wGNil_eq, ↓gOfB_eq, ↓endsF_nx, ↓endsF_rt, ↓bnd_some, ↓bnd_none, ↓ind_int, ↓tst_bool, ↓tsto_bool, ↓locR_loc, ↓tupR_tup, ↓cns_cons, ↓two_two, ↓ints1_int, ↓ints2_int, ↓g1_eq, ↓g2_eq, ↓gEq_eq, ↓gNe_eq, ↓gRepr_eq, ↓gIn_one, ↓gIs_bb, ↓gIs_none, ↓gIn_list, ↓gIn_tuple, ↓gSl_list, ↓gSl_tuple, ↓gSl_str, ↓gIx_list, ↓gIx_tuple, ↓gIx_str, ↓gSetL_eq, ↓gSum_eq, ↓gBools_eq, ↓gJoin_eq, ↓gAdd.eq_1, ↓gAdd.eq_2, ↓gAdd.eq_3, ↓gAdd.eq_4, ↓PL.gSub.eq_1, ↓gMod.eq_1, ↓gDiv.eq_1, ↓gPow.eq_1, ↓gMul.eq_1, ↓gMul.eq_2, ↓gMul.eq_3, ↓gCmp.eq_1, ↓gCmp.eq_2, ↓gLen.eq_1, ↓gLen.eq_2, ↓gLen.eq_3, ↓gAbs.eq_1, ↓gInt.eq_1, ↓gInt.eq_2, ↓gI2.eq_1, ↓gTup1.eq_1, ↓gTup1.eq_2, ↓gLst1.eq_1, ↓gLst1.eq_2, ↓gAppend.eq_1, ↓gCount.eq_1, ↓gUpper.eq_1, eqv_int, eqv_str, eqv_bool, eqv_ns, eqv_sn, eqv_nn, eqv_ni, eqv_in, eqv_si, eqv_is, eqOk_int, eqOk_str, eqOk_bool, eqOk_ns, eqOk_sn, eqOk_nn, eqOk_ni, eqOk_in, eqOk_si, eqOk_is, beq_iff_eq, ixN_0, ixN_1, ixN_2, ixN_3, ixN_4, ixN_5, ixN_6, ixN_7, atI_0, atI_1, atI_2, atI_3, atI_4, atI_5, atI_6, atI_7, rVar, lookAll, ownAt?, look, frz, frzAll, Out.res, okSlot_eq, okO_some, okS_fz, okS_ow, okS_sc, okS_none, wipeE, restE, prep, back, lent, lentOk, outsOf, outsFrom, argE, Res.good, isTy, tyN, noDict, itD, scAt, owA, fixR, isL, isS, seqOf, truth, truOk, List.getElem?_cons_zero, List.getElem?_cons_succ, List.set_cons_zero, List.set_cons_succ, List.replicate_zero, List.replicate_succ, List.cons_append, List.nil_append, List.append_nil, Option.some.injEq, Prod.mk.injEq, PyData.int.injEq, PyData.list.injEq, PyData.str.injEq, PyData.bool.injEq, PyData.tuple.injEq, Res.loc.injEq, Res.fz.injEq, Res.ow.injEq, and_true, true_and, List.length_cons, List.length_nil, if_true, if_false, reduceIte, Bool.false_eq_true, Option.map_some, List.cons.injEq, List.mem_cons, List.not_mem_nil, or_false, forall_eq, not_true_eq_false, not_false_eq_true, Bool.not_true, Bool.not_false, forall_const, List.nodup_nil, List.nodup_cons, Option.isSome_some, decide_eq_true_eq, Nat.reduceLeDiff, Nat.reduceAdd, Nat.zero_add, exists_eq', Int.reduceLT, Int.reduceLE, Int.reduceNeg, Int.reducePow, Nat.reducePow, Int.reduceToNat, Int.reduceAdd, Int.reduceMul, Nat.reduceMul, Nat.reduceEqDiff, Nat.reduceSub, String.reduceBEq, beq_self_eq_true, Bool.and_true, Bool.true_and, Bool.or_true, Bool.true_or, Bool.or_false, Bool.false_or, Bool.and_false, Bool.false_and, Bool.not_eq_true, Bool.not_eq_false, reduceCtorEq]
      exact hK _ _ _ _ _ rfl rfl rfl rfl oy
theorem law_true (ns : List Int) (Q : Res → List D → Prop) (hn : ns.length ≤ 63) (hQ : ∀ o, Q (.fz (.bool true)) o) : g_law [.list (ns.map .int)] Q := by
  simp -dsimp -implicitDefEqProofs only [g_law, w_law, w_law_0, ↓w2_eq, ↓wT_eq, ↓wChain_eq, ↓wTru_eq, ↓wAndV_eq, ↓wOrV_eq, ↓wNotV_eq, ↓wNeg_eq, ↓wPart_eq, ↓wSl_eq, ↓wN_eq, ↓wM_eq, ↓wMut_eq, ↓wTup_eq, ↓wLst_eq, ↓wCall_eq, ↓wGTup_eq, ↓wGCons_eq, ↓wGSub_eq, ↓wIsi_eq, ↓wIsi2_eq, ↓wIt_eq, ↓wRng1_eq, ↓wRng2_eq, ↓wLenSc_eq, ↓wIxSc_eq, ↓wPar_eq, ↓asgn_eq, ↓asgn_fz, ↓asgn_ow, ↓asgn_loc, ↓retR_fz, ↓retR_ow, ↓retR_loc, ↓wFor_eq, ↓wLc_eq, ↓wVar_eq, ↓wC_eq, ↓wNil_eq, ↓wCons_eq, ↓wAndT_eq, ↓wOrT_eq, ↓wNotT_eq, ↓wIfE_eq, ↓wNoPart_eq, ↓wYes_eq, ↓wNext_eq, ↓wBreak_eq, ↓wCont_eq, ↓wSeq_eq, ↓wDrop_eq, ↓wRet_eq, ↓wRetN_eq, ↓wIf_eq, ↓wAsg_eq, ↓wGNil_eq, ↓gOfB_eq, ↓endsF_nx, ↓endsF_rt, ↓bnd_some, ↓bnd_none, ↓ind_int, ↓tst_bool, ↓tsto_bool, ↓locR_loc, ↓tupR_tup, ↓cns_cons, ↓two_two, ↓ints1_int, ↓ints2_int, ↓g1_eq, ↓g2_eq, ↓gEq_eq, ↓gNe_eq, ↓gRepr_eq, ↓gIn_one, ↓gIs_bb, ↓gIs_none, ↓gIn_list, ↓gIn_tuple, ↓gSl_list, ↓gSl_tuple, ↓gSl_str, ↓gIx_list, ↓gIx_tuple, ↓gIx_str, ↓gSetL_eq, ↓gSum_eq, ↓gBools_eq, ↓gJoin_eq, ↓gAdd.eq_1, ↓gAdd.eq_2, ↓gAdd.eq_3, ↓gAdd.eq_4, ↓PL.gSub.eq_1, ↓gMod.eq_1, ↓gDiv.eq_1, ↓gPow.eq_1, ↓gMul.eq_1, ↓gMul.eq_2, ↓gMul.eq_3, ↓gCmp.eq_1, ↓gCmp.eq_2, ↓gLen.eq_1, ↓gLen.eq_2, ↓gLen.eq_3, ↓gAbs.eq_1, ↓gInt.eq_1, ↓gInt.eq_2, ↓gI2.eq_1, ↓gTup1.eq_1, ↓gTup1.eq_2, ↓gLst1.eq_1, ↓gLst1.eq_2, ↓gAppend.eq_1, ↓gCount.eq_1, ↓gUpper.eq_1, eqv_int, eqv_str, eqv_bool, eqv_ns, eqv_sn, eqv_nn, eqv_ni, eqv_in, eqv_si, eqv_is, eqOk_int, eqOk_str, eqOk_bool, eqOk_ns, eqOk_sn, eqOk_nn, eqOk_ni, eqOk_in, eqOk_si, eqOk_is, beq_iff_eq, ixN_0, ixN_1, ixN_2, ixN_3, ixN_4, ixN_5, ixN_6, ixN_7, atI_0, atI_1, atI_2, atI_3, atI_4, atI_5, atI_6, atI_7, rVar, lookAll, ownAt?, look, frz, frzAll, Out.res, okSlot_eq, okO_some, okS_fz, okS_ow, okS_sc, okS_none, wipeE, restE, prep, back, lent, lentOk, outsOf, outsFrom, argE, Res.good, isTy, tyN, noDict, itD, scAt, owA, fixR, isL, isS, seqOf, truth, truOk, List.getElem?_cons_zero, List.getElem?_cons_succ, List.set_cons_zero, List.set_cons_succ, List.replicate_zero, List.replicate_succ, List.cons_append, List.nil_append, List.append_nil, Option.some.injEq, Prod.mk.injEq, PyData.int.injEq, PyData.list.injEq, PyData.str.injEq, PyData.bool.injEq, PyData.tuple.injEq, Res.loc.injEq, Res.fz.injEq, Res.ow.injEq, and_true, true_and, List.length_cons, List.length_nil, if_true, if_false, reduceIte, Bool.false_eq_true, Option.map_some, List.cons.injEq, List.mem_cons, List.not_mem_nil, or_false, forall_eq, not_true_eq_false, not_false_eq_true, Bool.not_true, Bool.not_false, forall_const, List.nodup_nil, List.nodup_cons, Option.isSome_some, decide_eq_true_eq, Nat.reduceLeDiff, Nat.reduceAdd, Nat.zero_add, exists_eq', Int.reduceLT, Int.reduceLE, Int.reduceNeg, Int.reducePow, Nat.reducePow, Int.reduceToNat, Int.reduceAdd, Int.reduceMul, Nat.reduceMul, Nat.reduceEqDiff, Nat.reduceSub, String.reduceBEq, beq_self_eq_true, Bool.and_true, Bool.true_and, Bool.or_true, Bool.true_or, Bool.or_false, Bool.false_or, Bool.and_false, Bool.false_and, Bool.not_eq_true, Bool.not_eq_false, reduceCtorEq]
  rw [List.length_map]
  generalize hM : (1 + if (ns.length : Int) < 12 then (ns.length : Int) else 12) = M
  have hM2 : 0 ≤ M ∧ M ≤ 13 := by subst hM; split <;> omega
  refine ⟨by omega, ?_⟩
  refine forLT_inv (fun i e => ∃ y1 y2 y3 y4 y5, e = [some (.sc, .list (ns.map .int)), y1, y2, y3, y4, y5, none] ∧ okS y1 = true ∧ okS y2 = true ∧ okS y3 = true ∧ okS y4 = true ∧ okS y5 = true)
    ⟨_, _, _, _, _, rfl, rfl, rfl, rfl, rfl, rfl⟩ (fun i d e K hd hi hk => ?_) (fun e hi => ?_)
  · obtain ⟨y1, y2, y3, y4, y5, rfl, o1, o2, o3, o4, o5⟩ := hi
    obtain ⟨hi, rfl⟩ := rngD_get hd
    simp -dsimp -implicitDefEqProofs only [↓w2_eq, ↓wT_eq, ↓wChain_eq, ↓wTru_eq, ↓wAndV_eq, ↓wOrV_eq, ↓wNotV_eq, ↓wNeg_eq, ↓wPart_eq, ↓wSl_eq, ↓wN_eq, ↓wM_eq, ↓wMut_eq, ↓wTup_eq, ↓wLst_eq, ↓wCall_eq, ↓wGTup_eq, ↓wGCons_eq, ↓wGSub_eq, ↓wIsi_eq, ↓wIsi2_eq, ↓wIt_eq, ↓wRng1_eq, ↓wRng2_eq, ↓wLenSc_eq, ↓wIxSc_eq, ↓wPar_eq, ↓asgn_eq, ↓asgn_fz, ↓asgn_ow, ↓asgn_loc, ↓retR_fz, ↓retR_ow, ↓retR_loc, ↓wFor_eq, ↓wLc_eq, ↓wVar_eq, ↓wC_eq, ↓wNil_eq, ↓wCons_eq, ↓wAndT_eq, ↓wOrT_eq, ↓wNotT_eq, ↓wIfE_eq, ↓wNoPart_eq, ↓wYes_eq, ↓wNext_eq, ↓wBreak_eq, ↓wCont_eq, ↓wSeq_eq, ↓wDrop_eq, ↓wRet_eq, ↓wRetN_eq, ↓wIf_eq, ↓wAsg_eq, ↓wGNil_eq, ↓gOfB_eq, ↓endsF_nx, ↓endsF_rt, ↓bnd_some, ↓bnd_none, ↓ind_int, ↓tst_bool, ↓tsto_bool, ↓locR_loc, ↓tupR_tup, ↓cns_cons, ↓two_two, ↓ints1_int, ↓ints2_int, ↓g1_eq, ↓g2_eq, ↓gEq_eq, ↓gNe_eq, ↓gRepr_eq, ↓gIn_one, ↓gIs_bb, ↓gIs_none, ↓gIn_list, ↓gIn_tuple, ↓gSl_list, ↓gSl_tuple, ↓gSl_str, ↓gIx_list, ↓gIx_tuple, ↓gIx_str, ↓gSetL_eq, ↓gSum_eq, ↓gBools_eq, ↓gJoin_eq, ↓gAdd.eq_1, ↓gAdd.eq_2, ↓gAdd.eq_3, ↓gAdd.eq_4, ↓PL.gSub.eq_1, ↓gMod.eq_1, ↓gDiv.eq_1, ↓gPow.eq_1, ↓gMul.eq_1, ↓gMul.eq_2, ↓gMul.eq_3, ↓gCmp.eq_1, ↓gCmp.eq_2, ↓gLen.eq_1, ↓gLen.eq_2, ↓gLen.eq_3, ↓gAbs.eq_1, ↓gInt.eq_1, ↓gInt.eq_2, ↓gI2.eq_1, ↓gTup1.eq_1, ↓gTup1.eq_2, ↓gLst1.eq_1, ↓gLst1.eq_2, ↓gAppend.eq_1, ↓gCount.eq_1, ↓gUpper.eq_1, eqv_int, eqv_str, eqv_bool, eqv_ns, eqv_sn, eqv_nn, eqv_ni, eqv_in, eqv_si, eqv_is, eqOk_int, eqOk_str, eqOk_bool, eqOk_ns, eqOk_sn, eqOk_nn, eqOk_ni, eqOk_in, eqOk_si, eqOk_is, beq_iff_eq, ixN_0, ixN_1, ixN_2, ixN_3, ixN_4, ixN_5, ixN_6, ixN_7, atI_0, atI_1, atI_2, atI_3, atI_4, atI_5, atI_6, atI_7, rVar, lookAll, ownAt?, look, frz, frzAll, Out.res, okSlot_eq, okO_some, okS_fz, okS_ow, okS_sc, okS_none, wipeE, restE, prep, back, lent, lentOk, outsOf, outsFrom, argE, Res.good, isTy, tyN, noDict, itD, scAt, owA, fixR, isL, isS, seqOf, truth, truOk, List.getElem?_cons_zero, List.getElem?_cons_succ, List.set_cons_zero, List.set_cons_succ, List.replicate_zero, List.replicate_succ, List.cons_append, List.nil_append, List.append_nil, Option.some.injEq, Prod.mk.injEq, PyData.int.injEq, PyData.list.injEq, PyData.str.injEq, PyData.bool.injEq, PyData.tuple.injEq, Res.loc.injEq, Res.fz.injEq, Res.ow.injEq, and_true, true_and, List.length_cons, List.length_nil, if_true, if_false, reduceIte, Bool.false_eq_true, Option.map_some, List.cons.injEq, List.mem_cons, List.not_mem_nil, or_false, forall_eq, not_true_eq_false, not_false_eq_true, Bool.not_true, Bool.not_false, forall_const, List.nodup_nil, List.nodup_cons, Option.isSome_some, decide_eq_true_eq, Nat.reduceLeDiff, Nat.reduceAdd, Nat.zero_add, exists_eq', Int.reduceLT, Int.reduceLE, Int.reduceNeg, Int.reducePow, Nat.reducePow, Int.reduceToNat, Int.reduceAdd, Int.reduceMul, Nat.reduceMul, Nat.reduceEqDiff, Nat.reduceSub, String.reduceBEq, beq_self_eq_true, Bool.and_true, Bool.true_and, Bool.or_true, Bool.true_or, Bool.or_false, Bool.false_or, Bool.and_false, Bool.false_and, Bool.not_eq_true, Bool.not_eq_false, reduceCtorEq, o1]
    exact turn_ok (by omega) (by omega) o2 o3 o4 o5 fun z1 z2 z3 z4 z5 q1 q2 q3 q4 q5 => hk _ ⟨z1, z2, z3, z4, z5, rfl, q1, q2, q3, q4, q5⟩
  · obtain ⟨y1, y2, y3, y4, y5, rfl, o1, o2, o3, o4, o5⟩ := hi
    simp -dsimp -implicitDefEqProofs only [w_law_1, ↓w2_eq, ↓wT_eq, ↓wChain_eq, ↓wTru_eq, ↓wAndV_eq, ↓wOrV_eq, ↓wNotV_eq, ↓wNeg_eq, ↓wPart_eq, ↓wSl_eq, ↓wN_eq, ↓wM_eq, ↓wMut_eq, ↓wTup_eq, ↓wLst_eq, ↓wCall_eq, ↓wGTup_eq, ↓wGCons_eq, ↓wGSub_eq, ↓wIsi_eq, ↓wIsi2_eq, ↓wIt_eq, ↓wRng1_eq, ↓wRng2_eq, ↓wLenSc_eq, ↓wIxSc_eq, ↓wPar_eq, ↓asgn_eq, ↓asgn_fz, ↓asgn_ow, ↓asgn_loc, ↓retR_fz, ↓retR_ow, ↓retR_loc, ↓wFor_eq, ↓wLc_eq, ↓wVar_eq, ↓wC_eq, ↓wNil_eq, ↓wCons_eq, ↓wAndT_eq, ↓wOrT_eq, ↓wNotT_eq, ↓wIfE_eq, ↓wNoPart_eq, ↓wYes_eq, ↓wNext_eq, ↓wBreak_eq, ↓wCont_eq, ↓wSeq_eq, ↓wDrop_eq, ↓wRet_eq, ↓wRetN_eq, ↓wIf_eq, ↓wAsg_eq, ↓wGNil_eq, ↓gOfB_eq, ↓endsF_nx, ↓endsF_rt, ↓bnd_some, ↓bnd_none, ↓ind_int, ↓tst_bool, ↓tsto_bool, ↓locR_loc, ↓tupR_tup, ↓cns_cons, ↓two_two, ↓ints1_int, ↓ints2_int, ↓g1_eq, ↓g2_eq, ↓gEq_eq, ↓gNe_eq, ↓gRepr_eq, ↓gIn_one, ↓gIs_bb, ↓gIs_none, ↓gIn_list, ↓gIn_tuple, ↓gSl_list, ↓gSl_tuple, ↓gSl_str, ↓gIx_list, ↓gIx_tuple, ↓gIx_str, ↓gSetL_eq, ↓gSum_eq, ↓gBools_eq, ↓gJoin_eq, ↓gAdd.eq_1, ↓gAdd.eq_2, ↓gAdd.eq_3, ↓gAdd.eq_4, ↓PL.gSub.eq_1, ↓gMod.eq_1, ↓gDiv.eq_1, ↓gPow.eq_1, ↓gMul.eq_1, ↓gMul.eq_2, ↓gMul.eq_3, ↓gCmp.eq_1, ↓gCmp.eq_2, ↓gLen.eq_1, ↓gLen.eq_2, ↓gLen.eq_3, ↓gAbs.eq_1, ↓gInt.eq_1, ↓gInt.eq_2, ↓gI2.eq_1, ↓gTup1.eq_1, ↓gTup1.eq_2, ↓gLst1.eq_1, ↓gLst1.eq_2, ↓gAppend.eq_1, ↓gCount.eq_1, ↓gUpper.eq_1, eqv_int, eqv_str, eqv_bool, eqv_ns, eqv_sn, eqv_nn, eqv_ni, eqv_in, eqv_si, eqv_is, eqOk_int, eqOk_str, eqOk_bool, eqOk_ns, eqOk_sn, eqOk_nn, eqOk_ni, eqOk_in, eqOk_si, eqOk_is, beq_iff_eq, ixN_0, ixN_1, ixN_2, ixN_3, ixN_4, ixN_5, ixN_6, ixN_7, atI_0, atI_1, atI_2, atI_3, atI_4, atI_5, atI_6, atI_7, rVar, lookAll, ownAt?, look, frz, frzAll, Out.res, okSlot_eq, okO_some, okS_fz, okS_ow, okS_sc, okS_none, wipeE, restE, prep, back, lent, lentOk, outsOf, outsFrom, argE, Res.good, isTy, tyN, noDict, itD, scAt, owA, fixR, isL, isS, seqOf, truth, truOk, List.getElem?_cons_zero, List.getElem?_cons_succ, List.set_cons_zero, List.set_cons_succ, List.replicate_zero, List.replicate_succ, List.cons_append, List.nil_append, List.append_nil, Option.some.injEq, Prod.mk.injEq, PyData.int.injEq, PyData.list.injEq, PyData.str.injEq, PyData.bool.injEq, PyData.tuple.injEq, Res.loc.injEq, Res.fz.injEq, Res.ow.injEq, and_true, true_and, List.length_cons, List.length_nil, if_true, if_false, reduceIte, Bool.false_eq_true, Option.map_some, List.cons.injEq, List.mem_cons, List.not_mem_nil, or_false, forall_eq, not_true_eq_false, not_false_eq_true, Bool.not_true, Bool.not_false, forall_const, List.nodup_nil, List.nodup_cons, Option.isSome_some, decide_eq_true_eq, Nat.reduceLeDiff, Nat.reduceAdd, Nat.zero_add, exists_eq', Int.reduceLT, Int.reduceLE, Int.reduceNeg, Int.reducePow, Nat.reducePow, Int.reduceToNat, Int.reduceAdd, Int.reduceMul, Nat.reduceMul, Nat.reduceEqDiff, Nat.reduceSub, String.reduceBEq, beq_self_eq_true, Bool.and_true, Bool.true_and, Bool.or_true, Bool.true_or, Bool.or_false, Bool.false_or, Bool.and_false, Bool.false_and, Bool.not_eq_true, Bool.not_eq_false, reduceCtorEq]
    exact hQ _
end K01
open PySem PySem.W PySem.Calls PyProof.Rows
theorem PySem.Challenge.cw_rankseals_k01_names_holds : PySem.Challenge.rw_rankseals_k01_names.Holds := by
  w_on; o_law
  refine HandSHeadRun.head_any (r := OpenLaw.row PySem.Challenge.rw_rankseals_k01_names) (q := view (OpenLaw.row PySem.Challenge.rw_rankseals_k01_names).prog [11]) (H := K01.hk) (ob := K01.ob) (M := 1120) (loose := ["LETTERS", "LONGEST", "is_name", "_law_box", "_law_take", "_law_is", "_law_right", "_law_name", "_law_bent"]) (d := HandSHeadRun.topDef (OpenLaw.row PySem.Challenge.rw_rankseals_k01_names).prog 11) (kwd := []) K01.ob_eq
    (by kernel_rfl) (fun s => by kernel_rfl) K01.run (by kernel_rfl) (by kernel_rfl) (by kernel_rfl) (by rfl) (by first | assumption | decide +kernel) (by decide +kernel) ⟨rfl, rfl, rfl, rfl, rfl, by decide +kernel⟩ ?hw ?hc
  case hw => w_witness2
  case hc =>
    refine PL.law_walk (l := PySem.Challenge.rw_rankseals_k01_names) (n := 63) (lv := 3) (x := (PySem.Str.ofString "_law_script")) (CX := L2.CX0) (g := fun _ => K01.g_law) rfl (by decide) (by kernel_rfl) ⟨rfl, by decide, by decide⟩ ?F (fun K xs Q hn hQ => K01.law_true xs Q hn hQ) (fun _ _ _ _ z => z)
    case F =>
      intro w mg fa h Y G hmg0
      obtain ⟨K, KX, c⟩ := Y
      have hmg : mg ("law" : PySem.Str) = some (.ref fa) := by
        have e : (HandSHeadRun.topDef (OpenLaw.row PySem.Challenge.rw_rankseals_k01_names).prog 11).name = ("law" : PySem.Str) := by kernel_rfl
        rw [← e]
        exact hmg0
      obtain ⟨fd, hb, hF⟩ := K01.facts (P := (PySem.Challenge.rw_rankseals_k01_names).prog) (w := w) KX G hmg c
      exact ⟨K, fd, KX, hb, hF⟩
