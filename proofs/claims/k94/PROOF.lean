import PyProof.Rows.All
import Wide.All
import OpenK.AllK
import Wide.FinOn
import HandS.ForMost
import HandS.Deep
import HandS.Wide
import HandS.TupLe
import HandS.Style
import HandS.TupAny
import HandS.TupLen
import HandS.SetKeys
import HandS.SortInts
import HandS.Gcd
import HandS.IsInst
import HandS.Conv
import HandS.More
import KE.SortCalls
import KE.KDictSum
import PySem.Challenge.RW_loomwork_k94_whole_stripes_alike
set_option Elab.async false
set_option linter.all false
set_option maxRecDepth 100000
set_option maxHeartbeats 2000000
set_option autoImplicit false
/-! Dv1: a layer of values over HandS: pure data D, what stands for it in a heap (Rp), the state of a def's body (Wd): persistent data, owned cells, a frame. -/
namespace Dv
open PySem L2

inductive D where
  | non | bl (b : Bool) | int (i : Int) | str (s : Str) | lst (xs : List D) | tup (xs : List D)
  | dK (kvs : List (Key × D)) | dT (kvs : List (List Key × D))
  /-- a list that is only read (the script) -/
  | sq (xs : List D)
  /-- a tuple of the module's own -/
  | ct (xs : List D)

mutual
def Rp (K : PySem.W.Frag) (P : Hp) : D → V → Prop
  | .non, v => v = .non
  | .bl b, v => v = .bl b
  | .int i, v => v = .int i
  | .str s, v => v = .str s
  | .lst ds, v => ∃ a vs, v = .ref a ∧ P a = some (.lst vs) ∧ RpL K P ds vs
  | .tup ds, v => ∃ a vs, v = .ref a ∧ P a = some (.tup vs) ∧ RpL K P ds vs
  | .dK kds, v => ∃ a kvs, v = .ref a ∧ Rd P a (.dK kvs) ∧ RpK K P kds kvs
  | .dT kds, v => ∃ a kvs, v = .ref a ∧ Rd P a (.dT kvs) ∧ RpT K P kds kvs
  | .sq ds, v => ∃ a vs, v = .ref a ∧ SqL K P a vs ∧ RpL K P ds vs
  | .ct ds, v => ∃ a vs, v = .ref a ∧ SqT K P a vs ∧ RpL K P ds vs
def RpL (K : PySem.W.Frag) (P : Hp) : List D → List V → Prop
  | [], vs => vs = []
  | d :: ds, vs => ∃ v r, vs = v :: r ∧ Rp K P d v ∧ RpL K P ds r
def RpK (K : PySem.W.Frag) (P : Hp) : List (Key × D) → List (Key × V) → Prop
  | [], vs => vs = []
  | (k, d) :: ds, vs => ∃ v r, vs = (k, v) :: r ∧ Rp K P d v ∧ RpK K P ds r
def RpT (K : PySem.W.Frag) (P : Hp) : List (List Key × D) → List (List Key × V) → Prop
  | [], vs => vs = []
  | (k, d) :: ds, vs => ∃ v r, vs = (k, v) :: r ∧ Rp K P d v ∧ RpT K P ds r
end

section
variable {K : PySem.W.Frag} {P P' H H' : Hp}
/-- what could be read stays readable -/
def ExR (P P' : Hp) : Prop := (∀ a o, Rd P a o → Rd P' a o) ∧ (∀ a vs, P a = some (.lst vs) → P' a = some (.lst vs)) ∧ ∀ a vs, P a = some (.tup vs) → P' a = some (.tup vs)
theorem ExR.of (e : Same P P') : ExR P P' := ⟨fun a o h => by
  rcases h with h | ⟨q, h⟩
  · exact .inl (e _ _ h)
  · exact .inr ⟨q, e _ _ h⟩, fun a vs h => e _ _ h, fun a vs h => e _ _ h⟩
theorem ExR.seq (e : ExR P P') {a : Addr} {xs : List V} (h : SqL K P a xs) : SqL K P' a xs := h.imp (e.1 _ _) id
theorem ExR.sqt (e : ExR P P') {a : Addr} {xs : List V} (h : SqT K P a xs) : SqT K P' a xs := h.imp (e.1 _ _) id
mutual
theorem Rp.monoR (e : ExR P P') : ∀ (d : D) (v : V), Rp K P d v → Rp K P' d v
  | .non, _, h => h
  | .bl _, _, h => h
  | .int _, _, h => h
  | .str _, _, h => h
  | .lst ds, v, h => by
    simp only [Rp] at h ⊢
    obtain ⟨a, vs, e1, e2, e3⟩ := h
    exact ⟨a, vs, e1, e.2.1 _ _ e2, RpL.monoR e ds vs e3⟩
  | .sq ds, v, h => by
    simp only [Rp] at h ⊢
    obtain ⟨a, vs, e1, e2, e3⟩ := h
    exact ⟨a, vs, e1, e.seq e2, RpL.monoR e ds vs e3⟩
  | .tup ds, v, h => by
    simp only [Rp] at h ⊢
    obtain ⟨a, vs, e1, e2, e3⟩ := h
    exact ⟨a, vs, e1, e.2.2 _ _ e2, RpL.monoR e ds vs e3⟩
  | .ct ds, v, h => by
    simp only [Rp] at h ⊢
    obtain ⟨a, vs, e1, e2, e3⟩ := h
    exact ⟨a, vs, e1, e.sqt e2, RpL.monoR e ds vs e3⟩
  | .dK kds, v, h => by
    simp only [Rp] at h ⊢
    obtain ⟨a, vs, e1, e2, e3⟩ := h
    exact ⟨a, vs, e1, e.1 _ _ e2, RpK.monoR e kds vs e3⟩
  | .dT kds, v, h => by
    simp only [Rp] at h ⊢
    obtain ⟨a, vs, e1, e2, e3⟩ := h
    exact ⟨a, vs, e1, e.1 _ _ e2, RpT.monoR e kds vs e3⟩
theorem RpL.monoR (e : ExR P P') : ∀ (ds : List D) (vs : List V), RpL K P ds vs → RpL K P' ds vs
  | [], _, h => by simpa only [RpL] using h
  | d :: ds, vs, h => by
    simp only [RpL] at h ⊢
    obtain ⟨v, r, e1, e2, e3⟩ := h
    exact ⟨v, r, e1, Rp.monoR e d v e2, RpL.monoR e ds r e3⟩
theorem RpK.monoR (e : ExR P P') : ∀ (ds : List (Key × D)) (vs : List (Key × V)), RpK K P ds vs → RpK K P' ds vs
  | [], _, h => by simpa only [RpK] using h
  | (k, d) :: ds, vs, h => by
    simp only [RpK] at h ⊢
    obtain ⟨v, r, e1, e2, e3⟩ := h
    exact ⟨v, r, e1, Rp.monoR e d v e2, RpK.monoR e ds r e3⟩
theorem RpT.monoR (e : ExR P P') : ∀ (ds : List (List Key × D)) (vs : List (List Key × V)), RpT K P ds vs → RpT K P' ds vs
  | [], _, h => by simpa only [RpT] using h
  | (k, d) :: ds, vs, h => by
    simp only [RpT] at h ⊢
    obtain ⟨v, r, e1, e2, e3⟩ := h
    exact ⟨v, r, e1, Rp.monoR e d v e2, RpT.monoR e ds r e3⟩
end
theorem Rp.mono (e : Same P P') {d : D} {v : V} (h : Rp K P d v) : Rp K P' d v := Rp.monoR (.of e) d v h
theorem RpL.mono (e : Same P P') {d : List D} {v : List V} (h : RpL K P d v) : RpL K P' d v := RpL.monoR (.of e) d v h
theorem RpK.mono (e : Same P P') {d : List (Key × D)} {v : List (Key × V)} (h : RpK K P d v) : RpK K P' d v := RpK.monoR (.of e) d v h
theorem RpT.mono (e : Same P P') {d : List (List Key × D)} {v : List (List Key × V)} (h : RpT K P d v) : RpT K P' d v := RpT.monoR (.of e) d v h

/-! ### lists of data, by places -/
theorem RpL.nil : RpL K P [] [] := by simp only [RpL]
theorem RpL.cons {d : D} {v : V} {ds : List D} {vs : List V} (h : Rp K P d v) (t : RpL K P ds vs) : RpL K P (d :: ds) (v :: vs) := by
  simp only [RpL]
  exact ⟨v, vs, rfl, h, t⟩
theorem RpL.inv {d : D} {ds : List D} {vs : List V} (h : RpL K P (d :: ds) vs) : ∃ v r, vs = v :: r ∧ Rp K P d v ∧ RpL K P ds r := by simpa only [RpL] using h
theorem RpL.inv0 {vs : List V} (h : RpL K P [] vs) : vs = [] := by simpa only [RpL] using h
theorem RpL.len : ∀ {ds : List D} {vs : List V}, RpL K P ds vs → vs.length = ds.length
  | [], _, h => by
    rw [h.inv0]
    rfl
  | d :: ds, _, h => by
    obtain ⟨v, r, rfl, _, t⟩ := h.inv
    simp [RpL.len t]
theorem RpL.get : ∀ {ds : List D} {vs : List V} {i : Nat} {d : D}, RpL K P ds vs → ds[i]? = some d → ∃ v, vs[i]? = some v ∧ Rp K P d v
  | [], _, _, _, _, e => by simp at e
  | d :: ds, _, 0, _, h, e => by
    obtain ⟨v, r, rfl, q, t⟩ := h.inv
    simp at e
    subst e
    exact ⟨v, rfl, q⟩
  | d :: ds, _, i + 1, _, h, e => by
    obtain ⟨v, r, rfl, q, t⟩ := h.inv
    obtain ⟨w, e1, e2⟩ := RpL.get (i := i) t (by simpa using e)
    exact ⟨w, by simpa using e1, e2⟩
theorem RpL.get' : ∀ {ds : List D} {vs : List V} {i : Nat} {v : V}, RpL K P ds vs → vs[i]? = some v → ∃ d, ds[i]? = some d ∧ Rp K P d v
  | [], _, _, _, h, e => by
    rw [h.inv0] at e
    simp at e
  | d :: ds, _, 0, _, h, e => by
    obtain ⟨v, r, rfl, q, t⟩ := h.inv
    simp at e
    subst e
    exact ⟨d, rfl, q⟩
  | d :: ds, _, i + 1, _, h, e => by
    obtain ⟨v, r, rfl, q, t⟩ := h.inv
    obtain ⟨w, e1, e2⟩ := RpL.get' (i := i) t (by simpa using e)
    exact ⟨w, by simpa using e1, e2⟩
theorem RpL.app : ∀ {ds es : List D} {vs ws : List V}, RpL K P ds vs → RpL K P es ws → RpL K P (ds ++ es) (vs ++ ws)
  | [], _, _, _, h, g => by
    rw [h.inv0]
    exact g
  | d :: ds, _, _, _, h, g => by
    obtain ⟨v, r, rfl, q, t⟩ := h.inv
    exact .cons q (RpL.app t g)
theorem RpL.take : ∀ {ds : List D} {vs : List V} (n : Nat), RpL K P ds vs → RpL K P (ds.take n) (vs.take n)
  | _, _, 0, _ => .nil
  | [], _, n + 1, h => by
    rw [h.inv0]
    exact .nil
  | d :: ds, _, n + 1, h => by
    obtain ⟨v, r, rfl, q, t⟩ := h.inv
    exact .cons q (RpL.take n t)
theorem RpL.drop : ∀ {ds : List D} {vs : List V} (n : Nat), RpL K P ds vs → RpL K P (ds.drop n) (vs.drop n)
  | _, _, 0, h => h
  | [], _, n + 1, h => by
    rw [h.inv0]
    exact .nil
  | d :: ds, _, n + 1, h => by
    obtain ⟨v, r, rfl, q, t⟩ := h.inv
    exact RpL.drop n t
theorem RpL.set {d : D} {v : V} (q : Rp K P d v) : ∀ {ds : List D} {vs : List V} (i : Nat), RpL K P ds vs → RpL K P (ds.set i d) (vs.set i v)
  | [], _, _, h => by
    rw [h.inv0]
    exact .nil
  | _ :: _, _, 0, h => by
    obtain ⟨v, r, rfl, _, t⟩ := h.inv
    exact .cons q t
  | _ :: _, _, i + 1, h => by
    obtain ⟨v, r, rfl, q', t⟩ := h.inv
    exact .cons q' (RpL.set q i t)
theorem RpL.erase : ∀ {ds : List D} {vs : List V} (i : Nat), RpL K P ds vs → RpL K P (ds.eraseIdx i) (vs.eraseIdx i)
  | [], _, _, h => by
    rw [h.inv0]
    exact .nil
  | _ :: _, _, 0, h => by
    obtain ⟨v, r, rfl, _, t⟩ := h.inv
    exact t
  | _ :: _, _, i + 1, h => by
    obtain ⟨v, r, rfl, q', t⟩ := h.inv
    exact .cons q' (RpL.erase i t)
theorem RpL.one {d : D} {v : V} (q : Rp K P d v) : RpL K P [d] [v] := .cons q .nil
theorem RpL.rev : ∀ {ds : List D} {vs : List V}, RpL K P ds vs → RpL K P ds.reverse vs.reverse
  | [], _, h => by
    rw [h.inv0]
    exact .nil
  | d :: ds, _, h => by
    obtain ⟨v, r, rfl, q, t⟩ := h.inv
    rw [List.reverse_cons, List.reverse_cons]
    exact (RpL.rev t).app (.one q)
theorem RpL.rep {ds : List D} {vs : List V} (h : RpL K P ds vs) : ∀ k : Nat, RpL K P (List.replicate k ds).flatten (List.replicate k vs).flatten
  | 0 => .nil
  | k + 1 => by
    rw [List.replicate_succ, List.replicate_succ, List.flatten_cons, List.flatten_cons]
    exact h.app (h.rep k)
theorem RpL.ints : ∀ {ns : List Int} {vs : List V}, RpL K P (ns.map D.int) vs → vs = ns.map V.int
  | [], _, h => h.inv0
  | n :: ns, _, h => by
    obtain ⟨v, r, rfl, q, t⟩ := RpL.inv (d := .int n) h
    have e : v = .int n := q
    rw [e, RpL.ints t, List.map_cons]
theorem RpL.ofInts : ∀ {ns : List Int}, RpL K P (ns.map D.int) (ns.map V.int)
  | [] => .nil
  | n :: ns => .cons (d := .int n) rfl RpL.ofInts
theorem RpL.bls : ∀ {ns : List Bool} {vs : List V}, RpL K P (ns.map D.bl) vs → vs = ns.map V.bl
  | [], _, h => h.inv0
  | n :: ns, _, h => by
    obtain ⟨v, r, rfl, q, t⟩ := RpL.inv (d := .bl n) h
    have e : v = .bl n := q
    rw [e, RpL.bls t, List.map_cons]
theorem RpL.strs : ∀ {ns : List Str} {vs : List V}, RpL K P (ns.map D.str) vs → vs = ns.map V.str
  | [], _, h => h.inv0
  | n :: ns, _, h => by
    obtain ⟨v, r, rfl, q, t⟩ := RpL.inv (d := .str n) h
    have e : v = .str n := q
    rw [e, RpL.strs t, List.map_cons]
theorem RpL.ofStrs : ∀ {ns : List Str}, RpL K P (ns.map D.str) (ns.map V.str)
  | [] => .nil
  | n :: ns => .cons (d := .str n) rfl RpL.ofStrs
end

/-! ### slots, the state -/
inductive Sl where
  | no | im (d : D) | ow (d : D) | io (d : D)
abbrev DE := List Sl
/-- a def's own cell, or one that its caller lends it -/
def own (e : DE) (i : Nat) : Option D := match e[i]? with
  | some (.ow d) => some d
  | some (.io d) => some d
  | _ => none
def ObO (K : PySem.W.Frag) (P : Hp) : D → HO → Prop
  | .lst ds, .lst vs => RpL K P ds vs
  | .dK ds, .dK vs => RpK K P ds vs
  | .dT ds, .dT vs => RpT K P ds vs
  | _, _ => False
def Ob (K : PySem.W.Frag) (P H : Hp) (d : D) (l : Addr) : Prop := ∃ o, H l = some o ∧ ObO K P d o
theorem ObO.mono {K : PySem.W.Frag} {P P' : Hp} (e : Same P P') {d : D} {o : HO} (h : ObO K P d o) : ObO K P' d o := by
  cases d <;> cases o <;> first | exact h.elim | exact RpL.mono e h | exact RpK.mono e h | exact RpT.mono e h

def isTup : HO → Bool
  | .tup _ => true
  | _ => false
theorem ObO.nt {K : PySem.W.Frag} {P : Hp} {d : D} {o : HO} (h : ObO K P d o) : isTup o = false := by
  cases d <;> cases o <;> first | exact h.elim | rfl
structure Wd (K : PySem.W.Frag) (F : Hp) (τ : St) (e : DE) (σ : St) (P H : Hp) : Prop where
  len : e.length = σ.length
  pH : Same P H
  fH : Same F H
  fP : ∀ a o, F a = some o → isTup o = false → P a = none
  im : ∀ (i : Nat) (d : D), e[i]? = some (Sl.im d) → ∃ v, σ[i]? = some (some v) ∧ Rp K P d v
  ow : ∀ (i : Nat) (d : D), own e i = some d → ∃ l, σ[i]? = some (some (.ref l)) ∧ F l = none ∧ P l = none ∧ Ob K P H d l
  io : ∀ (i : Nat) (d : D), e[i]? = some (Sl.io d) → σ[i]? = τ[i]?
  nd : ∀ (i j : Nat) (l : Addr) (di dj : D), own e i = some di → own e j = some dj → σ[i]? = some (some (.ref l)) → σ[j]? = some (some (.ref l)) → i = j

/-- what an expression hands on: a persistent value, the cell of a slot, a fresh object -/
inductive R where
  | v (d : D) | s (i : Nat) | f (d : D)
def RRp (K : PySem.W.Frag) (F : Hp) (e : DE) (σ : St) (P H : Hp) : R → V → Prop
  | .v d, v => Rp K P d v
  | .s i, v => σ[i]? = some (some v) ∧ ∃ d, own e i = some d
  | .f d, v => ∃ l, v = .ref l ∧ F l = none ∧ P l = none ∧ Ob K P H d l ∧ ∀ i di, own e i = some di → σ[i]? ≠ some (some (.ref l))

section
variable {K : PySem.W.Frag} {F : Hp} {τ σ : St} {e : DE} {P H : Hp}
theorem own_lt {i : Nat} {d : D} (h : own e i = some d) : i < e.length := by
  unfold own at h
  by_cases c : i < e.length
  · exact c
  · rw [List.getElem?_eq_none (by omega)] at h
    cases h
/-- an object becomes persistent -/
theorem rp_of_ob {d : D} {l : Addr} {o : HO} (hp : P l = none) (h : ObO K P d o) : Rp K (upd P l o) d (.ref l) := by
  have sm : Same P (upd P l o) := fun b x q => by
    rw [upd_ne (ne_of_none q hp)]
    exact q
  cases d <;> cases o <;> first | exact h.elim | skip
  · simp only [Rp]
    exact ⟨l, _, rfl, upd_same, RpL.mono sm h⟩
  · simp only [Rp]
    exact ⟨l, _, rfl, .inl upd_same, RpK.mono sm h⟩
  · simp only [Rp]
    exact ⟨l, _, rfl, .inl upd_same, RpT.mono sm h⟩
theorem same_upd {o : HO} {l : Addr} (hp : P l = none) : Same P (upd P l o) := fun b x q => by
  rw [upd_ne (ne_of_none q hp)]
  exact q
theorem Ob.mono {P' H' : Hp} {d : D} {l : Addr} (h : Ob K P H d l) (e1 : Same P P') (e2 : H' l = H l) : Ob K P' H' d l := by
  obtain ⟨o, h1, h2⟩ := h
  exact ⟨o, by rw [e2]; exact h1, h2.mono e1⟩
/-- P takes in an object that nobody owns -/
theorem Wd.take (w : Wd K F τ e σ P H) {l : Addr} {o : HO} (hH : H l = some o) (hF : F l = none) (hp : P l = none) (hn : ∀ i di, own e i = some di → σ[i]? ≠ some (some (.ref l))) : Wd K F τ e σ (upd P l o) H := by
  refine ⟨w.len, fun a x q => ?_, w.fH, fun a x q => ?_, fun i d q => ?_, fun i d q => ?_, w.io, w.nd⟩
  · by_cases c : a = l
    · subst c
      rw [upd_same] at q
      cases q
      exact hH
    · rw [upd_ne c] at q
      exact w.pH a x q
  · rw [upd_ne (ne_of_none q hF)]
    exact w.fP a x q
  · obtain ⟨v, h1, h2⟩ := w.im i d q
    exact ⟨v, h1, h2.mono (same_upd hp)⟩
  · obtain ⟨m, h1, h2, h3, h4⟩ := w.ow i d q
    have ne : m ≠ l := fun z => hn i d q (by rw [← z]; exact h1)
    exact ⟨m, h1, h2, by rw [upd_ne ne]; exact h3, h4.mono (same_upd hp) rfl⟩
/-- a fresh result becomes persistent -/
def nf : R → R
  | .f d => .v d
  | r => r
theorem Wd.pers (w : Wd K F τ e σ P H) {r : R} {v : V} (h : RRp K F e σ P H r v) : ∃ P', Same P P' ∧ Wd K F τ e σ P' H ∧ RRp K F e σ P' H (nf r) v := by
  cases r with
  | v d => exact ⟨P, .refl P, w, h⟩
  | s i => exact ⟨P, .refl P, w, h⟩
  | f d =>
    obtain ⟨l, rfl, h1, h2, ⟨o, h3, h4⟩, h5⟩ := h
    exact ⟨_, same_upd h2, w.take h3 h1 h2 h5, rp_of_ob h2 h4⟩
/-- a result as persistent data: a cell is given up -/
def fz (e : DE) : R → Option (D × DE)
  | .v d => some (d, e)
  | .f d => some (d, e)
  | .s i => match e[i]? with
    | some (.ow d) => some (d, e.set i (.im d))
    | some (.im d) => some (d, e)
    | _ => none
theorem own_set_im {i j : Nat} {d d' : D} (h : own (e.set i (.im d)) j = some d') : j ≠ i ∧ own e j = some d' := by
  unfold own at h
  by_cases c : i = j
  · subst c
    by_cases q : i < e.length
    · rw [List.getElem?_set_self q] at h
      cases h
    · rw [List.getElem?_eq_none (by simpa using q)] at h
      cases h
  · rw [List.getElem?_set_ne c] at h
    exact ⟨fun z => c z.symm, h⟩
theorem Wd.fz (w : Wd K F τ e σ P H) {r : R} {v : V} {d : D} {e' : DE} (hr : RRp K F e σ P H r v) (h : fz e r = some (d, e')) : ∃ P', Same P P' ∧ Wd K F τ e' σ P' H ∧ Rp K P' d v := by
  cases r with
  | v d =>
    cases h
    exact ⟨P, .refl P, w, hr⟩
  | f d =>
    cases h
    obtain ⟨P', h1, h2, h3⟩ := w.pers hr
    exact ⟨P', h1, h2, h3⟩
  | s i =>
    unfold Dv.fz at h
    obtain ⟨hv, _⟩ := hr
    cases c : e[i]? with
    | none =>
      simp only [c] at h
      cases h
    | some x =>
      simp only [c] at h
      cases x with
      | no => cases h
      | io _ => cases h
      | im d0 =>
        cases h
        obtain ⟨v', e1, e2⟩ := w.im i _ c
        rw [hv] at e1
        cases e1
        exact ⟨P, .refl P, w, e2⟩
      | ow d0 =>
        cases h
        have ho : own e i = some d := by
          unfold own
          rw [c]
        obtain ⟨l, e1, e2, e3, o, e4, e5⟩ := w.ow i _ ho
        rw [hv] at e1
        cases e1
        have hi := own_lt ho
        refine ⟨upd P l o, same_upd e3, ?_, rp_of_ob e3 e5⟩
        refine ⟨by rw [List.length_set]; exact w.len, fun a x q => ?_, w.fH, fun a x q => ?_, fun j dj q => ?_, fun j dj q => ?_, fun j dj q => ?_, fun j k m dj dk q1 q2 => ?_⟩
        · by_cases cc : a = l
          · subst cc
            rw [upd_same] at q
            cases q
            exact e4
          · rw [upd_ne cc] at q
            exact w.pH a x q
        · rw [upd_ne (ne_of_none q e2)]
          exact w.fP a x q
        · by_cases cc : i = j
          · subst cc
            rw [List.getElem?_set_self hi] at q
            cases q
            exact ⟨_, hv, rp_of_ob e3 e5⟩
          · rw [List.getElem?_set_ne cc] at q
            obtain ⟨v', q1, q2⟩ := w.im j _ q
            exact ⟨v', q1, q2.mono (same_upd e3)⟩
        · obtain ⟨cc, q⟩ := own_set_im q
          obtain ⟨m, q1, q2, q3, q4⟩ := w.ow j _ q
          have ne : m ≠ l := fun z => cc (w.nd j i l _ _ q ho (by rw [← z]; exact q1) hv)
          exact ⟨m, q1, q2, by rw [upd_ne ne]; exact q3, q4.mono (same_upd e3) rfl⟩
        · have cc : i ≠ j := fun z => by
            subst z
            rw [List.getElem?_set_self hi] at q
            cases q
          rw [List.getElem?_set_ne cc] at q
          exact w.io j _ q
        · exact w.nd j k m dj dk (own_set_im q1).2 (own_set_im q2).2
/-- reading a handle in the state as it is -/
def rd (e : DE) : R → Option D
  | .v d => some d
  | .f d => some d
  | .s i => match e[i]? with
    | some (.ow d) => some d
    | some (.io d) => some d
    | some (.im d) => some d
    | _ => none
/-- what can be looked at now: one level in H, the rest persistent -/
def Vw (K : PySem.W.Frag) (P H : Hp) : D → V → Prop
  | .lst ds, v => ∃ a vs, v = .ref a ∧ H a = some (.lst vs) ∧ RpL K P ds vs
  | .dK kds, v => ∃ a kvs, v = .ref a ∧ Rd H a (.dK kvs) ∧ RpK K P kds kvs
  | .dT kds, v => ∃ a kvs, v = .ref a ∧ Rd H a (.dT kvs) ∧ RpT K P kds kvs
  | d, v => Rp K P d v
theorem Rp.vw (e : Same P H) {d : D} {v : V} (h : Rp K P d v) : Vw K P H d v := by
  cases d <;> first | exact h | skip
  · simp only [Rp] at h
    obtain ⟨a, vs, e1, e2, e3⟩ := h
    exact ⟨a, vs, e1, e _ _ e2, e3⟩
  · simp only [Rp] at h
    obtain ⟨a, vs, e1, e2, e3⟩ := h
    exact ⟨a, vs, e1, (ExR.of e).1 _ _ e2, e3⟩
  · simp only [Rp] at h
    obtain ⟨a, vs, e1, e2, e3⟩ := h
    exact ⟨a, vs, e1, (ExR.of e).1 _ _ e2, e3⟩
theorem Ob.vw {d : D} {l : Addr} (h : Ob K P H d l) : Vw K P H d (.ref l) := by
  obtain ⟨o, h1, h2⟩ := h
  cases d <;> cases o <;> first | exact h2.elim | skip
  · exact ⟨l, _, rfl, h1, h2⟩
  · exact ⟨l, _, rfl, .inl h1, h2⟩
  · exact ⟨l, _, rfl, .inl h1, h2⟩
theorem Vw.rp {d : D} {v : V} (h : Vw K P H d v) (e : Same P H) : Rp K H d v := by
  cases d <;> first | exact Rp.mono e (show Rp K P _ v from h) | skip
  · obtain ⟨a, vs, e1, e2, e3⟩ := h
    simp only [Rp]
    exact ⟨a, vs, e1, e2, RpL.mono e e3⟩
  · obtain ⟨a, vs, e1, e2, e3⟩ := h
    simp only [Rp]
    exact ⟨a, vs, e1, e2, RpK.mono e e3⟩
  · obtain ⟨a, vs, e1, e2, e3⟩ := h
    simp only [Rp]
    exact ⟨a, vs, e1, e2, RpT.mono e e3⟩
/-- a tuple, a list that is only read -/
theorem Vw.tup {ds : List D} {v : V} (h : Vw K P H (.tup ds) v) : ∃ a vs, v = .ref a ∧ P a = some (.tup vs) ∧ RpL K P ds vs := by
  have h : Rp K P (.tup ds) v := h
  simpa only [Rp] using h
theorem Vw.ct {ds : List D} {v : V} (h : Vw K P H (.ct ds) v) : ∃ a vs, v = .ref a ∧ SqT K P a vs ∧ RpL K P ds vs := by
  have h : Rp K P (.ct ds) v := h
  simpa only [Rp] using h
theorem Vw.sq {ds : List D} {v : V} (h : Vw K P H (.sq ds) v) : ∃ a vs, v = .ref a ∧ SqL K P a vs ∧ RpL K P ds vs := by
  have h : Rp K P (.sq ds) v := h
  simpa only [Rp] using h
theorem Wd.rd (w : Wd K F τ e σ P H) {r : R} {v : V} {d : D} (hr : RRp K F e σ P H r v) (h : rd e r = some d) : Vw K P H d v := by
  cases r with
  | v d =>
    cases h
    exact Rp.vw w.pH hr
  | f d =>
    cases h
    obtain ⟨l, rfl, _, _, ob, _⟩ := hr
    exact ob.vw
  | s i =>
    obtain ⟨hv, _⟩ := hr
    unfold Dv.rd at h
    have go : own e i = some d → Vw K P H d v := fun ho => by
      obtain ⟨l, e1, _, _, ob⟩ := w.ow i d ho
      rw [hv] at e1
      cases e1
      exact ob.vw
    cases c : e[i]? with
    | none =>
      simp only [c] at h
      cases h
    | some x =>
      simp only [c] at h
      cases x with
      | no => cases h
      | io _ =>
        cases h
        exact go (by unfold own; rw [c])
      | ow _ =>
        cases h
        exact go (by unfold own; rw [c])
      | im _ =>
        cases h
        obtain ⟨v', e1, e2⟩ := w.im i _ c
        rw [hv] at e1
        cases e1
        exact Rp.vw w.pH e2
/-- a handle, whatever becomes of the slots -/
def HV (K : PySem.W.Frag) (P : Hp) (σ : St) : R → V → Prop
  | .v d, v => Rp K P d v
  | .s i, v => σ[i]? = some (some v)
  | .f _, _ => False
theorem HV.mono {P' : Hp} {r : R} {v : V} (h : HV K P σ r v) (e1 : Same P P') : HV K P' σ r v := by
  cases r with
  | v d => exact Rp.mono e1 h
  | s i => exact h
  | f d => exact h
theorem RRp.hv {r : R} {v : V} (h : RRp K F e σ P H (nf r) v) : HV K P σ (nf r) v := by
  cases r with
  | v d => exact h
  | s i => exact h.1
  | f d => exact h
theorem Wd.rdH (w : Wd K F τ e σ P H) {r : R} {v : V} {d : D} (hr : HV K P σ r v) (h : Dv.rd e r = some d) : Vw K P H d v := by
  cases r with
  | v d =>
    cases h
    exact Rp.vw w.pH hr
  | f d => exact hr.elim
  | s i =>
    have hv : σ[i]? = some (some v) := hr
    unfold Dv.rd at h
    have go : own e i = some d → Vw K P H d v := fun ho => by
      obtain ⟨l, e1, _, _, ob⟩ := w.ow i d ho
      rw [hv] at e1
      cases e1
      exact ob.vw
    cases c : e[i]? with
    | none =>
      simp only [c] at h
      cases h
    | some x =>
      simp only [c] at h
      cases x with
      | no => cases h
      | io _ =>
        cases h
        exact go (by unfold own; rw [c])
      | ow _ =>
        cases h
        exact go (by unfold own; rw [c])
      | im _ =>
        cases h
        obtain ⟨v', e1, e2⟩ := w.im i _ c
        rw [hv] at e1
        cases e1
        exact Rp.vw w.pH e2
theorem Wd.fzH (w : Wd K F τ e σ P H) {r : R} {v : V} {d : D} {e' : DE} (hr : HV K P σ r v) (h : Dv.fz e r = some (d, e')) : ∃ P', Same P P' ∧ Wd K F τ e' σ P' H ∧ Rp K P' d v := by
  cases r with
  | v d => exact w.fz (r := .v d) hr h
  | f d => exact hr.elim
  | s i =>
    unfold Dv.fz at h
    cases c : e[i]? with
    | none =>
      simp only [c] at h
      cases h
    | some x =>
      cases x with
      | no =>
        simp only [c] at h
        cases h
      | io _ =>
        simp only [c] at h
        cases h
      | im d0 =>
        simp only [c] at h
        cases h
        obtain ⟨v', e1, e2⟩ := w.im i _ c
        rw [show σ[i]? = some (some v) from hr] at e1
        cases e1
        exact ⟨P, .refl P, w, e2⟩
      | ow d0 => exact w.fz (r := .s i) ⟨hr, d0, by unfold own; rw [c]⟩ (by unfold Dv.fz; exact h)
/-- a handle stays one while the state goes on (its slot is not given up) -/
theorem RRp.mono {e' : DE} {P' H' : Hp} {r : R} {v : V} (hr : RRp K F e σ P H (nf r) v) (e1 : Same P P') (w : Wd K F τ e' σ P' H') : ∀ d, rd e' (nf r) = some d → Vw K P' H' d v := by
  intro d h
  cases r with
  | v d0 =>
    cases h
    exact Rp.vw w.pH (Rp.mono e1 hr)
  | f d0 =>
    cases h
    exact Rp.vw w.pH (Rp.mono e1 (show Rp K P d v from hr))
  | s i =>
    obtain ⟨hv, _⟩ := hr
    have h : rd e' (.s i) = some d := h
    unfold Dv.rd at h
    have go : own e' i = some d → Vw K P' H' d v := fun ho => by
      obtain ⟨l, e1, _, _, ob⟩ := w.ow i d ho
      rw [hv] at e1
      cases e1
      exact ob.vw
    cases c : e'[i]? with
    | none =>
      simp only [c] at h
      cases h
    | some x =>
      simp only [c] at h
      cases x with
      | no => cases h
      | io _ =>
        cases h
        exact go (by unfold own; rw [c])
      | ow _ =>
        cases h
        exact go (by unfold own; rw [c])
      | im _ =>
        cases h
        obtain ⟨v', e1, e2⟩ := w.im i _ c
        rw [hv] at e1
        cases e1
        exact Rp.vw w.pH e2
/-- a new object, a fresh result -/
theorem Wd.new (w : Wd K F τ e σ P H) {p : Addr} {o : HO} (hp : H p = none) : Wd K F τ e σ P (upd H p o) := by
  have sm : Same H (upd H p o) := same_upd hp
  refine ⟨w.len, w.pH.trans sm, w.fH.trans sm, w.fP, w.im, fun i d q => ?_, w.io, w.nd⟩
  obtain ⟨l, e1, e2, e3, e4⟩ := w.ow i d q
  have ne : l ≠ p := fun z => by
    obtain ⟨x, hx, _⟩ := e4
    rw [z, hp] at hx
    cases hx
  exact ⟨l, e1, e2, e3, e4.mono (.refl P) (upd_ne ne)⟩
theorem Wd.newR (w : Wd K F τ e σ P H) {p : Addr} {o : HO} {d : D} (hp : H p = none) (h : ObO K P d o) : RRp K F e σ P (upd H p o) (.f d) (.ref p) := by
  refine ⟨p, rfl, w.fH.free hp, w.pH.free hp, ⟨o, upd_same, h⟩, fun i di q z => ?_⟩
  obtain ⟨l, e1, e2, e3, x, hx, _⟩ := w.ow i di q
  rw [e1] at z
  cases z
  rw [hp] at hx
  cases hx
/-- a new tuple is persistent at once -/
theorem Wd.newT (w : Wd K F τ e σ P H) {p : Addr} {ds : List D} {vs : List V} (hp : H p = none) (h : RpL K P ds vs) :
    Wd K F τ e σ (upd P p (.tup vs)) (upd H p (.tup vs)) ∧ Rp K (upd P p (.tup vs)) (.tup ds) (.ref p) ∧ Same P (upd P p (.tup vs)) := by
  have hpp : P p = none := w.pH.free hp
  refine ⟨(w.new hp).take upd_same (w.fH.free hp) hpp fun i di q z => ?_, ?_, same_upd hpp⟩
  · obtain ⟨l, e1, e2, e3, x, hx, _⟩ := w.ow i di q
    rw [e1] at z
    cases z
    rw [hp] at hx
    cases hx
  · simp only [Rp]
    exact ⟨p, vs, rfl, upd_same, RpL.mono (same_upd hpp) h⟩
/-- every tuple that is there becomes persistent -/
theorem Wd.tups (w : Wd K F τ e σ P H) : ∃ P', Same P P' ∧ Wd K F τ e σ P' H ∧ ∀ a vs, H a = some (.tup vs) → P' a = some (.tup vs) := by
  let P' : Hp := fun a => match P a with
    | some o => some o
    | none => match H a with
      | some (.tup vs) => some (.tup vs)
      | _ => none
  have s1 : Same P P' := fun a o q => by
    show (match P a with | some o => some o | none => _) = some o
    rw [q]
  have at_ : ∀ a o, P' a = some o → P a = some o ∨ (P a = none ∧ H a = some o ∧ isTup o = true) := fun a o q => by
    have q : (match P a with
      | some o => some o
      | none => match H a with
        | some (.tup vs) => some (.tup vs)
        | _ => none) = some o := q
    cases c : P a with
    | some x =>
      rw [c] at q
      exact .inl q
    | none =>
      rw [c] at q
      right
      cases c2 : H a with
      | none =>
        rw [c2] at q
        cases q
      | some y =>
        rw [c2] at q
        cases y <;> first | (cases q; done) | skip
        cases q
        exact ⟨rfl, rfl, rfl⟩
  refine ⟨P', s1, ⟨w.len, fun a o q => ?_, w.fH, fun a o q ht => ?_, fun i d q => ?_, fun i d q => ?_, w.io, w.nd⟩, fun a vs q => ?_⟩
  · rcases at_ a o q with z | ⟨_, z, _⟩
    · exact w.pH a o z
    · exact z
  · cases c : P' a with
    | none => rfl
    | some x =>
      rcases at_ a x c with z | ⟨_, z, zt⟩
      · rw [w.fP a o q ht] at z
        cases z
      · rw [w.fH a o q] at z
        cases z
        rw [ht] at zt
        cases zt
  · obtain ⟨v, h1, h2⟩ := w.im i d q
    exact ⟨v, h1, h2.mono s1⟩
  · obtain ⟨l, h1, h2, h3, o, h4, h5⟩ := w.ow i d q
    refine ⟨l, h1, h2, ?_, o, h4, h5.mono s1⟩
    cases c : P' l with
    | none => rfl
    | some x =>
      rcases at_ l x c with z | ⟨_, z, zt⟩
      · rw [h3] at z
        cases z
      · rw [h4] at z
        cases z
        rw [h5.nt] at zt
        cases zt
  · cases c : P a with
    | some x =>
      have := w.pH a x c
      rw [q] at this
      cases this
      exact s1 a _ c
    | none =>
      show (match P a with
        | some o => some o
        | none => match H a with
          | some (.tup vs) => some (.tup vs)
          | _ => none) = some (.tup vs)
      rw [c, q]
end
end Dv

set_option Elab.async false
set_option linter.all false
set_option maxRecDepth 100000
set_option maxHeartbeats 2000000
set_option autoImplicit false
/-! Dv2: expressions: what they compute (Option over the slots), and that HandS' readings hold of it. -/
namespace Dv
open PySem L2

abbrev EF := DE → Option (R × DE)
abbrev TF := DE → Option (Bool × DE)
abbrev AF := DE → Option (List R × DE)
abbrev OF := DE → Option (Option Int × DE)

section
variable (K : PySem.W.Frag)
def SndE (t : TE) (f : EF) : Prop := ∀ {F : Hp} {τ : St} {e : DE} {σ : St} {P H : Hp} {r : R} {e' : DE}, f e = some (r, e') → Wd K F τ e σ P H → ∀ Q : VK,
  (∀ v P' H', Same P P' → Wd K F τ e' σ P' H' → RRp K F e' σ P' H' r v → Q v H') → t σ H Q
def SndT (t : TT) (f : TF) : Prop := ∀ {F : Hp} {τ : St} {e : DE} {σ : St} {P H : Hp} {b : Bool} {e' : DE}, f e = some (b, e') → Wd K F τ e σ P H → ∀ Q : Bool → Hp → Prop,
  (∀ P' H', Same P P' → Wd K F τ e' σ P' H' → Q b H') → t σ H Q
/-- handles in a row -/
def HVs (P : Hp) (σ : St) : List R → List V → Prop
  | [], vs => vs = []
  | r :: rs, vs => ∃ v t, vs = v :: t ∧ HV K P σ r v ∧ HVs P σ rs t
def SndA (t : TA) (f : AF) : Prop := ∀ {F : Hp} {τ : St} {e : DE} {σ : St} {P H : Hp} {rs : List R} {e' : DE}, f e = some (rs, e') → Wd K F τ e σ P H → ∀ Q : List V → Hp → Prop,
  (∀ vs P' H', Same P P' → Wd K F τ e' σ P' H' → HVs K P' σ rs vs → Q vs H') → t σ H Q
def SndO (t : TO) (f : OF) : Prop := ∀ {F : Hp} {τ : St} {e : DE} {σ : St} {P H : Hp} {o : Option Int} {e' : DE}, f e = some (o, e') → Wd K F τ e σ P H → ∀ Q : Option Int → Hp → Prop,
  (∀ P' H', Same P P' → Wd K F τ e' σ P' H' → Q o H') → t σ H Q
/-- an operator by values -/
def SOp (r : R2) (op : D → D → Option R) : Prop := ∀ {F : Hp} {τ : St} {e : DE} {σ : St} {P H : Hp} {x y : V} {dx dy : D} {z : R}, Wd K F τ e σ P H → Vw K P H dx x → Vw K P H dy y → op dx dy = some z → ∀ Q : VK,
  (∀ v P' H', Same P P' → Wd K F τ e σ P' H' → RRp K F e σ P' H' z v → Q v H') → r x y H Q
def SUn (r : V → Hp → VK → Prop) (op : D → Option R) : Prop := ∀ {F : Hp} {τ : St} {e : DE} {σ : St} {P H : Hp} {x : V} {dx : D} {z : R}, Wd K F τ e σ P H → Vw K P H dx x → op dx = some z → ∀ Q : VK,
  (∀ v P' H', Same P P' → Wd K F τ e σ P' H' → RRp K F e σ P' H' z v → Q v H') → r x H Q
def VwL (P H : Hp) : List D → List V → Prop
  | [], vs => vs = []
  | d :: ds, vs => ∃ v t, vs = v :: t ∧ Vw K P H d v ∧ VwL P H ds t
def SCb (r : List V → Hp → VK → Prop) (op : List D → Option R) : Prop := ∀ {F : Hp} {τ : St} {e : DE} {σ : St} {P H : Hp} {vs : List V} {ds : List D} {z : R}, Wd K F τ e σ P H → VwL K P H ds vs → op ds = some z → ∀ Q : VK,
  (∀ v P' H', Same P P' → Wd K F τ e σ P' H' → RRp K F e σ P' H' z v → Q v H') → r vs H Q
def SMt (r : V → List V → Hp → VK → Prop) (op : D → List D → Option R) : Prop := ∀ {F : Hp} {τ : St} {e : DE} {σ : St} {P H : Hp} {x : V} {dx : D} {vs : List V} {ds : List D} {z : R}, Wd K F τ e σ P H → Vw K P H dx x → VwL K P H ds vs → op dx ds = some z → ∀ Q : VK,
  (∀ v P' H', Same P P' → Wd K F τ e σ P' H' → RRp K F e σ P' H' z v → Q v H') → r x vs H Q
def SSl (r : V → Option Int → Option Int → Hp → VK → Prop) (op : D → Option Int → Option Int → Option R) : Prop := ∀ {F : Hp} {τ : St} {e : DE} {σ : St} {P H : Hp} {x : V} {dx : D} {lo hi : Option Int} {z : R}, Wd K F τ e σ P H → Vw K P H dx x → op dx lo hi = some z → ∀ Q : VK,
  (∀ v P' H', Same P P' → Wd K F τ e σ P' H' → RRp K F e σ P' H' z v → Q v H') → r x lo hi H Q
end

/-! ### what they compute -/
namespace E
def var (i : Nat) : EF := fun e => match e[i]? with
  | some (.im d) => some (.v d, e)
  | some (.ow _) => some (.s i, e)
  | some (.io _) => some (.s i, e)
  | _ => none
def c (d : D) : EF := fun e => some (.v d, e)
def bin (op : D → D → Option R) (a b : EF) : EF := fun e => (a e).bind fun p => (b p.2).bind fun q => (rd q.2 p.1).bind fun x => (rd q.2 q.1).bind fun y => (op x y).map fun z => (z, q.2)
def un (op : D → Option R) (a : EF) : EF := fun e => (a e).bind fun p => (rd p.2 p.1).bind fun x => (op x).map fun z => (z, p.2)
def bool (r : Option D) : Option Bool := match r with
  | some (.bl b) => some b
  | _ => none
def and (a b : EF) : EF := fun e => (a e).bind fun p => (bool (rd p.2 p.1)).bind fun k => if k then b p.2 else some (.v (.bl false), p.2)
def or (a b : EF) : EF := fun e => (a e).bind fun p => (bool (rd p.2 p.1)).bind fun k => if k then some (.v (.bl true), p.2) else b p.2
def not (a : EF) : EF := fun e => (a e).bind fun p => (bool (rd p.2 p.1)).map fun k => (.v (.bl (!k)), p.2)
def ite (t : TF) (a b : EF) : EF := fun e => (t e).bind fun p => if p.1 then a p.2 else b p.2
def nil : AF := fun e => some ([], e)
def cons (a : EF) (as : AF) : AF := fun e => (a e).bind fun p => (as p.2).map fun q => (nf p.1 :: q.1, q.2)
/-- handles read -/
def rds (e : DE) : List R → Option (List D)
  | [] => some []
  | r :: rs => (rd e r).bind fun d => (rds e rs).map fun ds => d :: ds
/-- handles as persistent data -/
def fzs : DE → List R → Option (List D × DE)
  | e, [] => some ([], e)
  | e, r :: rs => (fz e r).bind fun p => (fzs p.2 rs).map fun q => (p.1 :: q.1, q.2)
def cb (op : List D → Option R) (as : AF) : EF := fun e => (as e).bind fun p => (rds p.2 p.1).bind fun ds => (op ds).map fun z => (z, p.2)
def tyD (T : String) : D → Bool
  | .lst _ => T == "list"
  | .str _ => T == "str"
  | _ => false
def mt (T : String) (op : D → List D → Option R) (o : EF) (as : AF) : EF := fun e => (o e).bind fun p => (rd p.2 p.1).bind fun x0 => if tyD T x0 = true then (as p.2).bind fun q => (rd q.2 p.1).bind fun x => (rds q.2 q.1).bind fun ds => (op x ds).map fun z => (z, q.2) else none
def lst (as : AF) : EF := fun e => (as e).bind fun p => (fzs p.2 p.1).bind fun q => if q.1.length ≤ 1000000 then some (.f (.lst q.1), q.2) else none
def tup (as : AF) : EF := fun e => (as e).bind fun p => (fzs p.2 p.1).bind fun q => if q.1.length ≤ 1000000 then some (.v (.tup q.1), q.2) else none
def dK : EF := fun e => some (.f (.dK []), e)
def dT : EF := fun e => some (.f (.dT []), e)
def noPart : OF := fun e => some (none, e)
def part (a : EF) : OF := fun e => (a e).bind fun p => match rd p.2 p.1 with
  | some (.int i) => some (some i, p.2)
  | _ => none
def slice (op : D → Option Int → Option Int → Option R) (a : EF) (lo hi : OF) : EF := fun e => (a e).bind fun p => (lo p.2).bind fun l => (hi l.2).bind fun h => (rd h.2 p.1).bind fun x => (op x l.1 h.1).map fun z => (z, h.2)
/-- a chain of two comparisons -/
def chain (op op' : D → D → Option R) (a b c : EF) : EF := fun e => (a e).bind fun p => (b p.2).bind fun q => (rd q.2 p.1).bind fun x => (rd q.2 q.1).bind fun y => (op x y).bind fun z => (bool (rd q.2 z)).bind fun k =>
  if k then (c q.2).bind fun r => (rd r.2 q.1).bind fun y' => (rd r.2 r.1).bind fun w => (op' y' w).map fun z' => (z', r.2) else some (.v (.bl false), q.2)
end E
namespace T
def ofE (a : EF) : TF := fun e => (a e).bind fun p => (E.bool (rd p.2 p.1)).map fun k => (k, p.2)
def truth : D → Option Bool
  | .non => some false
  | .bl b => some b
  | .int i => some (i != 0)
  | .str s => if s.length ≤ 1000000 then some ((s.length : Int) != 0) else none
  | .lst ds => some (!ds.isEmpty)
  | .sq ds => some (!ds.isEmpty)
  | .tup ds => some (!ds.isEmpty)
  | .ct ds => some (!ds.isEmpty)
  | _ => none
def tru (a : EF) : TF := fun e => (a e).bind fun p => (rd p.2 p.1).bind fun d => (truth d).map fun k => (k, p.2)
def and (a b : TF) : TF := fun e => (a e).bind fun p => if p.1 then b p.2 else some (false, p.2)
def or (a b : TF) : TF := fun e => (a e).bind fun p => if p.1 then some (true, p.2) else b p.2
def not (a : TF) : TF := fun e => (a e).map fun p => (!p.1, p.2)
end T

section
variable {K : PySem.W.Frag}
theorem snd_var {i : Nat} : SndE K (tVar i) (E.var i) := by
  intro F τ e σ P H r e' h w Q q
  unfold E.var at h
  cases c : e[i]? with
  | none =>
    simp only [c] at h
    cases h
  | some x =>
    simp only [c] at h
    cases x with
    | no => cases h
    | im d =>
      cases h
      obtain ⟨v, h1, h2⟩ := w.im i d c
      exact ⟨v, h1, q v P H (.refl P) w h2⟩
    | ow d =>
      cases h
      have ho : own e i = some d := by unfold own; rw [c]
      obtain ⟨l, h1, _⟩ := w.ow i d ho
      exact ⟨_, h1, q _ P H (.refl P) w ⟨h1, d, ho⟩⟩
    | io d =>
      cases h
      have ho : own e i = some d := by unfold own; rw [c]
      obtain ⟨l, h1, _⟩ := w.ow i d ho
      exact ⟨_, h1, q _ P H (.refl P) w ⟨h1, d, ho⟩⟩
theorem snd_int {n : Int} : SndE K (tC (.int n)) (E.c (.int n)) := fun h w Q q => by
  cases h
  exact q _ _ _ (.refl _) w rfl
theorem snd_bl {b : Bool} : SndE K (tC (.bl b)) (E.c (.bl b)) := fun h w Q q => by
  cases h
  exact q _ _ _ (.refl _) w rfl
theorem snd_non : SndE K (tC .non) (E.c .non) := fun h w Q q => by
  cases h
  exact q _ _ _ (.refl _) w rfl
theorem snd_str {x : Str} : SndE K (tC (.str x)) (E.c (.str x)) := fun h w Q q => by
  cases h
  exact q _ _ _ (.refl _) w rfl
theorem obind {α β : Type} {o : Option α} {f : α → Option β} {b : β} (h : o.bind f = some b) : ∃ a, o = some a ∧ f a = some b := by
  cases o with
  | none => cases h
  | some a => exact ⟨a, rfl, h⟩
theorem omap {α β : Type} {o : Option α} {f : α → β} {b : β} (h : o.map f = some b) : ∃ a, o = some a ∧ f a = b := by
  cases o with
  | none => cases h
  | some a => exact ⟨a, rfl, Option.some.inj h⟩
theorem rd_nf (e : DE) (r : R) : rd e (nf r) = rd e r := by cases r <;> rfl
/-- an operand evaluated: its handle -/
theorem SndE.hv {t : TE} {f : EF} (h : SndE K t f) {F : Hp} {τ : St} {e : DE} {σ : St} {P H : Hp} {r : R} {e' : DE} (hf : f e = some (r, e')) (w : Wd K F τ e σ P H) {Q : VK}
    (q : ∀ v P' H', Same P P' → Wd K F τ e' σ P' H' → HV K P' σ (nf r) v → Q v H') : t σ H Q :=
  h hf w Q fun v P1 H1 s1 w1 r1 => by
    obtain ⟨P2, s2, w2, r2⟩ := w1.pers r1
    exact q v P2 H1 (s1.trans s2) w2 r2.hv
theorem snd_op {r : R2} {op : D → D → Option R} {ta tb : TE} {fa fb : EF} (hr : SOp K r op) (ha : SndE K ta fa) (hb : SndE K tb fb) : SndE K (tOp r ta tb) (E.bin op fa fb) := by
  intro F τ e σ P H z e' h w Q q
  obtain ⟨⟨ra, e1⟩, h1, h⟩ := obind h
  obtain ⟨⟨rb, e2⟩, h2, h⟩ := obind h
  obtain ⟨x, hx, h⟩ := obind h
  obtain ⟨y, hy, h⟩ := obind h
  obtain ⟨z', hz, h⟩ := omap h
  cases h
  refine ha.hv h1 w fun v1 P1 H1 s1 w1 hv1 => ?_
  refine hb.hv h2 w1 fun v2 P2 H2 s2 w2 hv2 => ?_
  exact hr w2 (w2.rdH (hv1.mono s2) (by rw [rd_nf]; exact hx)) (w2.rdH hv2 (by rw [rd_nf]; exact hy)) hz Q fun v P' H' s w' r' => q v P' H' ((s1.trans s2).trans s) w' r'
theorem snd_un {r : V → Hp → VK → Prop} {op : D → Option R} {ta : TE} {fa : EF} (hr : SUn K r op) (ha : SndE K ta fa) : SndE K (tUn r ta) (E.un op fa) := by
  intro F τ e σ P H z e' h w Q q
  obtain ⟨⟨ra, e1⟩, h1, h⟩ := obind h
  obtain ⟨x, hx, h⟩ := obind h
  obtain ⟨z', hz, h⟩ := omap h
  cases h
  refine ha.hv h1 w fun v1 P1 H1 s1 w1 hv1 => ?_
  exact hr w1 (w1.rdH hv1 (by rw [rd_nf]; exact hx)) hz Q fun v P' H' s w' r' => q v P' H' (s1.trans s) w' r'
theorem bool_some {r : Option D} {b : Bool} (h : E.bool r = some b) : r = some (.bl b) := by
  unfold E.bool at h
  cases r with
  | none => cases h
  | some d =>
    cases d <;> first | (cases h; done) | skip
    cases h
    rfl
theorem Wd.bl {F : Hp} {τ : St} {e : DE} {σ : St} {P H : Hp} (w : Wd K F τ e σ P H) {r : R} {v : V} {b : Bool} (hv : HV K P σ (nf r) v) (h : E.bool (Dv.rd e r) = some b) : v = .bl b :=
  show Vw K P H (.bl b) v from w.rdH (r := nf r) hv (by rw [rd_nf]; exact bool_some h)
theorem snd_and {ta tb : TE} {fa fb : EF} (ha : SndE K ta fa) (hb : SndE K tb fb) : SndE K (tAndV ta tb) (E.and fa fb) := by
  intro F τ e σ P H z e' h w Q q
  obtain ⟨⟨ra, e1⟩, h1, h⟩ := obind h
  obtain ⟨k, hk, h⟩ := obind h
  refine ha.hv h1 w fun v1 P1 H1 s1 w1 hv1 => ⟨k, w1.bl hv1 hk, ?_⟩
  cases k with
  | true =>
    rw [if_pos rfl]
    exact hb h w1 Q fun v P' H' s w' r' => q v P' H' (s1.trans s) w' r'
  | false =>
    rw [if_neg Bool.false_ne_true]
    cases h
    exact q _ P1 H1 s1 w1 rfl
theorem snd_or {ta tb : TE} {fa fb : EF} (ha : SndE K ta fa) (hb : SndE K tb fb) : SndE K (tOrV ta tb) (E.or fa fb) := by
  intro F τ e σ P H z e' h w Q q
  obtain ⟨⟨ra, e1⟩, h1, h⟩ := obind h
  obtain ⟨k, hk, h⟩ := obind h
  refine ha.hv h1 w fun v1 P1 H1 s1 w1 hv1 => ⟨k, w1.bl hv1 hk, ?_⟩
  cases k with
  | true =>
    rw [if_pos rfl]
    cases h
    exact q _ P1 H1 s1 w1 rfl
  | false =>
    rw [if_neg Bool.false_ne_true]
    exact hb h w1 Q fun v P' H' s w' r' => q v P' H' (s1.trans s) w' r'
theorem snd_not {ta : TE} {fa : EF} (ha : SndE K ta fa) : SndE K (tNotV ta) (E.not fa) := by
  intro F τ e σ P H z e' h w Q q
  obtain ⟨⟨ra, e1⟩, h1, h⟩ := obind h
  obtain ⟨k, hk, h⟩ := omap h
  cases h
  refine ha.hv h1 w fun v1 P1 H1 s1 w1 hv1 => ⟨k, w1.bl hv1 hk, ?_⟩
  exact q _ P1 H1 s1 w1 rfl
theorem snd_ite {t : TT} {f : TF} {ta tb : TE} {fa fb : EF} (ht : SndT K t f) (ha : SndE K ta fa) (hb : SndE K tb fb) : SndE K (tIf t ta tb) (E.ite f fa fb) := by
  intro F τ e σ P H z e' h w Q q
  obtain ⟨⟨k, e1⟩, h1, h⟩ := obind h
  refine ht h1 w _ fun P1 H1 s1 w1 => ?_
  cases k with
  | true => exact iteT (ha h w1 Q fun v P' H' s w' r' => q v P' H' (s1.trans s) w' r')
  | false => exact iteF (hb h w1 Q fun v P' H' s w' r' => q v P' H' (s1.trans s) w' r')
/-! tests -/
theorem snd_tB {ta : TE} {fa : EF} (ha : SndE K ta fa) : SndT K (tB ta) (T.ofE fa) := by
  intro F τ e σ P H b e' h w Q q
  obtain ⟨⟨ra, e1⟩, h1, h⟩ := obind h
  obtain ⟨k, hk, h⟩ := omap h
  cases h
  exact ha.hv h1 w fun v1 P1 H1 s1 w1 hv1 => ⟨b, w1.bl hv1 hk, q P1 H1 s1 w1⟩
theorem snd_tT {ta : TE} {fa : EF} (ha : SndE K ta fa) : SndT K (tTest ta) (T.ofE fa) := by
  intro F τ e σ P H b e' h w Q q
  obtain ⟨⟨ra, e1⟩, h1, h⟩ := obind h
  obtain ⟨k, hk, h⟩ := omap h
  cases h
  exact ha.hv h1 w fun v1 P1 H1 s1 w1 hv1 => ⟨b, w1.bl hv1 hk, q P1 H1 s1 w1⟩
theorem sz_ok {n : Nat} (h : n ≤ 1000000) : n ≤ sizeLine := Nat.le_trans h (by decide)
theorem sz_okL {n : Nat} (h : n < 1000000) : n < sizeLine := Nat.lt_of_lt_of_le h (by decide)
theorem RpL.emp {P : Hp} {ds : List D} {vs : List V} (h : RpL K P ds vs) : vs.isEmpty = ds.isEmpty := by
  have e := h.len
  cases vs <;> cases ds <;> first | rfl | simp at e
theorem truth_ok {F : Hp} {τ : St} {e : DE} {σ : St} {P H : Hp} (w : Wd K F τ e σ P H) {d : D} {v : V} {k : Bool} (hv : Vw K P H d v) (h : T.truth d = some k) : TruV K v H k := by
  cases d with
  | non =>
    cases h
    obtain rfl : v = .non := hv
    rfl
  | bl b =>
    cases h
    obtain rfl : v = .bl _ := hv
    rfl
  | int b =>
    cases h
    obtain rfl : v = .int _ := hv
    rfl
  | str s =>
    obtain rfl : v = .str _ := hv
    have h' : (if s.length ≤ 1000000 then some ((s.length : Int) != 0) else none) = some k := h
    split at h'
    · rename_i c
      cases h'
      exact ⟨sz_ok c, rfl⟩
    · cases h'
  | lst ds =>
    cases h
    obtain ⟨a, vs, rfl, e1, e2⟩ := hv
    exact .inl ⟨vs, .of e1, by rw [e2.emp]⟩
  | sq ds =>
    cases h
    obtain ⟨a, vs, rfl, e1, e2⟩ := hv.sq
    exact .inl ⟨vs, (ExR.of w.pH).seq e1, by rw [e2.emp]⟩
  | tup ds =>
    cases h
    obtain ⟨a, vs, rfl, e1, e2⟩ := hv.tup
    exact .inr (.inl ⟨vs, .of (w.pH _ _ e1), by rw [e2.emp]⟩)
  | ct ds =>
    cases h
    obtain ⟨a, vs, rfl, e1, e2⟩ := hv.ct
    exact .inr (.inl ⟨vs, (ExR.of w.pH).sqt e1, by rw [e2.emp]⟩)
  | dK _ => cases h
  | dT _ => cases h
theorem snd_tru {ta : TE} {fa : EF} (ha : SndE K ta fa) : SndT K (fun σ H Q => ta σ H fun x H' => ∃ k, TruV K x H' k ∧ Q k H') (T.tru fa) := by
  intro F τ e σ P H b e' h w Q q
  obtain ⟨⟨ra, e1⟩, h1, h⟩ := obind h
  obtain ⟨d, hd, h⟩ := obind h
  obtain ⟨k, hk, h⟩ := omap h
  cases h
  exact ha.hv h1 w fun v1 P1 H1 s1 w1 hv1 => ⟨b, truth_ok w1 (w1.rdH hv1 (by rw [rd_nf]; exact hd)) hk, q P1 H1 s1 w1⟩
theorem snd_tand {ta tb : TT} {fa fb : TF} (ha : SndT K ta fa) (hb : SndT K tb fb) : SndT K (tAnd ta tb) (T.and fa fb) := by
  intro F τ e σ P H b e' h w Q q
  obtain ⟨⟨k, e1⟩, h1, h⟩ := obind h
  refine ha h1 w _ fun P1 H1 s1 w1 => ?_
  cases k with
  | true => exact iteT (hb h w1 Q fun P' H' s w' => q P' H' (s1.trans s) w')
  | false =>
    cases h
    exact iteF (q P1 H1 s1 w1)
theorem snd_tor {ta tb : TT} {fa fb : TF} (ha : SndT K ta fa) (hb : SndT K tb fb) : SndT K (tOr ta tb) (T.or fa fb) := by
  intro F τ e σ P H b e' h w Q q
  obtain ⟨⟨k, e1⟩, h1, h⟩ := obind h
  refine ha h1 w _ fun P1 H1 s1 w1 => ?_
  cases k with
  | true =>
    cases h
    exact iteT (q P1 H1 s1 w1)
  | false => exact iteF (hb h w1 Q fun P' H' s w' => q P' H' (s1.trans s) w')
theorem snd_tnot {ta : TT} {fa : TF} (ha : SndT K ta fa) : SndT K (tNot ta) (T.not fa) := by
  intro F τ e σ P H b e' h w Q q
  obtain ⟨⟨k, e1⟩, h1, h⟩ := omap h
  cases h
  exact ha h1 w _ fun P1 H1 s1 w1 => q P1 H1 s1 w1
/-! rows of arguments -/
theorem HVs.mono {P P' : Hp} {σ : St} (s : Same P P') : ∀ {rs : List R} {vs : List V}, HVs K P σ rs vs → HVs K P' σ rs vs
  | [], _, h => h
  | r :: rs, _, ⟨v, t, e, h, h'⟩ => ⟨v, t, e, h.mono s, HVs.mono s h'⟩
theorem snd_nil : SndA K tNil E.nil := fun h w Q q => by
  cases h
  exact q [] _ _ (.refl _) w rfl
theorem snd_cons {t : TE} {f : EF} {ta : TA} {fa : AF} (h1 : SndE K t f) (h2 : SndA K ta fa) : SndA K (tCons t ta) (E.cons f fa) := by
  intro F τ e σ P H z e' h w Q q
  obtain ⟨⟨ra, e1⟩, g1, h⟩ := obind h
  obtain ⟨⟨rs, e2⟩, g2, h⟩ := omap h
  cases h
  refine h1.hv g1 w fun v1 P1 H1 s1 w1 hv1 => ?_
  exact h2 g2 w1 _ fun vs P2 H2 s2 w2 hv2 => q _ P2 H2 (s1.trans s2) w2 ⟨v1, vs, rfl, hv1.mono s2, hv2⟩
theorem rds_ok {F : Hp} {τ : St} {e : DE} {σ : St} {P H : Hp} (w : Wd K F τ e σ P H) : ∀ {rs : List R} {vs : List V} {ds : List D}, HVs K P σ rs vs → E.rds e rs = some ds → VwL K P H ds vs
  | [], _, _, h, g => by
    cases g
    exact h
  | r :: rs, _, _, ⟨v, t, ev, h, h'⟩, g => by
    obtain ⟨d, g1, g⟩ := obind g
    obtain ⟨ds, g2, g⟩ := omap g
    cases g
    exact ⟨v, t, ev, w.rdH h g1, rds_ok w h' g2⟩
theorem fzs_ok {F : Hp} {τ : St} {σ : St} {H : Hp} : ∀ {rs : List R} {vs : List V} {ds : List D} {e e' : DE} {P : Hp}, Wd K F τ e σ P H → HVs K P σ rs vs → E.fzs e rs = some (ds, e') → ∃ P', Same P P' ∧ Wd K F τ e' σ P' H ∧ RpL K P' ds vs
  | [], _, _, _, _, P, w, h, g => by
    cases g
    refine ⟨P, .refl P, w, ?_⟩
    rw [show _ = [] from h]
    exact .nil
  | r :: rs, _, _, _, _, P, w, ⟨v, t, ev, h, h'⟩, g => by
    obtain ⟨⟨d, e1⟩, g1, g⟩ := obind g
    obtain ⟨⟨ds, e2⟩, g2, g⟩ := omap g
    cases g
    obtain ⟨P1, s1, w1, r1⟩ := w.fzH h g1
    obtain ⟨P2, s2, w2, r2⟩ := fzs_ok w1 (h'.mono s1) g2
    refine ⟨P2, s1.trans s2, w2, ?_⟩
    rw [ev]
    exact .cons (r1.mono s2) r2
theorem snd_lst {ta : TA} {fa : AF} (ha : SndA K ta fa) : SndE K (tLst ta) (E.lst fa) := by
  intro F τ e σ P H z e' h w Q q
  obtain ⟨⟨rs, e1⟩, h1, h⟩ := obind h
  obtain ⟨⟨ds, e2⟩, h2, h⟩ := obind h
  refine ha h1 w _ fun vs P1 H1 s1 w1 hv => ?_
  obtain ⟨P2, s2, w2, r2⟩ := fzs_ok w1 hv h2
  dsimp only at h
  split at h
  · rename_i hl
    cases h
    refine ⟨by rw [r2.len]; exact sz_ok hl, fun p hp => ?_⟩
    exact q _ P2 _ (s1.trans s2) (w2.new hp) (w2.newR hp r2)
  · cases h
theorem snd_tup {ta : TA} {fa : AF} (ha : SndA K ta fa) : SndE K (tTup ta) (E.tup fa) := by
  intro F τ e σ P H z e' h w Q q
  obtain ⟨⟨rs, e1⟩, h1, h⟩ := obind h
  obtain ⟨⟨ds, e2⟩, h2, h⟩ := obind h
  refine ha h1 w _ fun vs P1 H1 s1 w1 hv => ?_
  obtain ⟨P2, s2, w2, r2⟩ := fzs_ok w1 hv h2
  dsimp only at h
  split at h
  · rename_i hl
    cases h
    refine ⟨by rw [r2.len]; exact sz_ok hl, fun p hp => ?_⟩
    obtain ⟨w3, r3, s3⟩ := w2.newT hp r2
    exact q _ _ _ ((s1.trans s2).trans s3) w3 r3
  · cases h
theorem RpK.nil {P : Hp} : RpK K P [] [] := by simp only [RpK]
theorem RpT.nil {P : Hp} : RpT K P [] [] := by simp only [RpT]
theorem snd_dK : SndE K tDNewK E.dK := fun {_ _ _ _ P _ _ _} h w Q q => by
  cases h
  exact fun p hp => q _ _ _ (.refl _) (w.new hp) (w.newR hp (o := .dK []) (RpK.nil (K := K) (P := P)))
theorem snd_dT : SndE K tDNewT E.dT := fun {_ _ _ _ P _ _ _} h w Q q => by
  cases h
  exact fun p hp => q _ _ _ (.refl _) (w.new hp) (w.newR hp (o := .dT []) (RpT.nil (K := K) (P := P)))
theorem snd_cb {r : List V → Hp → VK → Prop} {op : List D → Option R} {ta : TA} {fa : AF} (hr : SCb K r op) (ha : SndA K ta fa) : SndE K (tCB r ta) (E.cb op fa) := by
  intro F τ e σ P H z e' h w Q q
  obtain ⟨⟨rs, e1⟩, h1, h⟩ := obind h
  obtain ⟨ds, h2, h⟩ := obind h
  obtain ⟨z', hz, h⟩ := omap h
  cases h
  refine ha h1 w _ fun vs P1 H1 s1 w1 hv => ?_
  exact hr w1 (rds_ok w1 hv h2) hz Q fun v P' H' s w' r' => q v P' H' (s1.trans s) w' r'
theorem tyD_ok {P H : Hp} {T : String} {d : D} {x : V} (h : Vw K P H d x) (ht : E.tyD T d = true) : tyV K T x H := by
  cases d <;> first | (cases ht; done) | skip
  · obtain rfl : x = .str _ := h
    exact eq_of_beq ht
  · obtain ⟨a, vs, rfl, e1, e2⟩ := h
    exact .inl ⟨eq_of_beq ht, vs, .of e1⟩
theorem snd_mt {T : String} {r : V → List V → Hp → VK → Prop} {op : D → List D → Option R} {to : TE} {fo : EF} {ta : TA} {fa : AF} (hr : SMt K r op) (ho : SndE K to fo) (ha : SndA K ta fa) :
    SndE K (tBM K T r to ta) (E.mt T op fo fa) := by
  intro F τ e σ P H z e' h w Q q
  obtain ⟨⟨ro, e1⟩, h1, h⟩ := obind h
  obtain ⟨x0, hx0, h⟩ := obind h
  dsimp only at h
  split at h
  · rename_i ht
    obtain ⟨⟨rs, e2⟩, h2, h⟩ := obind h
    obtain ⟨x, hx, h⟩ := obind h
    obtain ⟨ds, h3, h⟩ := obind h
    obtain ⟨z', hz, h⟩ := omap h
    cases h
    refine ho.hv h1 w fun v1 P1 H1 s1 w1 hv1 => ⟨tyD_ok (w1.rdH hv1 (by rw [rd_nf]; exact hx0)) ht, ?_⟩
    refine ha h2 w1 _ fun vs P2 H2 s2 w2 hv => ?_
    exact hr w2 (w2.rdH (hv1.mono s2) (by rw [rd_nf]; exact hx)) (rds_ok w2 hv h3) hz Q fun v P' H' s w' r' => q v P' H' ((s1.trans s2).trans s) w' r'
  · cases h
theorem snd_mt0 {T : String} {r : V → List V → Hp → VK → Prop} {op : D → List D → Option R} {to : TE} {fo : EF} (hr : SMt K r op) (ho : SndE K to fo) :
    SndE K (tBM0 K T r to) (E.mt T op fo E.nil) := fun {F τ e σ P H z e'} h w Q q =>
  snd_mt (T := T) hr ho snd_nil h w Q q
theorem snd_m0 {r : V → List V → Hp → VK → Prop} {op : D → List D → Option R} {to : TE} {fo : EF} (hr : SMt K r op) (ho : SndE K to fo) :
    SndE K (tM0 r to) (E.mt "str" op fo E.nil) := fun {F τ e σ P H z e'} h w Q q => by
  have a := snd_mt (T := "str") hr ho snd_nil h w Q q
  obtain ⟨⟨ro, e1⟩, h1, h⟩ := obind h
  obtain ⟨x0, hx0, h⟩ := obind h
  dsimp only at h
  split at h
  · rename_i ht
    obtain ⟨⟨rs, e2⟩, h2, h⟩ := obind h
    obtain ⟨x, hx, h⟩ := obind h
    obtain ⟨ds, h3, h⟩ := obind h
    obtain ⟨z', hz, h⟩ := omap h
    cases h
    cases h2
    cases h3
    refine ho.hv h1 w fun v1 P1 H1 s1 w1 hv1 => ⟨?_, ?_⟩
    · have y := w1.rdH hv1 (by rw [rd_nf]; exact hx0)
      cases x0 <;> first | (cases ht; done) | exact ⟨_, y⟩
    · exact hr w1 (w1.rdH hv1 (by rw [rd_nf]; exact hx)) (show VwL K P1 H1 [] [] from rfl) hz Q fun v P' H' s w' r' => q v P' H' (s1.trans s) w' r'
  · cases h
theorem snd_m1 {r : V → List V → Hp → VK → Prop} {op : D → List D → Option R} {to te : TE} {fo fe : EF} (hr : SMt K r op) (ho : SndE K to fo) (he : SndE K te fe) :
    SndE K (tM1 r to te) (E.mt "str" op fo (E.cons fe E.nil)) := fun {F τ e σ P H z e'} h w Q q => by
  obtain ⟨⟨ro, e1⟩, h1, h⟩ := obind h
  obtain ⟨x0, hx0, h⟩ := obind h
  dsimp only at h
  split at h
  · rename_i ht
    obtain ⟨⟨rs, e2⟩, h2, h⟩ := obind h
    obtain ⟨x, hx, h⟩ := obind h
    obtain ⟨ds, h3, h⟩ := obind h
    obtain ⟨z', hz, h⟩ := omap h
    cases h
    refine ho.hv h1 w fun v1 P1 H1 s1 w1 hv1 => ⟨?_, ?_⟩
    · have y := w1.rdH hv1 (by rw [rd_nf]; exact hx0)
      cases x0 <;> first | (cases ht; done) | exact ⟨_, y⟩
    · obtain ⟨⟨r1, e3⟩, g1, h2⟩ := obind h2
      cases h2
      refine he.hv g1 w1 fun v2 P2 H2 s2 w2 hv2 => ?_
      exact hr w2 (w2.rdH (hv1.mono s2) (by rw [rd_nf]; exact hx)) (rds_ok w2 (show HVs K P2 σ [nf r1] [v2] from ⟨v2, [], rfl, hv2, rfl⟩) h3) hz Q fun v P' H' s w' r' => q v P' H' ((s1.trans s2).trans s) w' r'
  · cases h
/-! slices, chains -/
theorem snd_noPart : SndO K tNoPart E.noPart := fun h w Q q => by
  cases h
  exact q _ _ (.refl _) w
theorem snd_part {t : TE} {f : EF} (h1 : SndE K t f) : SndO K (tPart t) (E.part f) := by
  intro F τ e σ P H z e' h w Q q
  obtain ⟨⟨ro, e1⟩, g1, h⟩ := obind h
  dsimp only at h
  split at h
  · rename_i i hi
    cases h
    refine h1.hv g1 w fun v1 P1 H1 s1 w1 hv1 => ⟨i, ?_, q P1 H1 s1 w1⟩
    exact show Vw K P1 H1 (.int i) v1 from w1.rdH hv1 (by rw [rd_nf]; exact hi)
  · cases h
theorem snd_slice {r : V → Option Int → Option Int → Hp → VK → Prop} {op : D → Option Int → Option Int → Option R} {te : TE} {fe : EF} {tl th : TO} {fl fh : OF} (hr : SSl K r op) (he : SndE K te fe) (hl : SndO K tl fl) (hh : SndO K th fh) :
    SndE K (tSl r te tl th) (E.slice op fe fl fh) := by
  intro F τ e σ P H z e' h w Q q
  obtain ⟨⟨ro, e1⟩, h1, h⟩ := obind h
  obtain ⟨⟨lo, e2⟩, h2, h⟩ := obind h
  obtain ⟨⟨hi, e3⟩, h3, h⟩ := obind h
  obtain ⟨x, hx, h⟩ := obind h
  obtain ⟨z', hz, h⟩ := omap h
  cases h
  refine he.hv h1 w fun v1 P1 H1 s1 w1 hv1 => ?_
  refine hl h2 w1 _ fun P2 H2 s2 w2 => hh h3 w2 _ fun P3 H3 s3 w3 => ?_
  exact hr w3 (w3.rdH (hv1.mono (s2.trans s3)) (by rw [rd_nf]; exact hx)) hz Q fun v P' H' s w' r' => q v P' H' (((s1.trans s2).trans s3).trans s) w' r'
theorem snd_chain {r r' : R2} {op op' : D → D → Option R} {ta tb tc : TE} {fa fb fc : EF} (hr : SOp K r op) (hr' : SOp K r' op') (ha : SndE K ta fa) (hb : SndE K tb fb) (hc : SndE K tc fc) : SndE K (tChain r r' ta tb tc) (E.chain op op' fa fb fc) := by
  intro F τ e σ P H z e' h w Q q
  obtain ⟨⟨ra, e1⟩, h1, h⟩ := obind h
  obtain ⟨⟨rb, e2⟩, h2, h⟩ := obind h
  obtain ⟨x, hx, h⟩ := obind h
  obtain ⟨y, hy, h⟩ := obind h
  obtain ⟨z1, hz1, h⟩ := obind h
  obtain ⟨k, hk, h⟩ := obind h
  refine ha.hv h1 w fun v1 P1 H1 s1 w1 hv1 => ?_
  refine hb.hv h2 w1 fun v2 P2 H2 s2 w2 hv2 => ?_
  refine hr w2 (w2.rdH (hv1.mono s2) (by rw [rd_nf]; exact hx)) (w2.rdH hv2 (by rw [rd_nf]; exact hy)) hz1 _ fun v3 P3 H3 s3 w3 r3 => ?_
  obtain ⟨P4, s4, w4, r4⟩ := w3.pers r3
  refine ⟨k, w4.bl r4.hv hk, ?_⟩
  cases k with
  | false =>
    refine iteF ?_
    cases h
    exact q _ P4 H3 (((s1.trans s2).trans s3).trans s4) w4 rfl
  | true =>
    refine iteT ?_
    obtain ⟨⟨rc, e3⟩, h3, h⟩ := obind h
    obtain ⟨y', hy', h⟩ := obind h
    obtain ⟨u, hu, h⟩ := obind h
    obtain ⟨z2, hz2, h⟩ := omap h
    cases h
    refine hc.hv h3 w4 fun v5 P5 H5 s5 w5 hv5 => ?_
    exact hr' w5 (w5.rdH (hv2.mono ((s3.trans s4).trans s5)) (by rw [rd_nf]; exact hy')) (w5.rdH hv5 (by rw [rd_nf]; exact hu)) hz2 Q fun v P' H' s w' r' => q v P' H' (((((s1.trans s2).trans s3).trans s4).trans s5).trans s) w' r'
end
end Dv

set_option Elab.async false
set_option linter.all false
set_option maxRecDepth 100000
set_option maxHeartbeats 2000000
set_option autoImplicit false
/-! Dv3: operators by values: arithmetic, comparisons, equality, membership, subscripts, slices, built-in functions. -/
namespace Dv
open PySem L2

/-! ### equality of data -/
mutual
def toPy : D → Option PyData
  | .non => some .none
  | .bl b => some (.bool b)
  | .int i => some (.int i)
  | .str s => some (.str s)
  | .lst ds => (toPyL ds).map .list
  | .sq ds => (toPyL ds).map .list
  | .tup ds => (toPyL ds).map .tuple
  | .ct ds => (toPyL ds).map .tuple
  | .dK _ => none
  | .dT _ => none
def toPyL : List D → Option (List PyData)
  | [] => some []
  | d :: ds => (toPy d).bind fun p => (toPyL ds).map fun ps => p :: ps
end
section
variable {K : PySem.W.Frag}
mutual
theorem dp_of {P : Hp} : ∀ (d : D) (v : V) (p : PyData), Rp K P d v → toPy d = some p → Dp K P v p
  | .non, _, _, h, g => by
    cases g
    rw [show _ = V.non from h]
    exact .non
  | .bl b, _, _, h, g => by
    cases g
    rw [show _ = V.bl b from h]
    exact .bl b
  | .int b, _, _, h, g => by
    cases g
    rw [show _ = V.int b from h]
    exact .int b
  | .str b, _, _, h, g => by
    cases g
    rw [show _ = V.str b from h]
    exact .str b
  | .lst ds, _, _, h, g => by
    simp only [toPy] at g
    obtain ⟨ps, g1, g2⟩ := omap g
    subst g2
    simp only [Rp] at h
    obtain ⟨a, vs, rfl, e1, e2⟩ := h
    exact .lst (.of e1) (dps_of ds vs ps e2 g1)
  | .sq ds, _, _, h, g => by
    simp only [toPy] at g
    obtain ⟨ps, g1, g2⟩ := omap g
    subst g2
    simp only [Rp] at h
    obtain ⟨a, vs, rfl, e1, e2⟩ := h
    exact .lst e1 (dps_of ds vs ps e2 g1)
  | .tup ds, _, _, h, g => by
    simp only [toPy] at g
    obtain ⟨ps, g1, g2⟩ := omap g
    subst g2
    simp only [Rp] at h
    obtain ⟨a, vs, rfl, e1, e2⟩ := h
    exact .tup (.of e1) (dps_of ds vs ps e2 g1)
  | .ct ds, _, _, h, g => by
    simp only [toPy] at g
    obtain ⟨ps, g1, g2⟩ := omap g
    subst g2
    simp only [Rp] at h
    obtain ⟨a, vs, rfl, e1, e2⟩ := h
    exact .tup e1 (dps_of ds vs ps e2 g1)
  | .dK _, _, _, _, g => by simp [toPy] at g
  | .dT _, _, _, _, g => by simp [toPy] at g
theorem dps_of {P : Hp} : ∀ (ds : List D) (vs : List V) (ps : List PyData), RpL K P ds vs → toPyL ds = some ps → DpAll K P vs ps
  | [], _, _, h, g => by
    simp only [toPyL] at g
    cases g
    rw [h.inv0]
    exact .nil
  | d :: ds, _, _, h, g => by
    simp only [toPyL] at g
    obtain ⟨p, g1, g⟩ := obind g
    obtain ⟨ps, g2, g3⟩ := omap g
    subst g3
    obtain ⟨v, r, rfl, q, t⟩ := h.inv
    exact .cons (dp_of d v p q g1) (dps_of ds r ps t g2)
end
theorem Vw.dp {P H : Hp} {d : D} {v : V} {p : PyData} (h : Vw K P H d v) (e : Same P H) (g : toPy d = some p) : Dp K H v p := dp_of d v p (h.rp e) g
end
/-- x == y, where both can be laid out -/
def eqD (x y : D) : Option Bool := (toPy x).bind fun p => (toPy y).bind fun q => if SeqAt.shaped p && SeqAt.shaped q then some (PyData.eqv p q) else none
theorem eqD_some {x y : D} {b : Bool} (h : eqD x y = some b) : ∃ p q, toPy x = some p ∧ toPy y = some q ∧ SeqAt.shaped p = true ∧ SeqAt.shaped q = true ∧ b = PyData.eqv p q := by
  obtain ⟨p, h1, h⟩ := obind h
  obtain ⟨q, h2, h⟩ := obind h
  split at h
  · rename_i c
    rw [Bool.and_eq_true] at c
    cases h
    exact ⟨p, q, h1, h2, c.1, c.2, rfl⟩
  · cases h
def oEq : D → D → Option R := fun x y => (eqD x y).map fun b => .v (.bl b)
def oNe : D → D → Option R := fun x y => (eqD x y).map fun b => .v (.bl (!b))

/-! ### keys -/
def keyOf : D → Option Key
  | .int i => some (.inl i)
  | .str s => some (.inr s)
  | _ => none
def keysOf : List D → Option (List Key)
  | [] => some []
  | d :: ds => (keyOf d).bind fun k => (keysOf ds).map fun ks => k :: ks
section
variable {κ α : Type} [DecidableEq κ]
def dval (kvs : List (κ × α)) (k : κ) : Option α := (kvs.find? fun kv => decide (kv.1 = k)).map (·.2)
def dput (kvs : List (κ × α)) (k : κ) (v : α) : List (κ × α) :=
  if (kvs.any fun kv => decide (kv.1 = k)) = true then kvs.map (fun kv => if kv.1 = k then (kv.1, v) else kv) else kvs ++ [(k, v)]
def ddrop (kvs : List (κ × α)) (k : κ) : List (κ × α) := kvs.filter fun kv => decide (kv.1 ≠ k)
end
section
variable {K : PySem.W.Frag} {P : Hp}
theorem key_of {d : D} {v : V} {k : Key} (h : Rp K P d v) (g : keyOf d = some k) : v = kV k := by
  cases d <;> cases g
  · exact h
  · exact h
theorem keys_of : ∀ {ds : List D} {vs : List V} {ks : List Key}, RpL K P ds vs → keysOf ds = some ks → vs = ks.map kV
  | [], _, _, h, g => by
    cases g
    rw [h.inv0]
    rfl
  | d :: ds, _, _, h, g => by
    obtain ⟨k, g1, g⟩ := obind g
    obtain ⟨ks, g2, g3⟩ := omap g
    subst g3
    obtain ⟨v, r, rfl, q, t⟩ := h.inv
    rw [List.map_cons, key_of q g1, keys_of t g2]
theorem RpK.inv {k : Key} {d : D} {ds : List (Key × D)} {vs : List (Key × V)} (h : RpK K P ((k, d) :: ds) vs) : ∃ v r, vs = (k, v) :: r ∧ Rp K P d v ∧ RpK K P ds r := by simpa only [RpK] using h
theorem RpK.inv0 {vs : List (Key × V)} (h : RpK K P [] vs) : vs = [] := by simpa only [RpK] using h
theorem RpK.cons {k : Key} {d : D} {v : V} {ds : List (Key × D)} {vs : List (Key × V)} (h : Rp K P d v) (t : RpK K P ds vs) : RpK K P ((k, d) :: ds) ((k, v) :: vs) := by
  simp only [RpK]
  exact ⟨v, vs, rfl, h, t⟩
theorem RpT.inv {k : List Key} {d : D} {ds : List (List Key × D)} {vs : List (List Key × V)} (h : RpT K P ((k, d) :: ds) vs) : ∃ v r, vs = (k, v) :: r ∧ Rp K P d v ∧ RpT K P ds r := by simpa only [RpT] using h
theorem RpT.inv0 {vs : List (List Key × V)} (h : RpT K P [] vs) : vs = [] := by simpa only [RpT] using h
theorem RpT.cons {k : List Key} {d : D} {v : V} {ds : List (List Key × D)} {vs : List (List Key × V)} (h : Rp K P d v) (t : RpT K P ds vs) : RpT K P ((k, d) :: ds) ((k, v) :: vs) := by
  simp only [RpT]
  exact ⟨v, vs, rfl, h, t⟩
theorem RpK.val {k : Key} : ∀ {ds : List (Key × D)} {vs : List (Key × V)}, RpK K P ds vs → (∀ d, dval ds k = some d → ∃ v, valV vs k = some v ∧ Rp K P d v) ∧ (dval ds k = none → valV vs k = none)
  | [], _, h => by
    rw [h.inv0]
    exact ⟨fun d e => (nomatch e), fun _ => rfl⟩
  | (j, d) :: ds, _, h => by
    obtain ⟨v, r, rfl, q, t⟩ := h.inv
    obtain ⟨i1, i2⟩ := RpK.val (k := k) t
    by_cases c : j = k
    · subst c
      have e1 : dval ((j, d) :: ds) j = some d := by simp [dval, List.find?_cons]
      have e2 : valV ((j, v) :: r) j = some v := valV_pos rfl
      rw [e1, e2]
      exact ⟨fun d' e => by cases e; exact ⟨v, rfl, q⟩, fun e => by cases e⟩
    · have e1 : dval ((j, d) :: ds) k = dval ds k := by simp [dval, List.find?_cons, c]
      have e2 : valV ((j, v) :: r) k = valV r k := valV_neg c
      rw [e1, e2]
      exact ⟨i1, i2⟩
theorem RpT.val {k : List Key} : ∀ {ds : List (List Key × D)} {vs : List (List Key × V)}, RpT K P ds vs → (∀ d, dval ds k = some d → ∃ v, valV vs k = some v ∧ Rp K P d v) ∧ (dval ds k = none → valV vs k = none)
  | [], _, h => by
    rw [h.inv0]
    exact ⟨fun d e => (nomatch e), fun _ => rfl⟩
  | (j, d) :: ds, _, h => by
    obtain ⟨v, r, rfl, q, t⟩ := h.inv
    obtain ⟨i1, i2⟩ := RpT.val (k := k) t
    by_cases c : j = k
    · subst c
      have e1 : dval ((j, d) :: ds) j = some d := by simp [dval, List.find?_cons]
      have e2 : valV ((j, v) :: r) j = some v := valV_pos rfl
      rw [e1, e2]
      exact ⟨fun d' e => by cases e; exact ⟨v, rfl, q⟩, fun e => by cases e⟩
    · have e1 : dval ((j, d) :: ds) k = dval ds k := by simp [dval, List.find?_cons, c]
      have e2 : valV ((j, v) :: r) k = valV r k := valV_neg c
      rw [e1, e2]
      exact ⟨i1, i2⟩
theorem RpK.some {k : Key} {ds : List (Key × D)} {vs : List (Key × V)} (h : RpK K P ds vs) : (valV vs k).isSome = (dval ds k).isSome := by
  obtain ⟨i1, i2⟩ := h.val (k := k)
  cases e : dval ds k with
  | none =>
    rw [i2 e]
    rfl
  | some d =>
    obtain ⟨v, e1, _⟩ := i1 d e
    rw [e1]
    rfl
theorem RpT.some {k : List Key} {ds : List (List Key × D)} {vs : List (List Key × V)} (h : RpT K P ds vs) : (valV vs k).isSome = (dval ds k).isSome := by
  obtain ⟨i1, i2⟩ := h.val (k := k)
  cases e : dval ds k with
  | none =>
    rw [i2 e]
    rfl
  | some d =>
    obtain ⟨v, e1, _⟩ := i1 d e
    rw [e1]
    rfl
theorem RpK.len : ∀ {ds : List (Key × D)} {vs : List (Key × V)}, RpK K P ds vs → vs.length = ds.length
  | [], _, h => by
    rw [h.inv0]
    rfl
  | (j, d) :: ds, _, h => by
    obtain ⟨v, r, rfl, q, t⟩ := h.inv
    simp [RpK.len t]
theorem RpT.len : ∀ {ds : List (List Key × D)} {vs : List (List Key × V)}, RpT K P ds vs → vs.length = ds.length
  | [], _, h => by
    rw [h.inv0]
    rfl
  | (j, d) :: ds, _, h => by
    obtain ⟨v, r, rfl, q, t⟩ := h.inv
    simp [RpT.len t]
theorem RpK.app1 {k : Key} {d : D} {v : V} (q : Rp K P d v) : ∀ {ds : List (Key × D)} {vs : List (Key × V)}, RpK K P ds vs → RpK K P (ds ++ [(k, d)]) (vs ++ [(k, v)])
  | [], _, h => by
    rw [h.inv0]
    exact .cons q .nil
  | (j, e) :: ds, _, h => by
    obtain ⟨u, r, rfl, p, t⟩ := h.inv
    exact .cons p (RpK.app1 q t)
theorem RpT.app1 {k : List Key} {d : D} {v : V} (q : Rp K P d v) : ∀ {ds : List (List Key × D)} {vs : List (List Key × V)}, RpT K P ds vs → RpT K P (ds ++ [(k, d)]) (vs ++ [(k, v)])
  | [], _, h => by
    rw [h.inv0]
    exact .cons q .nil
  | (j, e) :: ds, _, h => by
    obtain ⟨u, r, rfl, p, t⟩ := h.inv
    exact .cons p (RpT.app1 q t)
theorem RpK.repl {k : Key} {d : D} {v : V} (q : Rp K P d v) : ∀ {ds : List (Key × D)} {vs : List (Key × V)}, RpK K P ds vs → RpK K P (ds.map fun kv => if kv.1 = k then (kv.1, d) else kv) (vs.map fun kv => if kv.1 = k then (kv.1, v) else kv)
  | [], _, h => by
    rw [h.inv0]
    exact .nil
  | (j, e) :: ds, _, h => by
    obtain ⟨u, r, rfl, p, t⟩ := h.inv
    simp only [List.map_cons]
    by_cases c : j = k
    · rw [if_pos c, if_pos c]
      exact .cons q (RpK.repl q t)
    · rw [if_neg c, if_neg c]
      exact .cons p (RpK.repl q t)
theorem RpT.repl {k : List Key} {d : D} {v : V} (q : Rp K P d v) : ∀ {ds : List (List Key × D)} {vs : List (List Key × V)}, RpT K P ds vs → RpT K P (ds.map fun kv => if kv.1 = k then (kv.1, d) else kv) (vs.map fun kv => if kv.1 = k then (kv.1, v) else kv)
  | [], _, h => by
    rw [h.inv0]
    exact .nil
  | (j, e) :: ds, _, h => by
    obtain ⟨u, r, rfl, p, t⟩ := h.inv
    simp only [List.map_cons]
    by_cases c : j = k
    · rw [if_pos c, if_pos c]
      exact .cons q (RpT.repl q t)
    · rw [if_neg c, if_neg c]
      exact .cons p (RpT.repl q t)
theorem dval_any {κ α : Type} [DecidableEq κ] (k : κ) : ∀ kvs : List (κ × α), (kvs.any fun kv => decide (kv.1 = k)) = (dval kvs k).isSome
  | [] => rfl
  | p :: r => by
    rw [List.any_cons]
    by_cases e : p.1 = k
    · simp [dval, List.find?_cons, e]
    · rw [decide_eq_false e, Bool.false_or, dval_any k r]
      simp [dval, List.find?_cons, e]
theorem RpK.put {k : Key} {d : D} {v : V} (q : Rp K P d v) {ds : List (Key × D)} {vs : List (Key × V)} (h : RpK K P ds vs) : RpK K P (dput ds k d) (putK vs k v) := by
  unfold dput putK
  rw [dval_any, valV_any, h.some]
  split
  · exact h.repl q
  · exact h.app1 q
theorem RpT.put {k : List Key} {d : D} {v : V} (q : Rp K P d v) {ds : List (List Key × D)} {vs : List (List Key × V)} (h : RpT K P ds vs) : RpT K P (dput ds k d) (putK vs k v) := by
  unfold dput putK
  rw [dval_any, valV_any, h.some]
  split
  · exact h.repl q
  · exact h.app1 q
theorem RpK.drop {k : Key} : ∀ {ds : List (Key × D)} {vs : List (Key × V)}, RpK K P ds vs → RpK K P (ddrop ds k) (dropK vs k)
  | [], _, h => by
    rw [h.inv0]
    exact .nil
  | (j, e) :: ds, _, h => by
    obtain ⟨u, r, rfl, p, t⟩ := h.inv
    have ih := RpK.drop (k := k) t
    unfold ddrop dropK at ih ⊢
    simp only [List.filter_cons]
    by_cases c : j ≠ k
    · simp only [decide_eq_true c, if_true]
      exact .cons p ih
    · simp only [decide_eq_false c, if_false, Bool.false_eq_true]
      exact ih
end

/-! ### what the operators compute -/
def mulOk (a b : Int) : Bool := decide (-(2 ^ 64) < a ∧ a < 2 ^ 64) || decide (-(2 ^ 64) < b ∧ b < 2 ^ 64) || decide (a.natAbs.log2 + b.natAbs.log2 < 1000000)
def oAdd : D → D → Option R
  | .int a, .int b => some (.v (.int (a + b)))
  | .lst a, .lst b => if a.length + b.length ≤ 1000000 then some (.f (.lst (a ++ b))) else none
  | .str a, .str b => if a.length + b.length ≤ 1000000 then some (.v (.str (a ++ b))) else none
  | .tup a, .tup b => if a.length + b.length ≤ 1000000 then some (.v (.tup (a ++ b))) else none
  | _, _ => none
def oSub : D → D → Option R
  | .int a, .int b => some (.v (.int (a - b)))
  | _, _ => none
def oMul : D → D → Option R
  | .int a, .int b => if mulOk a b then some (.v (.int (a * b))) else none
  | .lst a, .int k => if -(2 ^ 63) ≤ k ∧ k < 2 ^ 63 ∧ a.length * k.toNat ≤ 1000000 then some (.f (.lst (List.replicate k.toNat a).flatten)) else none
  | _, _ => none
def oMod : D → D → Option R
  | .int a, .int b => if b ≠ 0 then some (.v (.int (a.fmod b))) else none
  | _, _ => none
def oDiv : D → D → Option R
  | .int a, .int b => if b ≠ 0 ∧ b.natAbs < 1073741824 then some (.v (.int (a.fdiv b))) else none
  | _, _ => none
def oPow : D → D → Option R
  | .int a, .int b => if 0 ≤ b ∧ b ≤ 1000000 ∧ a.natAbs < 2 ^ 64 then some (.v (.int (a ^ b.toNat))) else none
  | _, _ => none
def oNeg : D → Option R
  | .int a => some (.v (.int (-a)))
  | _ => none
def oLt : D → D → Option R
  | .int a, .int b => some (.v (.bl (decide (a < b))))
  | .str a, .str b => some (.v (.bl (decide (a.cps.toList < b.cps.toList))))
  | _, _ => none
def oLe : D → D → Option R
  | .int a, .int b => some (.v (.bl (decide (a ≤ b))))
  | _, _ => none
def oGt : D → D → Option R
  | .int a, .int b => some (.v (.bl (decide (b < a))))
  | _, _ => none
def oGe : D → D → Option R
  | .int a, .int b => some (.v (.bl (decide (b ≤ a))))
  | _, _ => none
def isN : D → Bool
  | .non => true
  | _ => false
def oIsN : D → D → Option R
  | x, .non => some (.v (.bl (isN x)))
  | _, _ => none
def oIsNotN : D → D → Option R
  | x, .non => some (.v (.bl (!isN x)))
  | _, _ => none
def isB (b : Bool) : D → Bool
  | .bl c => c == b
  | _ => false
def oIsB : D → D → Option R
  | x, .bl b => some (.v (.bl (isB b x)))
  | _, _ => none
def oIsNotB : D → D → Option R
  | x, .bl b => some (.v (.bl (!isB b x)))
  | _, _ => none
/-- x in y -/
def inD : D → D → Option Bool
  | x, .lst ds => (toPy x).bind fun p => (toPyL ds).bind fun ps => if SeqAt.shaped p && SeqAt.shaped (.list ps) then some (ps.any fun z => PyData.eqv z p) else none
  | x, .tup ds => (toPy x).bind fun p => (toPyL ds).bind fun ps => if SeqAt.shaped p && SeqAt.shaped (.tuple ps) then some (ps.any fun z => PyData.eqv z p) else none
  | x, .ct ds => (toPy x).bind fun p => (toPyL ds).bind fun ps => if SeqAt.shaped p && SeqAt.shaped (.tuple ps) then some (ps.any fun z => PyData.eqv z p) else none
  | .str a, .str z => match a.cps.toList with
    | [c] => some (decide (c ∈ z.cps.toList))
    | _ => none
  | x, .dK kvs => (keyOf x).map fun k => (dval kvs k).isSome
  | .tup xs, .dT kvs => (keysOf xs).map fun k => (dval kvs k).isSome
  | _, _ => none
def oIn : D → D → Option R := fun x y => (inD x y).map fun b => .v (.bl b)
def oNotIn : D → D → Option R := fun x y => (inD x y).map fun b => .v (.bl (!b))
def oIx : D → D → Option R
  | .lst ds, .int i => (atI ds i).map .v
  | .sq ds, .int i => (atI ds i).map .v
  | .tup ds, .int i => (atI ds i).map .v
  | .ct ds, .int i => (atI ds i).map .v
  | .str s, .int i => if s.length ≤ 1000000 then (atI s.cps.toList i).map fun c => .v (.str ⟨#[c]⟩) else none
  | .dK kvs, k => (keyOf k).bind fun k => (dval kvs k).map .v
  | .dT kvs, .tup ks => (keysOf ks).bind fun k => (dval kvs k).map .v
  | _, _ => none
def cut {α : Type} (xs : List α) (lo hi : Option Int) : List α := (xs.drop (HT.sIx xs.length 0 lo)).take (HT.sIx xs.length xs.length hi - HT.sIx xs.length 0 lo)
def oSl : D → Option Int → Option Int → Option R
  | .lst ds, lo, hi => some (.f (.lst (cut ds lo hi)))
  | .sq ds, lo, hi => some (.f (.lst (cut ds lo hi)))
  | .tup ds, lo, hi => some (.v (.tup (cut ds lo hi)))
  | .str s, lo, hi => if s.length ≤ 1000000 then some (.v (.str (cutS s lo hi))) else none
  | _, _, _ => none

/-! ### their rules -/
def rAddA (K : PySem.W.Frag) : R2 := fun x y H Q => rI0 (fun i j => .int (i + j)) x y H Q ∨ rCat x y H Q ∨ (∃ i j, x = .str i ∧ y = .str j ∧ i.length + j.length ≤ sizeLine ∧ Q (.str (i ++ j)) H) ∨ rCatA K x y H Q
def rMulA : R2 := fun x y H Q => rI CMul (fun i j => .int (i * j)) x y H Q ∨ rI CMulW (fun i j => .int (i * j)) x y H Q ∨ rRep x y H Q
def rLtA : R2 := fun x y H Q => rI0 (fun i j => .bl (decide (i < j))) x y H Q ∨ ∃ i j, x = .str i ∧ y = .str j ∧ Q (.bl (decide (i.cps.toList < j.cps.toList))) H
def rInT (K : PySem.W.Frag) : R2 := fun x y H Q => ∃ d ds, Dp K H x d ∧ Dp K H y (.tuple ds) ∧ SeqAt.shaped d = true ∧ SeqAt.shaped (.tuple ds) = true ∧ Q (.bl (ds.any fun z => PyData.eqv z d)) H
def rNotInT (K : PySem.W.Frag) : R2 := fun x y H Q => ∃ d ds, Dp K H x d ∧ Dp K H y (.tuple ds) ∧ SeqAt.shaped d = true ∧ SeqAt.shaped (.tuple ds) = true ∧ Q (.bl (!ds.any fun z => PyData.eqv z d)) H
def rInA (K : PySem.W.Frag) : R2 := fun x y H Q => rInD K x y H Q ∨ rInT K x y H Q ∨ (∃ (c : Nat) (z : Str), x = .str ⟨#[c]⟩ ∧ y = .str z ∧ Q (.bl (decide (c ∈ z.cps.toList))) H) ∨ ∃ a o, y = .ref a ∧ DGet H a x o ∧ Q (.bl o.isSome) H
def rNotInA (K : PySem.W.Frag) : R2 := fun x y H Q => rNotInD K x y H Q ∨ rNotInT K x y H Q ∨ (∃ (c : Nat) (z : Str), x = .str ⟨#[c]⟩ ∧ y = .str z ∧ Q (.bl (!decide (c ∈ z.cps.toList))) H) ∨ ∃ a o, y = .ref a ∧ DGet H a x o ∧ Q (.bl (!o.isSome)) H
def rIxA (K : PySem.W.Frag) : R2 := fun x y H Q => rIx K x y H Q ∨ ∃ a v, x = .ref a ∧ DGet H a y (some v) ∧ Q v H
def rIsBA : R2 := fun x y H Q => ∃ b, y = .bl b ∧ Q (.bl (decide (x = .bl b))) H
def rIsNotBA : R2 := fun x y H Q => ∃ b, y = .bl b ∧ Q (.bl (!decide (x = .bl b))) H
def rSlAll (K : PySem.W.Frag) : V → Option Int → Option Int → Hp → VK → Prop := fun x lo hi H Q => rSlL K x lo hi H Q ∨ rSlA K x lo hi H Q ∨ rSlS x lo hi H Q
section
variable {X : Cx}
open PySem.Spec PyProof.Rows
theorem or_add : OpR X (binaryOp .Add) (rAddA X.K) := op_add.or (op_cat.or (op_add_str.or op_catA))
theorem or_mul : OpR X (binaryOp .Mult) rMulA := op_mul.or (op_mulW.or op_rep)
theorem or_lt : OpR X (compareOp .Lt) rLtA := op_lt.or op_lt_str
theorem op_inT (hu : X.A.units + 65 < cLine) : OpR X (compareOp .In) (rInT X.K) := by
  intro pins s σ H x y v u Q I rx ry h
  obtain ⟨d, ds, hd, he, sd, se, q⟩ := h
  obtain ⟨as, r1⟩ := Dp.reads I d x v hd rx
  obtain ⟨bs, r2⟩ := Dp.reads I (.tuple ds) y u he ry
  exact SeqAt.in_tuple_reads r2 r1 (SeqAt.canLay_of_shaped se) (SeqAt.canLay_of_shaped sd) (room_in_shaped sd hu) ⟨.bl _, H, I, rfl, q⟩
theorem op_notInT (hu : X.A.units + 65 < cLine) : OpR X (compareOp .NotIn) (rNotInT X.K) := by
  intro pins s σ H x y v u Q I rx ry h
  obtain ⟨d, ds, hd, he, sd, se, q⟩ := h
  obtain ⟨as, r1⟩ := Dp.reads I d x v hd rx
  obtain ⟨bs, r2⟩ := Dp.reads I (.tuple ds) y u he ry
  exact SeqAt.notIn_tuple_reads r2 r1 (SeqAt.canLay_of_shaped se) (SeqAt.canLay_of_shaped sd) (room_in_shaped sd hu) ⟨.bl _, H, I, rfl, q⟩
theorem op_inDict (hu : X.A.units + 1 < cLine) : OpR X (compareOp .In) (fun x y H Q => ∃ a o, y = .ref a ∧ DGet H a x o ∧ Q (.bl o.isSome) H) := by
  intro pins s σ H x y v u Q I rx ry h
  obtain ⟨a, o, rfl, g, q⟩ := h
  obtain rfl : u = Value.ref a := ry
  exact d_in hu I g rx fun s3 I3 => ⟨.bl o.isSome, H, I3, rfl, q⟩
theorem op_notInDict (hu : X.A.units + 1 < cLine) : OpR X (compareOp .NotIn) (fun x y H Q => ∃ a o, y = .ref a ∧ DGet H a x o ∧ Q (.bl (!o.isSome)) H) := by
  intro pins s σ H x y v u Q I rx ry h
  obtain ⟨a, o, rfl, g, q⟩ := h
  obtain rfl : u = Value.ref a := ry
  exact d_notIn hu I g rx fun s3 I3 => ⟨.bl (!o.isSome), H, I3, rfl, q⟩
theorem or_in (hu : X.A.units + 65 < cLine) : OpR X (compareOp .In) (rInA X.K) := (op_inD hu).or ((op_inT hu).or (op_in_sign.or (op_inDict (by omega))))
theorem or_notIn (hu : X.A.units + 65 < cLine) : OpR X (compareOp .NotIn) (rNotInA X.K) := (op_notInD hu).or ((op_notInT hu).or (op_notIn_sign.or (op_notInDict (by omega))))
theorem ix_dict (hu : X.A.units + 1 < cLine) : IxR X (fun x y H Q => ∃ a v, x = .ref a ∧ DGet H a y (some v) ∧ Q v H) := by
  intro value slice pins s σ H x y v u Q I rx ry h hs
  obtain ⟨a, z, rfl, g, q⟩ := h
  obtain rfl : v = Value.ref a := rx
  exact tail_any (dict_typeIs I g) PySem.F.slot_dict_getitem.lookup (d_getItem hu I g ry fun w' s' I' rw' => ⟨z, H, I', rw', q⟩) hs
theorem or_ix (hu : X.A.units + 1 < cLine) : IxR X (rIxA X.K) := ix_seq.or (ix_dict hu)
theorem or_isB : OpR X (compareOp .Is) rIsBA := by
  intro pins s σ H x y v u Q I rx ry h
  obtain ⟨b, rfl, q⟩ := h
  obtain rfl : u = Value.bool b := ry
  have fin : ∀ {k : Bool}, k = decide (x = .bl b) → EP X pins σ Q (.bool k) s := fun e => ⟨.bl (decide (x = .bl b)), H, I, by rw [e]; exact rfl, q⟩
  cases x with
  | bl c =>
    obtain rfl : v = Value.bool c := rx
    by_cases e : c = b
    · subst e
      exact wpAny_is_self rfl (fin (by simp))
    · exact wpAny_is_other rfl (fun z => e (Value.bool.inj z)) (fin (by simp [e]))
  | non =>
    obtain rfl : v = Value.none := rx
    exact wpAny_is_other rfl (fun z => nomatch z) (fin (by simp))
  | int i =>
    obtain ⟨t, rfl⟩ := rx
    exact wpAny_is_other rfl (fun z => nomatch z) (fin (by simp))
  | str i =>
    obtain ⟨t, rfl⟩ := rx
    exact wpAny_is_other rfl (fun z => nomatch z) (fin (by simp))
  | byt i =>
    obtain ⟨t, rfl⟩ := rx
    exact wpAny_is_other rfl (fun z => nomatch z) (fin (by simp))
  | flt i =>
    obtain ⟨t, rfl⟩ := rx
    exact wpAny_is_other rfl (fun z => nomatch z) (fin (by simp))
  | ref a =>
    obtain rfl : v = Value.ref a := rx
    exact wpAny_is_other rfl (fun z => nomatch z) (fin (by simp))
  | ty n =>
    obtain rfl : v = Value.type n := rx
    exact wpAny_is_other rfl (fun z => nomatch z) (fin (by simp))
theorem or_isNotB : OpR X (compareOp .IsNot) rIsNotBA := by
  intro pins s σ H x y v u Q I rx ry h
  obtain ⟨b, rfl, q⟩ := h
  obtain rfl : u = Value.bool b := ry
  have fin : ∀ {k : Bool}, k = (!decide (x = .bl b)) → EP X pins σ Q (.bool k) s := fun e => ⟨.bl (!decide (x = .bl b)), H, I, by rw [e]; exact rfl, q⟩
  cases x with
  | bl c =>
    obtain rfl : v = Value.bool c := rx
    by_cases e : c = b
    · subst e
      exact wpAny_isNot_self rfl (fin (by simp))
    · exact wpAny_isNot_other rfl (fun z => e (Value.bool.inj z)) (fin (by simp [e]))
  | non =>
    obtain rfl : v = Value.none := rx
    exact wpAny_isNot_other rfl (fun z => nomatch z) (fin (by simp))
  | int i =>
    obtain ⟨t, rfl⟩ := rx
    exact wpAny_isNot_other rfl (fun z => nomatch z) (fin (by simp))
  | str i =>
    obtain ⟨t, rfl⟩ := rx
    exact wpAny_isNot_other rfl (fun z => nomatch z) (fin (by simp))
  | byt i =>
    obtain ⟨t, rfl⟩ := rx
    exact wpAny_isNot_other rfl (fun z => nomatch z) (fin (by simp))
  | flt i =>
    obtain ⟨t, rfl⟩ := rx
    exact wpAny_isNot_other rfl (fun z => nomatch z) (fin (by simp))
  | ref a =>
    obtain rfl : v = Value.ref a := rx
    exact wpAny_isNot_other rfl (fun z => nomatch z) (fin (by simp))
  | ty n =>
    obtain rfl : v = Value.type n := rx
    exact wpAny_isNot_other rfl (fun z => nomatch z) (fin (by simp))
theorem sl_all : SlR X (rSlAll X.K) := sl_list.or (sl_tupA.or sl_str)
end

/-! ### and that they compute so -/
section
variable {K : PySem.W.Frag}
theorem sop_add : SOp K (rAddA K) oAdd := by
  intro F τ e σ P H x y dx dy z w hx hy h Q q
  unfold oAdd at h
  split at h
  · cases h
    exact .inl ⟨_, _, hx, hy, q _ P H (.refl P) w rfl⟩
  · split at h
    · rename_i hl
      cases h
      obtain ⟨a, vs, rfl, e1, e2⟩ := hx
      obtain ⟨b, us, rfl, g1, g2⟩ := hy
      refine .inr (.inl ⟨a, b, vs, us, rfl, rfl, e1, g1, by rw [e2.len, g2.len]; exact sz_ok hl, fun p hp => ?_⟩)
      exact q _ P _ (.refl P) (w.new hp) (w.newR hp (o := .lst _) (e2.app g2))
    · cases h
  · split at h
    · rename_i hl
      cases h
      exact .inr (.inr (.inl ⟨_, _, hx, hy, sz_ok hl, q _ P H (.refl P) w rfl⟩))
    · cases h
  · split at h
    · rename_i hl
      cases h
      have hy' : Rp K P _ y := hy
      have hx' : Rp K P _ x := hx
      obtain ⟨a, vs, rfl, e1, e2⟩ := hx.tup
      obtain ⟨b, us, rfl, g1, g2⟩ := hy.tup
      refine .inr (.inr (.inr ⟨a, b, vs, us, rfl, rfl, .of (w.pH _ _ e1), .of (w.pH _ _ g1), by rw [e2.len, g2.len]; exact sz_ok hl, fun c => ?_, fun c c2 => ?_, fun c c2 p hp => ?_⟩))
      · subst c
        have e0 := List.eq_nil_of_length_eq_zero e2.len.symm
        subst e0
        rw [List.nil_append] at q
        exact q _ P H (.refl P) w hy'
      · subst c2
        have e0 := List.eq_nil_of_length_eq_zero g2.len.symm
        subst e0
        rw [List.append_nil] at q
        exact q _ P H (.refl P) w hx'
      · obtain ⟨w3, r3, s3⟩ := w.newT hp (e2.app g2)
        exact q _ _ _ s3 w3 r3
    · cases h
  · cases h

theorem sop_sub : SOp K (rI0 fun i j => .int (i - j)) oSub := by
  intro F τ e σ P H x y dx dy z w hx hy h Q q
  unfold oSub at h
  split at h
  · cases h
    exact ⟨_, _, hx, hy, q _ P H (.refl P) w rfl⟩
  · cases h
theorem RpL.repN {P : Hp} {ds : List D} {vs : List V} (h : RpL K P ds vs) (k : Nat) : RpL K P (List.replicate k ds).flatten (List.replicate k vs).flatten := h.rep k
theorem sop_mul : SOp K rMulA oMul := by
  intro F τ e σ P H x y dx dy z w hx hy h Q q
  unfold oMul at h
  split at h
  · split at h
    · rename_i hl
      cases h
      unfold mulOk at hl
      rw [Bool.or_eq_true, Bool.or_eq_true] at hl
      rcases hl with (hl | hl) | hl
      · exact .inl ⟨_, _, hx, hy, .inl (of_decide_eq_true hl), q _ P H (.refl P) w rfl⟩
      · exact .inl ⟨_, _, hx, hy, .inr (of_decide_eq_true hl), q _ P H (.refl P) w rfl⟩
      · have hl' : CMulW _ _ := show _ + _ < _ from of_decide_eq_true hl
        exact .inr (.inl ⟨_, _, hx, hy, hl', q _ P H (.refl P) w rfl⟩)
    · cases h
  · split at h
    · rename_i hl
      cases h
      obtain ⟨a, vs, rfl, e1, e2⟩ := hx
      refine .inr (.inr ⟨a, _, vs, rfl, hy, e1, hl.1, hl.2.1, by rw [e2.len]; exact sz_ok hl.2.2, fun p hp => ?_⟩)
      exact q _ P _ (.refl P) (w.new hp) (w.newR hp (o := .lst _) (e2.rep _))
    · cases h
  · cases h
theorem sop_mod : SOp K (rI (fun _ j => j ≠ 0) fun i j => .int (i.fmod j)) oMod := by
  intro F τ e σ P H x y dx dy z w hx hy h Q q
  unfold oMod at h
  split at h
  · split at h
    · rename_i hl
      cases h
      exact ⟨_, _, hx, hy, hl, q _ P H (.refl P) w rfl⟩
    · cases h
  · cases h
theorem sop_div : SOp K (rI CDivN fun i j => .int (i.fdiv j)) oDiv := by
  intro F τ e σ P H x y dx dy z w hx hy h Q q
  unfold oDiv at h
  split at h
  · split at h
    · rename_i hl
      cases h
      exact ⟨_, _, hx, hy, hl, q _ P H (.refl P) w rfl⟩
    · cases h
  · cases h
theorem sop_pow : SOp K (rI CPow fun i j => .int (i ^ j.toNat)) oPow := by
  intro F τ e σ P H x y dx dy z w hx hy h Q q
  unfold oPow at h
  split at h
  · split at h
    · rename_i hl
      cases h
      exact ⟨_, _, hx, hy, hl, q _ P H (.refl P) w rfl⟩
    · cases h
  · cases h
theorem sun_neg : SUn K (rU fun i => .int (-i)) oNeg := by
  intro F τ e σ P H x dx z w hx h Q q
  unfold oNeg at h
  split at h
  · cases h
    exact ⟨_, hx, q _ P H (.refl P) w rfl⟩
  · cases h
theorem sop_lt : SOp K rLtA oLt := by
  intro F τ e σ P H x y dx dy z w hx hy h Q q
  unfold oLt at h
  split at h
  · cases h
    exact .inl ⟨_, _, hx, hy, q _ P H (.refl P) w rfl⟩
  · cases h
    exact .inr ⟨_, _, hx, hy, q _ P H (.refl P) w rfl⟩
  · cases h
theorem sop_le : SOp K (rI0 fun i j => .bl (decide (i ≤ j))) oLe := by
  intro F τ e σ P H x y dx dy z w hx hy h Q q
  unfold oLe at h
  split at h
  · cases h
    exact ⟨_, _, hx, hy, q _ P H (.refl P) w rfl⟩
  · cases h
theorem sop_gt : SOp K (rI0 fun i j => .bl (decide (j < i))) oGt := by
  intro F τ e σ P H x y dx dy z w hx hy h Q q
  unfold oGt at h
  split at h
  · cases h
    exact ⟨_, _, hx, hy, q _ P H (.refl P) w rfl⟩
  · cases h
theorem sop_ge : SOp K (rI0 fun i j => .bl (decide (j ≤ i))) oGe := by
  intro F τ e σ P H x y dx dy z w hx hy h Q q
  unfold oGe at h
  split at h
  · cases h
    exact ⟨_, _, hx, hy, q _ P H (.refl P) w rfl⟩
  · cases h
theorem sop_eq : SOp K (rEqD K) oEq := by
  intro F τ e σ P H x y dx dy z w hx hy h Q q
  obtain ⟨b, h1, h2⟩ := omap h
  subst h2
  obtain ⟨p, r, g1, g2, g3, g4, rfl⟩ := eqD_some h1
  exact ⟨p, r, hx.dp w.pH g1, hy.dp w.pH g2, g3, g4, q _ P H (.refl P) w rfl⟩
theorem sop_ne : SOp K (rNeD K) oNe := by
  intro F τ e σ P H x y dx dy z w hx hy h Q q
  obtain ⟨b, h1, h2⟩ := omap h
  subst h2
  obtain ⟨p, r, g1, g2, g3, g4, rfl⟩ := eqD_some h1
  exact ⟨p, r, hx.dp w.pH g1, hy.dp w.pH g2, g3, g4, q _ P H (.refl P) w rfl⟩
theorem isN_ok {P H : Hp} {d : D} {x : V} (h : Vw K P H d x) : decide (x = .non) = isN d := by
  cases d with
  | non =>
    obtain rfl : x = .non := h
    rfl
  | bl b =>
    obtain rfl : x = .bl b := h
    rfl
  | int b =>
    obtain rfl : x = .int b := h
    rfl
  | str b =>
    obtain rfl : x = .str b := h
    rfl
  | lst ds =>
    obtain ⟨a, vs, rfl, _⟩ := h
    rfl
  | tup ds =>
    obtain ⟨a, vs, rfl, _⟩ := h.tup
    rfl
  | ct ds =>
    obtain ⟨a, vs, rfl, _⟩ := h.ct
    rfl
  | sq ds =>
    obtain ⟨a, vs, rfl, _⟩ := h.sq
    rfl
  | dK ds =>
    obtain ⟨a, vs, rfl, _⟩ := h
    rfl
  | dT ds =>
    obtain ⟨a, vs, rfl, _⟩ := h
    rfl
theorem isB_ok {P H : Hp} {d : D} {x : V} {b : Bool} (h : Vw K P H d x) : decide (x = .bl b) = isB b d := by
  cases d with
  | non =>
    obtain rfl : x = .non := h
    rfl
  | bl c =>
    obtain rfl : x = .bl c := h
    cases b <;> cases c <;> rfl
  | int b =>
    obtain rfl : x = .int b := h
    rfl
  | str b =>
    obtain rfl : x = .str b := h
    rfl
  | lst ds =>
    obtain ⟨a, vs, rfl, _⟩ := h
    rfl
  | tup ds =>
    obtain ⟨a, vs, rfl, _⟩ := h.tup
    rfl
  | ct ds =>
    obtain ⟨a, vs, rfl, _⟩ := h.ct
    rfl
  | sq ds =>
    obtain ⟨a, vs, rfl, _⟩ := h.sq
    rfl
  | dK ds =>
    obtain ⟨a, vs, rfl, _⟩ := h
    rfl
  | dT ds =>
    obtain ⟨a, vs, rfl, _⟩ := h
    rfl
theorem sop_isN : SOp K (fun x y H Q => y = .non ∧ Q (.bl (decide (x = .non))) H) oIsN := by
  intro F τ e σ P H x y dx dy z w hx hy h Q q
  unfold oIsN at h
  split at h
  · cases h
    exact ⟨hy, q _ P H (.refl P) w (show V.bl _ = V.bl _ by rw [isN_ok hx])⟩
  · cases h
theorem sop_isNotN : SOp K (fun x y H Q => y = .non ∧ Q (.bl (!decide (x = .non))) H) oIsNotN := by
  intro F τ e σ P H x y dx dy z w hx hy h Q q
  unfold oIsNotN at h
  split at h
  · cases h
    exact ⟨hy, q _ P H (.refl P) w (show V.bl _ = V.bl _ by rw [isN_ok hx])⟩
  · cases h
theorem sop_isB : SOp K rIsBA oIsB := by
  intro F τ e σ P H x y dx dy z w hx hy h Q q
  unfold oIsB at h
  split at h
  · cases h
    exact ⟨_, hy, q _ P H (.refl P) w (show V.bl _ = V.bl _ by rw [isB_ok hx])⟩
  · cases h
theorem sop_isNotB : SOp K rIsNotBA oIsNotB := by
  intro F τ e σ P H x y dx dy z w hx hy h Q q
  unfold oIsNotB at h
  split at h
  · cases h
    exact ⟨_, hy, q _ P H (.refl P) w (show V.bl _ = V.bl _ by rw [isB_ok hx])⟩
  · cases h
theorem in_some {x : PyData} {p : Option PyData} {ds : List PyData} {c b : Bool} (h : (if c then some (ds.any fun z => PyData.eqv z x) else none) = some b) : c = true ∧ b = ds.any fun z => PyData.eqv z x := by
  cases c with
  | true =>
    cases h
    exact ⟨rfl, rfl⟩
  | false => cases h
/-- membership, either way -/
theorem in_core {F : Hp} {τ : St} {e : DE} {σ : St} {P H : Hp} {x y : V} {dx dy : D} {b : Bool} (w : Wd K F τ e σ P H) (hx : Vw K P H dx x) (hy : Vw K P H dy y) (h : inD dx dy = some b) :
    (∃ d ds, Dp K H x d ∧ Dp K H y (.list ds) ∧ SeqAt.shaped d = true ∧ SeqAt.shaped (.list ds) = true ∧ (ds.any fun z => PyData.eqv z d) = b) ∨
    (∃ d ds, Dp K H x d ∧ Dp K H y (.tuple ds) ∧ SeqAt.shaped d = true ∧ SeqAt.shaped (.tuple ds) = true ∧ (ds.any fun z => PyData.eqv z d) = b) ∨
    (∃ (c : Nat) (z : Str), x = .str ⟨#[c]⟩ ∧ y = .str z ∧ decide (c ∈ z.cps.toList) = b) ∨ ∃ a o, y = .ref a ∧ DGet H a x o ∧ o.isSome = b := by
  unfold inD at h
  split at h
  · obtain ⟨p, h1, h⟩ := obind h
    obtain ⟨ps, h2, h⟩ := obind h
    split at h
    · rename_i c
      rw [Bool.and_eq_true] at c
      cases h
      exact .inl ⟨p, ps, hx.dp w.pH h1, hy.dp w.pH (by simp only [toPy, h2]; rfl), c.1, c.2, rfl⟩
    · cases h
  · obtain ⟨p, h1, h⟩ := obind h
    obtain ⟨ps, h2, h⟩ := obind h
    split at h
    · rename_i c
      rw [Bool.and_eq_true] at c
      cases h
      exact .inr (.inl ⟨p, ps, hx.dp w.pH h1, hy.dp w.pH (by simp only [toPy, h2]; rfl), c.1, c.2, rfl⟩)
    · cases h
  · obtain ⟨p, h1, h⟩ := obind h
    obtain ⟨ps, h2, h⟩ := obind h
    split at h
    · rename_i c
      rw [Bool.and_eq_true] at c
      cases h
      exact .inr (.inl ⟨p, ps, hx.dp w.pH h1, hy.dp w.pH (by simp only [toPy, h2]; rfl), c.1, c.2, rfl⟩)
    · cases h
  · split at h
    · rename_i c ha
      cases h
      refine .inr (.inr (.inl ⟨c, _, ?_, hy, rfl⟩))
      rw [show x = V.str _ from hx]
      congr 1
      have ea := Array.toList_inj.mp (show _ = (#[c] : Array Nat).toList from ha)
      exact (PySem.Str.mk.injEq _ _).mpr ea |> fun z => z
    · cases h
  · obtain ⟨k, h1, h2⟩ := omap h
    subst h2
    obtain ⟨a, kvs, rfl, e1, e2⟩ := hy
    have hx' := key_of (hx.rp w.pH) h1
    subst hx'
    exact .inr (.inr (.inr ⟨a, valV kvs k, rfl, .inl ⟨kvs, k, e1, rfl, rfl⟩, e2.some⟩))
  · obtain ⟨k, h1, h2⟩ := omap h
    subst h2
    obtain ⟨a, kvs, rfl, e1, e2⟩ := hy
    obtain ⟨b, vs, rfl, g1, g2⟩ := hx.tup
    have g3 := keys_of g2 h1
    subst g3
    exact .inr (.inr (.inr ⟨a, valV kvs k, rfl, .inr ⟨kvs, k, b, e1, rfl, w.pH _ _ g1, rfl⟩, e2.some⟩))
  · cases h
theorem sop_in : SOp K (rInA K) oIn := by
  intro F τ e σ P H x y dx dy z w hx hy h Q q
  obtain ⟨b, h1, h2⟩ := omap h
  subst h2
  have fin : Q (.bl b) H := q _ P H (.refl P) w rfl
  rcases in_core w hx hy h1 with ⟨d, ds, a1, a2, a3, a4, a5⟩ | ⟨d, ds, a1, a2, a3, a4, a5⟩ | ⟨c, s, a1, a2, a3⟩ | ⟨a, o, a1, a2, a3⟩
  · exact .inl ⟨d, ds, a1, a2, a3, a4, by rw [a5]; exact fin⟩
  · exact .inr (.inl ⟨d, ds, a1, a2, a3, a4, by rw [a5]; exact fin⟩)
  · exact .inr (.inr (.inl ⟨c, s, a1, a2, by rw [a3]; exact fin⟩))
  · exact .inr (.inr (.inr ⟨a, o, a1, a2, by rw [a3]; exact fin⟩))
theorem sop_notIn : SOp K (rNotInA K) oNotIn := by
  intro F τ e σ P H x y dx dy z w hx hy h Q q
  obtain ⟨b, h1, h2⟩ := omap h
  subst h2
  have fin : Q (.bl (!b)) H := q _ P H (.refl P) w rfl
  rcases in_core w hx hy h1 with ⟨d, ds, a1, a2, a3, a4, a5⟩ | ⟨d, ds, a1, a2, a3, a4, a5⟩ | ⟨c, s, a1, a2, a3⟩ | ⟨a, o, a1, a2, a3⟩
  · exact .inl ⟨d, ds, a1, a2, a3, a4, by rw [a5]; exact fin⟩
  · exact .inr (.inl ⟨d, ds, a1, a2, a3, a4, by rw [a5]; exact fin⟩)
  · exact .inr (.inr (.inl ⟨c, s, a1, a2, by rw [a3]; exact fin⟩))
  · exact .inr (.inr (.inr ⟨a, o, a1, a2, by rw [a3]; exact fin⟩))
theorem atI_rp {P : Hp} {ds : List D} {vs : List V} {i : Int} {d : D} (h : RpL K P ds vs) (g : atI ds i = some d) : ∃ v, atI vs i = some v ∧ Rp K P d v := by
  unfold atI at g ⊢
  rw [h.len]
  obtain ⟨j, h1, h2⟩ := obind g
  obtain ⟨v, e1, e2⟩ := h.get h2
  exact ⟨v, by rw [h1]; exact e1, e2⟩
theorem sop_ix : SOp K (rIxA K) oIx := by
  intro F τ e σ P H x y dx dy z w hx hy h Q q
  unfold oIx at h
  split at h
  · obtain ⟨d, h1, h2⟩ := omap h
    subst h2
    obtain ⟨a, vs, rfl, e1, e2⟩ := hx
    obtain ⟨v, g1, g2⟩ := atI_rp e2 h1
    exact .inl (.inl ⟨a, vs, _, v, rfl, hy, .of e1, g1, q v P H (.refl P) w g2⟩)
  · obtain ⟨d, h1, h2⟩ := omap h
    subst h2
    obtain ⟨a, vs, rfl, e1, e2⟩ := hx.sq
    obtain ⟨v, g1, g2⟩ := atI_rp e2 h1
    exact .inl (.inl ⟨a, vs, _, v, rfl, hy, (ExR.of w.pH).seq e1, g1, q v P H (.refl P) w g2⟩)
  · obtain ⟨d, h1, h2⟩ := omap h
    subst h2
    obtain ⟨a, vs, rfl, e1, e2⟩ := hx.tup
    obtain ⟨v, g1, g2⟩ := atI_rp e2 h1
    exact .inl (.inr (.inl ⟨a, vs, _, v, rfl, hy, .of (w.pH _ _ e1), g1, q v P H (.refl P) w g2⟩))
  · obtain ⟨d, h1, h2⟩ := omap h
    subst h2
    obtain ⟨a, vs, rfl, e1, e2⟩ := hx.ct
    obtain ⟨v, g1, g2⟩ := atI_rp e2 h1
    exact .inl (.inr (.inl ⟨a, vs, _, v, rfl, hy, (ExR.of w.pH).sqt e1, g1, q v P H (.refl P) w g2⟩))
  · split at h
    · rename_i hl
      obtain ⟨d, h1, h2⟩ := omap h
      subst h2
      exact .inl (.inr (.inr ⟨_, _, d, hx, hy, sz_ok hl, h1, q _ P H (.refl P) w rfl⟩))
    · cases h
  · obtain ⟨k, h1, h⟩ := obind h
    obtain ⟨d, h2, h3⟩ := omap h
    subst h3
    obtain ⟨a, kvs, rfl, e1, e2⟩ := hx
    have hy' := key_of (hy.rp w.pH) h1
    subst hy'
    obtain ⟨v, g1, g2⟩ := (e2.val (k := k)).1 d h2
    exact .inr ⟨a, v, rfl, .inl ⟨kvs, k, e1, rfl, g1.symm⟩, q v P H (.refl P) w g2⟩
  · obtain ⟨k, h1, h⟩ := obind h
    obtain ⟨d, h2, h3⟩ := omap h
    subst h3
    obtain ⟨a, kvs, rfl, e1, e2⟩ := hx
    obtain ⟨b, vs, rfl, g1, g2⟩ := hy.tup
    have g3 := keys_of g2 h1
    subst g3
    obtain ⟨v, g1', g2'⟩ := (e2.val (k := k)).1 d h2
    exact .inr ⟨a, v, rfl, .inr ⟨kvs, k, b, e1, rfl, w.pH _ _ g1, g1'.symm⟩, q v P H (.refl P) w g2'⟩
  · cases h
theorem cut_rp {P : Hp} {ds : List D} {vs : List V} (h : RpL K P ds vs) (lo hi : Option Int) : RpL K P (cut ds lo hi) (cutV vs lo hi) := by
  unfold cut cutV
  rw [h.len]
  exact (h.drop _).take _
theorem cut_all {α : Type} {xs : List α} {lo hi : Option Int} (h : HT.sIx xs.length 0 lo = 0 ∧ HT.sIx xs.length xs.length hi = xs.length) : cut xs lo hi = xs := by
  unfold cut
  rw [h.1, h.2]
  simp
theorem ssl_all : SSl K (rSlAll K) oSl := by
  intro F τ e σ P H x dx lo hi z w hx h Q q
  unfold oSl at h
  split at h
  · cases h
    obtain ⟨a, vs, rfl, e1, e2⟩ := hx
    refine .inl ⟨a, vs, rfl, .of e1, fun p hp => ?_⟩
    exact q _ P _ (.refl P) (w.new hp) (w.newR hp (o := .lst _) (cut_rp e2 _ _))
  · cases h
    obtain ⟨a, vs, rfl, e1, e2⟩ := hx.sq
    refine .inl ⟨a, vs, rfl, (ExR.of w.pH).seq e1, fun p hp => ?_⟩
    exact q _ P _ (.refl P) (w.new hp) (w.newR hp (o := .lst _) (cut_rp e2 _ _))
  · cases h
    have hx' : Rp K P _ x := hx
    obtain ⟨a, vs, rfl, e1, e2⟩ := hx.tup
    refine .inr (.inl ⟨a, vs, rfl, .of (w.pH _ _ e1), fun c => ?_, fun c p hp => ?_⟩)
    · rw [e2.len] at c
      rw [cut_all c] at q
      exact q _ P H (.refl P) w hx'
    · obtain ⟨w3, r3, s3⟩ := w.newT hp (cut_rp e2 lo hi)
      exact q _ _ _ s3 w3 r3
  · split at h
    · rename_i hl
      cases h
      exact .inr (.inr ⟨_, hx, sz_ok hl, q _ P H (.refl P) w rfl⟩)
    · cases h
  · cases h
end
end Dv

set_option Elab.async false
set_option linter.all false
set_option maxRecDepth 100000
set_option maxHeartbeats 2000000
set_option autoImplicit false
/-! Dv4: targets, statements, loops, comprehensions, what changes a cell, calls of defs. -/
namespace Dv
open PySem L2

/-! ### slots changed -/
/-- a slot that is not lent gets a persistent value -/
def setIm (e : DE) (i : Nat) (d : D) : Option DE := match e[i]? with
  | some (.io _) => none
  | none => none
  | _ => some (e.set i (.im d))
def setOw (e : DE) (i : Nat) (d : D) : Option DE := match e[i]? with
  | some (.io _) => none
  | none => none
  | _ => some (e.set i (.ow d))
/-- what stands in a cell is changed -/
def putOw (e : DE) (i : Nat) (d : D) : DE := match e[i]? with
  | some (.ow _) => e.set i (.ow d)
  | some (.io _) => e.set i (.io d)
  | _ => e
/-- slots forgotten -/
def kill (e : DE) : List Nat → DE
  | [] => e
  | i :: is => match e[i]? with
    | some (.io _) => kill e is
    | _ => kill (e.set i .no) is

section
variable {K : PySem.W.Frag} {F : Hp} {τ σ : St} {e : DE} {P H : Hp}
theorem own_set {i j : Nat} {s : Sl} (hi : i < e.length) : own (e.set i s) j = if i = j then (match s with | .ow d => some d | .io d => some d | _ => none) else own e j := by
  unfold own
  by_cases c : i = j
  · subst c
    rw [List.getElem?_set_self hi, if_pos rfl]
    cases s <;> rfl
  · rw [List.getElem?_set_ne c, if_neg c]
theorem Wd.setIm (w : Wd K F τ e σ P H) {i : Nat} {d : D} {v : V} {e' : DE} (h : setIm e i d = some e') (r : Rp K P d v) : Wd K F τ e' (σ.set i (some v)) P H := by
  unfold Dv.setIm at h
  have key : i < e.length → (∀ d', e[i]? ≠ some (.io d')) → Wd K F τ (e.set i (.im d)) (σ.set i (some v)) P H := fun hi hio => by
    have hl := w.len
    refine ⟨by rw [List.length_set, List.length_set]; exact hl, w.pH, w.fH, w.fP, fun j dj q => ?_, fun j dj q => ?_, fun j dj q => ?_, fun j k l dj dk q1 q2 g1 g2 => ?_⟩
    · by_cases c : i = j
      · subst c
        rw [List.getElem?_set_self hi] at q
        cases q
        exact ⟨v, by rw [List.getElem?_set_self (by omega)], r⟩
      · rw [List.getElem?_set_ne c] at q
        rw [List.getElem?_set_ne c]
        exact w.im j dj q
    · rw [own_set hi] at q
      split at q
      · cases q
      · rename_i c
        rw [List.getElem?_set_ne c]
        exact w.ow j dj q
    · by_cases c : i = j
      · subst c
        rw [List.getElem?_set_self hi] at q
        cases q
      · rw [List.getElem?_set_ne c] at q
        rw [List.getElem?_set_ne c]
        exact w.io j dj q
    · rw [own_set hi] at q1 q2
      split at q1
      · cases q1
      · split at q2
        · cases q2
        · rename_i c1 c2
          rw [List.getElem?_set_ne c1] at g1
          rw [List.getElem?_set_ne c2] at g2
          exact w.nd j k l dj dk q1 q2 g1 g2
  cases c : e[i]? with
  | none =>
    simp only [c] at h
    cases h
  | some x =>
    have hi : i < e.length := (List.getElem?_eq_some_iff.mp c).1
    simp only [c] at h
    cases x <;> first | (cases h; done) | skip
    all_goals
      cases h
      exact key hi fun d' q => by rw [c] at q; cases q
theorem Wd.setOw (w : Wd K F τ e σ P H) {i : Nat} {d : D} {v : V} {e' : DE} (h : setOw e i d = some e') (r : RRp K F e σ P H (.f d) v) : Wd K F τ e' (σ.set i (some v)) P H := by
  unfold Dv.setOw at h
  obtain ⟨l, rfl, r1, r2, r3, r4⟩ := r
  have key : i < e.length → (∀ d', e[i]? ≠ some (.io d')) → Wd K F τ (e.set i (.ow d)) (σ.set i (some (.ref l))) P H := fun hi hio => by
    have hl := w.len
    refine ⟨by rw [List.length_set, List.length_set]; exact hl, w.pH, w.fH, w.fP, fun j dj q => ?_, fun j dj q => ?_, fun j dj q => ?_, fun j k m dj dk q1 q2 g1 g2 => ?_⟩
    · by_cases c : i = j
      · subst c
        rw [List.getElem?_set_self hi] at q
        cases q
      · rw [List.getElem?_set_ne c] at q
        rw [List.getElem?_set_ne c]
        exact w.im j dj q
    · rw [own_set hi] at q
      split at q
      · rename_i c
        subst c
        cases q
        exact ⟨l, by rw [List.getElem?_set_self (by omega)], r1, r2, r3⟩
      · rename_i c
        rw [List.getElem?_set_ne c]
        exact w.ow j dj q
    · by_cases c : i = j
      · subst c
        rw [List.getElem?_set_self hi] at q
        cases q
      · rw [List.getElem?_set_ne c] at q
        rw [List.getElem?_set_ne c]
        exact w.io j dj q
    · rw [own_set hi] at q1 q2
      split at q1
      · rename_i c1
        split at q2
        · rename_i c2
          exact c1.symm.trans c2
        · rename_i c2
          subst c1
          rw [List.getElem?_set_self (by omega)] at g1
          rw [List.getElem?_set_ne c2] at g2
          cases g1
          exact absurd g2 (r4 k dk q2)
      · rename_i c1
        split at q2
        · rename_i c2
          subst c2
          rw [List.getElem?_set_self (by omega)] at g2
          rw [List.getElem?_set_ne c1] at g1
          cases g2
          exact absurd g1 (r4 j dj q1)
        · rename_i c2
          rw [List.getElem?_set_ne c1] at g1
          rw [List.getElem?_set_ne c2] at g2
          exact w.nd j k m dj dk q1 q2 g1 g2
  cases c : e[i]? with
  | none =>
    simp only [c] at h
    cases h
  | some x =>
    have hi : i < e.length := (List.getElem?_eq_some_iff.mp c).1
    simp only [c] at h
    cases x <;> first | (cases h; done) | skip
    all_goals
      cases h
      exact key hi fun d' q => by rw [c] at q; cases q
theorem own_put {i j : Nat} {d d0 : D} (ho : own e i = some d0) : own (putOw e i d) j = if i = j then some d else own e j := by
  have hi := own_lt ho
  unfold own at ho
  unfold putOw
  cases c : e[i]? with
  | none =>
    rw [c] at ho
    cases ho
  | some x =>
    rw [c] at ho
    cases x <;> first | (cases ho; done) | (rw [own_set hi])
theorem put_get {i j : Nat} {d : D} (h : i ≠ j) : (putOw e i d)[j]? = e[j]? := by
  unfold putOw
  split
  · rw [List.getElem?_set_ne h]
  · rw [List.getElem?_set_ne h]
  · rfl
theorem put_io {i j : Nat} {d d' : D} (h : (putOw e i d)[j]? = some (.io d')) : ∃ d'', e[j]? = some (.io d'') := by
  by_cases c : i = j
  · subst c
    unfold putOw at h
    split at h
    · rename_i d1 q
      rw [List.getElem?_set_self (List.getElem?_eq_some_iff.mp q).1] at h
      cases h
    · rename_i d1 q
      exact ⟨d1, q⟩
    · exact ⟨d', h⟩
  · rw [put_get c] at h
    exact ⟨d', h⟩
theorem put_im {i j : Nat} {d d' d0 : D} (ho : own e i = some d0) (h : (putOw e i d)[j]? = some (.im d')) : e[j]? = some (.im d') := by
  by_cases c : i = j
  · subst c
    have := own_put (j := i) (d := d) ho
    rw [if_pos rfl] at this
    unfold own at this
    rw [h] at this
    cases this
  · rw [put_get c] at h
    exact h
theorem put_len {i : Nat} {d : D} : (putOw e i d).length = e.length := by
  unfold putOw
  split <;> simp
/-- the object of a cell is changed -/
theorem Wd.put (w : Wd K F τ e σ P H) {i : Nat} {d d0 : D} {l : Addr} {o : HO} (ho : own e i = some d0) (hl : σ[i]? = some (some (.ref l))) (h : ObO K P d o) : Wd K F τ (putOw e i d) σ P (upd H l o) := by
  obtain ⟨l', q1, q2, q3, q4⟩ := w.ow i d0 ho
  rw [hl] at q1
  cases q1
  refine ⟨by rw [put_len]; exact w.len, fun a x q => ?_, fun a x q => ?_, w.fP, fun j dj q => w.im j dj (put_im ho q), fun j dj q => ?_, fun j dj q => ?_, fun j k m dj dk p1 p2 g1 g2 => ?_⟩
  · rw [upd_ne (ne_of_none q q3)]
    exact w.pH a x q
  · rw [upd_ne (ne_of_none q q2)]
    exact w.fH a x q
  · rw [own_put ho] at q
    split at q
    · rename_i c
      subst c
      cases q
      exact ⟨l, hl, q2, q3, o, upd_same, h⟩
    · rename_i c
      obtain ⟨m, g1, g2, g3, g4⟩ := w.ow j dj q
      have ne : m ≠ l := fun z => c (w.nd i j l d0 dj ho q hl (by rw [← z]; exact g1))
      exact ⟨m, g1, g2, g3, g4.mono (.refl P) (upd_ne ne)⟩
  · obtain ⟨d'', q'⟩ := put_io q
    exact w.io j d'' q'
  · have o1 : ∃ d1, own e j = some d1 := by
      rw [own_put ho] at p1
      split at p1
      · rename_i c
        exact ⟨d0, by rw [← c]; exact ho⟩
      · exact ⟨dj, p1⟩
    have o2 : ∃ d1, own e k = some d1 := by
      rw [own_put ho] at p2
      split at p2
      · rename_i c
        exact ⟨d0, by rw [← c]; exact ho⟩
      · exact ⟨dk, p2⟩
    obtain ⟨d1, o1⟩ := o1
    obtain ⟨d2, o2⟩ := o2
    exact w.nd j k m d1 d2 o1 o2 g1 g2
theorem Wd.no (w : Wd K F τ e σ P H) {i : Nat} (hio : ∀ d, e[i]? ≠ some (.io d)) : Wd K F τ (e.set i .no) σ P H := by
  by_cases hi : i < e.length
  · refine ⟨by rw [List.length_set]; exact w.len, w.pH, w.fH, w.fP, fun j dj q => ?_, fun j dj q => ?_, fun j dj q => ?_, fun j k m dj dk p1 p2 => ?_⟩
    · by_cases c : i = j
      · subst c
        rw [List.getElem?_set_self hi] at q
        cases q
      · rw [List.getElem?_set_ne c] at q
        exact w.im j dj q
    · rw [own_set hi] at q
      split at q
      · cases q
      · exact w.ow j dj q
    · by_cases c : i = j
      · subst c
        rw [List.getElem?_set_self hi] at q
        cases q
      · rw [List.getElem?_set_ne c] at q
        exact w.io j dj q
    · rw [own_set hi] at p1 p2
      split at p1
      · cases p1
      · split at p2
        · cases p2
        · exact w.nd j k m dj dk p1 p2
  · rw [List.set_eq_of_length_le (by omega)]
    exact w
theorem Wd.kill : ∀ {is : List Nat} {e : DE}, Wd K F τ e σ P H → Wd K F τ (kill e is) σ P H
  | [], _, w => w
  | i :: is, e, w => by
    unfold Dv.kill
    split
    · exact Wd.kill w
    · rename_i h
      exact Wd.kill (w.no fun d q => h d q)
end

/-! ### targets -/
abbrev GF := D → DE → Option DE
/-- is: the slots that may change -/
def SndG (K : PySem.W.Frag) (is : List Nat) (t : TG) (g : GF) : Prop := ∀ {F : Hp} {τ : St} {e : DE} {σ : St} {P H : Hp} {d : D} {v : V} {e' : DE}, g d e = some e' → Wd K F τ e σ P H → Rp K P d v → ∀ Q : St → Hp → Prop,
  (∀ σ' P' H', Same P P' → Wd K F τ e' σ' P' H' → σ'.length = σ.length → (∀ j, j ∉ is → σ'[j]? = σ[j]?) → Q σ' H') → t v σ H Q
def SndGs (K : PySem.W.Frag) (is : List Nat) (t : TGs) (g : List D → DE → Option DE) : Prop := ∀ {F : Hp} {τ : St} {e : DE} {σ : St} {P H : Hp} {ds : List D} {vs : List V} {e' : DE}, g ds e = some e' → Wd K F τ e σ P H → RpL K P ds vs → ∀ Q : St → Hp → Prop,
  (∀ σ' P' H', Same P P' → Wd K F τ e' σ' P' H' → σ'.length = σ.length → (∀ j, j ∉ is → σ'[j]? = σ[j]?) → Q σ' H') → t vs σ H Q
namespace G
def name (i : Nat) : GF := fun d e => setIm e i d
def nil : List D → DE → Option DE := fun ds e => match ds with
  | [] => some e
  | _ => none
def cons (g : GF) (gs : List D → DE → Option DE) : List D → DE → Option DE := fun ds e => match ds with
  | d :: ds => (g d e).bind fun e1 => gs ds e1
  | [] => none
def tup (n : Nat) (gs : List D → DE → Option DE) : GF := fun d e => match d with
  | .tup ds => if ds.length = n then gs ds e else none
  | .ct ds => if ds.length = n then gs ds e else none
  | _ => none
/-- the cell in slot j, at an index: a list, a dict -/
def setIx : D → D → D → Option D
  | .lst ds, .int k, d => (ixN ds.length k).map fun j => .lst (ds.set j d)
  | .dK kvs, k, d => (keyOf k).bind fun k => if kvs.length < 1000000 then some (.dK (dput kvs k d)) else none
  | .dT kvs, .tup ks, d => (keysOf ks).bind fun k => if kvs.length < 1000000 then some (.dT (dput kvs k d)) else none
  | _, _, _ => none
def sub (j : Nat) (fi : EF) : GF := fun d e => (own e j).bind fun _ => (fi e).bind fun p => (own p.2 j).bind fun o => (rd p.2 p.1).bind fun k => (setIx o k d).map fun o' => putOw p.2 j o'
end G
def rSetA : TSet := fun o i v H Q => rSetL o i v H Q ∨ ∃ a H', o = .ref a ∧ DPut H a i v H' ∧ Q H'
theorem PSet.or {X : Cx} {t u : TSet} (h : PSet X t) (h' : PSet X u) : PSet X (fun o i v H Q => t o i v H Q ∨ u o i v H Q) := by
  intro pins s σ H o i v ov iv u' Q I ro ri rv q
  rcases q with q | q
  · exact h pins s σ H o i v ov iv u' Q I ro ri rv q
  · exact h' pins s σ H o i v ov iv u' Q I ro ri rv q
theorem set_dict {X : Cx} (hu : X.A.units + 1 < cLine) : PSet X (fun o i v H Q => ∃ a H', o = .ref a ∧ DPut H a i v H' ∧ Q H') := by
  intro pins s σ H o i v ov iv u Q I ro ri rv h
  obtain ⟨a, H', rfl, g, q⟩ := h
  obtain rfl : ov = Value.ref a := ro
  exact d_setItem hu I g ri rv fun s' I' => ⟨H', I', q⟩
theorem set_any {X : Cx} (hu : X.A.units + 1 < cLine) : PSet X rSetA := PSet.or set_list (set_dict hu)
section
variable {K : PySem.W.Frag}
theorem sndg_name {i : Nat} : SndG K [i] (gName i) (G.name i) := fun h w r Q q =>
  q _ _ _ (.refl _) (w.setIm h r) (by simp) fun j hj => List.getElem?_set_ne (fun z => hj (by simp [z]))
theorem sndgs_nil : SndGs K [] gNil G.nil := by
  intro F τ e σ P H ds vs e' h w r Q q
  unfold G.nil at h
  split at h
  · cases h
    exact ⟨r.inv0, q _ _ _ (.refl _) w rfl fun _ _ => rfl⟩
  · cases h
theorem sndgs_cons {is js : List Nat} {t : TG} {u : TGs} {g : GF} {gs : List D → DE → Option DE} (h1 : SndG K is t g) (h2 : SndGs K js u gs) : SndGs K (is ++ js) (gCons t u) (G.cons g gs) := by
  intro F τ e σ P H ds vs e' h w r Q q
  unfold G.cons at h
  split at h
  · rename_i d ds
    obtain ⟨e1, g1, g2⟩ := obind h
    obtain ⟨v, t', rfl, r1, r2⟩ := r.inv
    refine ⟨v, t', rfl, h1 g1 w r1 _ fun σ1 P1 H1 s1 w1 l1 k1 => ?_⟩
    refine h2 g2 w1 (r2.mono s1) _ fun σ2 P2 H2 s2 w2 l2 k2 => ?_
    refine q σ2 P2 H2 (s1.trans s2) w2 (l2.trans l1) fun j hj => ?_
    rw [List.mem_append, not_or] at hj
    exact (k2 j hj.2).trans (k1 j hj.1)
  · cases h
theorem sndg_tup {is : List Nat} {n : Nat} {t : TGs} {gs : List D → DE → Option DE} (h1 : SndGs K is t gs) : SndG K is (gTup K n t) (G.tup n gs) := by
  intro F τ e σ P H d v e' h w r Q q
  unfold G.tup at h
  split at h
  · split at h
    · rename_i c
      simp only [Rp] at r
      obtain ⟨a, vs, rfl, r1, r2⟩ := r
      exact ⟨a, vs, rfl, .of (w.pH _ _ r1), by rw [r2.len]; exact c, h1 h w r2 Q q⟩
    · cases h
  · split at h
    · rename_i c
      simp only [Rp] at r
      obtain ⟨a, vs, rfl, r1, r2⟩ := r
      exact ⟨a, vs, rfl, (ExR.of w.pH).sqt r1, by rw [r2.len]; exact c, h1 h w r2 Q q⟩
    · cases h
  · cases h
theorem setIx_ok {F : Hp} {τ : St} {e : DE} {σ : St} {P H : Hp} (w : Wd K F τ e σ P H) {j : Nat} {o o' dk d : D} {x v : V} {l : Addr} (ho : own e j = some o) (hl : σ[j]? = some (some (.ref l))) (hk : Vw K P H dk x) (hd : Rp K P d v)
    (h : G.setIx o dk d = some o') {Q : Hp → Prop} (q : ∀ H', Wd K F τ (putOw e j o') σ P H' → Q H') : rSetA (.ref l) x v H Q := by
  obtain ⟨l', q1, q2, q3, ob, q4, q5⟩ := w.ow j o ho
  rw [hl] at q1
  cases q1
  unfold G.setIx at h
  split at h
  · obtain ⟨m, h1, h2⟩ := omap h
    subst h2
    cases ob <;> first | exact q5.elim | skip
    have q5 : RpL K P _ _ := q5
    exact .inl ⟨l, _, _, m, rfl, hk, q4, by rw [q5.len]; exact h1, q _ (w.put ho hl (o := .lst _) (RpL.set hd m q5))⟩
  · obtain ⟨k, h1, h⟩ := obind h
    split at h
    · rename_i hz
      cases h
      cases ob <;> first | exact q5.elim | skip
      have q5 : RpK K P _ _ := q5
      have hk' := key_of (hk.rp w.pH) h1
      subst hk'
      exact .inr ⟨l, _, rfl, .inl ⟨_, k, q4, rfl, by rw [q5.len]; exact sz_okL hz, rfl⟩, q _ (w.put ho hl (o := .dK _) (RpK.put hd q5))⟩
    · cases h
  · obtain ⟨k, h1, h⟩ := obind h
    split at h
    · rename_i hz
      cases h
      cases ob <;> first | exact q5.elim | skip
      have q5 : RpT K P _ _ := q5
      obtain ⟨b, vs, rfl, g1, g2⟩ := hk.tup
      have g3 := keys_of g2 h1
      subst g3
      exact .inr ⟨l, _, rfl, .inr ⟨_, k, b, q4, rfl, w.pH _ _ g1, by rw [q5.len]; exact sz_okL hz, rfl⟩, q _ (w.put ho hl (o := .dT _) (RpT.put hd q5))⟩
    · cases h
  · cases h
theorem sndg_sub {j : Nat} {ti : TE} {fi : EF} (hi : SndE K ti fi) : SndG K [] (gSub (tVar j) ti rSetA) (G.sub j fi) := by
  intro F τ e σ P H d v e' h w r Q q
  obtain ⟨o0, h0, h⟩ := obind h
  obtain ⟨⟨rk, e1⟩, h1, h⟩ := obind h
  obtain ⟨o, h2, h⟩ := obind h
  obtain ⟨dk, h3, h⟩ := obind h
  obtain ⟨o', h4, h5⟩ := omap h
  subst h5
  obtain ⟨l, hl, _⟩ := w.ow j o0 h0
  refine ⟨.ref l, hl, ?_⟩
  refine hi.hv h1 w fun v1 P1 H1 s1 w1 hv1 => ?_
  exact setIx_ok w1 h2 hl (w1.rdH hv1 (by rw [rd_nf]; exact h3)) (r.mono s1) h4 fun H' w' => q σ P1 H' s1 w' rfl fun _ _ => rfl
end

/-! ### statements -/
inductive Out where
  | nx (e : DE) | rt (r : R) (e : DE) | bk (e : DE) | ct (e : DE)
abbrev SF := DE → Option Out
def Fin (K : PySem.W.Frag) (F : Hp) (τ : St) (P : Hp) (D : Ends) : Out → Prop
  | .nx e => ∀ σ P' H', Same P P' → Wd K F τ e σ P' H' → D.nx σ H'
  | .bk e => ∀ σ P' H', Same P P' → Wd K F τ e σ P' H' → D.bk σ H'
  | .ct e => ∀ σ P' H', Same P P' → Wd K F τ e σ P' H' → D.ct σ H'
  | .rt r e => ∀ σ v P' H', Same P P' → Wd K F τ e σ P' H' → RRp K F e σ P' H' r v → D.rt v H'
def SndS (K : PySem.W.Frag) (t : TS) (f : SF) : Prop := ∀ {F : Hp} {τ : St} {e : DE} {σ : St} {P H : Hp} {o : Out} {D : Ends}, f e = some o → Wd K F τ e σ P H → Fin K F τ P D o → t D σ H
theorem Fin.mono {K : PySem.W.Frag} {F : Hp} {τ : St} {P P' : Hp} {D : Ends} {o : Out} (h : Fin K F τ P D o) (s : Same P P') : Fin K F τ P' D o := by
  cases o with
  | nx e => exact fun σ P2 H2 s2 w => h σ P2 H2 (s.trans s2) w
  | bk e => exact fun σ P2 H2 s2 w => h σ P2 H2 (s.trans s2) w
  | ct e => exact fun σ P2 H2 s2 w => h σ P2 H2 (s.trans s2) w
  | rt r e => exact fun σ v P2 H2 s2 w => h σ v P2 H2 (s.trans s2) w
/-- what an iteration walks: its items -/
abbrev IF := DE → Option (List D × DE)
namespace S
def nil : SF := fun e => some (.nx e)
def never : SF := fun _ => none
def seq (f g : SF) : SF := fun e => (f e).bind fun o => match o with
  | .nx e1 => g e1
  | o => some o
def asg (g : GF) (f : EF) : SF := fun e => (f e).bind fun p => (fz p.2 p.1).bind fun q => (g q.1 q.2).map .nx
def set (i : Nat) (f : EF) : SF := asg (G.name i) f
/-- the name gets a cell of its own -/
def own (i : Nat) (f : EF) : SF := fun e => (f e).bind fun p => match p.1 with
  | .f d => (setOw p.2 i d).map .nx
  | _ => none
def drop (f : EF) : SF := fun e => (f e).map fun p => .nx p.2
def ret (f : EF) : SF := fun e => (f e).map fun p => .rt p.1 p.2
def retN : SF := fun e => some (.rt (.v .non) e)
def brk : SF := fun e => some (.bk e)
def cont : SF := fun e => some (.ct e)
def ite (t : TF) (f g : SF) : SF := fun e => (t e).bind fun p => if p.1 then f p.2 else g p.2
def loop (g : GF) (body : SF) (ks : List Nat) : List D → DE → Option Out
  | [], e => some (.nx e)
  | d :: ds, e => (g d e).bind fun e1 => (body e1).bind fun o => match o with
    | .nx e2 => loop g body ks ds (kill e2 ks)
    | .ct e2 => loop g body ks ds (kill e2 ks)
    | .bk e2 => some (.nx (kill e2 ks))
    | .rt r e2 => some (.rt r e2)
/-- ks: slots that are forgotten behind each turn -/
def for_ (it : IF) (g : GF) (ks : List Nat) (body : SF) : SF := fun e => (it e).bind fun p => loop g body ks p.1 p.2
def whileN (c : TF) (body : SF) (ks : List Nat) : Nat → DE → Option Out
  | 0, _ => none
  | n + 1, e => (c e).bind fun p => if p.1 then (body p.2).bind fun o => match o with
      | .nx e2 => whileN c body ks n (kill e2 ks)
      | .ct e2 => whileN c body ks n (kill e2 ks)
      | .bk e2 => some (.nx (kill e2 ks))
      | .rt r e2 => some (.rt r e2)
    else some (.nx p.2)
@[irreducible] def fuel : Nat := 1000000000000
def while_ (c : TF) (ks : List Nat) (body : SF) : SF := fun e => whileN c body ks fuel e
end S
section
variable {K : PySem.W.Frag}
theorem snds_nil : SndS K tNext S.nil := fun {_ _ _ σ P H _ _} h w q => by
  cases h
  exact q σ P H (.refl P) w
theorem snds_never : SndS K tNever S.never := fun h w q => by cases h
theorem snds_seq {t u : TS} {f g : SF} (h1 : SndS K t f) (h2 : SndS K u g) : SndS K (tSeq t u) (S.seq f g) := by
  intro F τ e σ P H o D h w q
  obtain ⟨o1, g1, g2⟩ := obind h
  refine h1 (D := { D with nx := u D }) g1 w ?_
  cases o1 with
  | nx e1 => exact fun σ1 P1 H1 s1 w1 => h2 g2 w1 (q.mono s1)
  | bk e1 =>
    cases g2
    exact q
  | ct e1 =>
    cases g2
    exact q
  | rt r e1 =>
    cases g2
    exact q
theorem snds_asg {te : TE} {f : EF} {t : TG} {g : GF} {is : List Nat} (hg : SndG K is t g) (he : SndE K te f) : SndS K (tAsg te t) (S.asg g f) := by
  intro F τ e σ P H o D h w q
  obtain ⟨⟨r, e1⟩, h1, h⟩ := obind h
  obtain ⟨⟨d, e2⟩, h2, h⟩ := obind h
  obtain ⟨e3, h3, h4⟩ := omap h
  subst h4
  refine he h1 w _ fun v P1 H1 s1 w1 r1 => ?_
  obtain ⟨P2, s2, w2, r2⟩ := w1.fz r1 h2
  exact hg h3 w2 r2 _ fun σ3 P3 H3 s3 w3 _ _ => q σ3 P3 H3 ((s1.trans s2).trans s3) w3
theorem snds_set {i : Nat} {te : TE} {f : EF} (he : SndE K te f) : SndS K (tAsg te (gName i)) (S.set i f) := fun h w q => snds_asg sndg_name he h w q
theorem snds_own {i : Nat} {te : TE} {f : EF} (he : SndE K te f) : SndS K (tAsg te (gName i)) (S.own i f) := by
  intro F τ e σ P H o D h w q
  obtain ⟨⟨r, e1⟩, h1, h⟩ := obind h
  cases r with
  | v _ => cases h
  | s _ => cases h
  | f d =>
    obtain ⟨e2, h2, h3⟩ := omap h
    subst h3
    exact he h1 w _ fun v P1 H1 s1 w1 r1 => q _ P1 H1 s1 (w1.setOw h2 r1)
theorem snds_drop {te : TE} {f : EF} (he : SndE K te f) : SndS K (tDrop te) (S.drop f) := by
  intro F τ e σ P H o D h w q
  obtain ⟨⟨r, e1⟩, h1, h2⟩ := omap h
  subst h2
  exact he h1 w _ fun v P1 H1 s1 w1 r1 => q σ P1 H1 s1 w1
theorem snds_ret {te : TE} {f : EF} (he : SndE K te f) : SndS K (tRet te) (S.ret f) := by
  intro F τ e σ P H o D h w q
  obtain ⟨⟨r, e1⟩, h1, h2⟩ := omap h
  subst h2
  exact he h1 w _ fun v P1 H1 s1 w1 r1 => q σ v P1 H1 s1 w1 r1
theorem snds_retN : SndS K tRetN S.retN := fun {_ _ _ σ P H _ _} h w q => by
  cases h
  exact q σ .non P H (.refl P) w rfl
theorem snds_brk : SndS K tBreak S.brk := fun {_ _ _ σ P H _ _} h w q => by
  cases h
  exact q σ P H (.refl P) w
theorem snds_cont : SndS K tCont S.cont := fun {_ _ _ σ P H _ _} h w q => by
  cases h
  exact q σ P H (.refl P) w
theorem snds_ite {tc : TT} {f : TF} {t u : TS} {g k : SF} (hc : SndT K tc f) (h1 : SndS K t g) (h2 : SndS K u k) : SndS K (tIfS tc t u) (S.ite f g k) := by
  intro F τ e σ P H o D h w q
  obtain ⟨⟨b, e1⟩, g1, g2⟩ := obind h
  refine hc g1 w _ fun P1 H1 s1 w1 => ?_
  cases b with
  | true => exact iteT (h1 g2 w1 (q.mono s1))
  | false => exact iteF (h2 g2 w1 (q.mono s1))
theorem snds_while {tc : TT} {f : TF} {t : TS} {g : SF} {ks : List Nat} (hc : SndT K tc f) (hb : SndS K t g) : SndS K (tWhile tc t) (S.while_ f ks g) := by
  intro F τ e σ P H o D h w q
  refine ⟨fun m σ' H' => ∃ e' P', Same P P' ∧ Wd K F τ e' σ' P' H' ∧ S.whileN f g ks m e' = some o, ⟨S.fuel, e, P, .refl P, w, h⟩, ?_⟩
  rintro m σ' H' ⟨e', P', s', w', h'⟩
  cases m with
  | zero => cases h'
  | succ n =>
    obtain ⟨⟨b, e1⟩, g1, g2⟩ := obind h'
    refine hc g1 w' _ fun P1 H1 s1 w1 => ?_
    cases b with
    | false =>
      refine iteF ?_
      cases g2
      exact q σ' P1 H1 (s'.trans s1) w1
    | true =>
      refine iteT ⟨fun σ2 H2 => ∃ e2 P2, Same P P2 ∧ Wd K F τ e2 σ2 P2 H2 ∧ S.whileN f g ks n e2 = some o, fun σ2 H2 hN => ⟨n, Nat.lt_succ_self n, hN⟩, ?_⟩
      obtain ⟨o1, g3, g4⟩ := obind g2
      refine hb g3 w1 ?_
      cases o1 with
      | nx e2 => exact fun σ2 P2 H2 s2 w2 => ⟨_, P2, (s'.trans s1).trans s2, w2.kill, g4⟩
      | ct e2 => exact fun σ2 P2 H2 s2 w2 => ⟨_, P2, (s'.trans s1).trans s2, w2.kill, g4⟩
      | bk e2 =>
        cases g4
        exact fun σ2 P2 H2 s2 w2 => q σ2 P2 H2 ((s'.trans s1).trans s2) w2.kill
      | rt r e2 =>
        cases g4
        exact fun σ2 v P2 H2 s2 w2 r2 => q σ2 v P2 H2 ((s'.trans s1).trans s2) w2 r2
/-! what a for walks -/
/-- J yields the items ds, whatever is laid meanwhile -/
structure Walks (K : PySem.W.Frag) (J : It) (P : Hp) (ds : List D) : Prop where
  item : ∀ {F : Hp} {τ : St} {e : DE} {σ : St} {P' H : Hp} {i : Nat} {d : D}, Same P P' → Wd K F τ e σ P' H → ds[i]? = some d → J.go i H ∧ ∀ x H', J.yld i H x H' → ∃ P'', Same P' P'' ∧ Wd K F τ e σ P'' H' ∧ Rp K P'' d x
  stop : ∀ {F : Hp} {τ : St} {e : DE} {σ : St} {P' H : Hp} {i : Nat}, Same P P' → Wd K F τ e σ P' H → ds.length ≤ i → J.stop i H
def SndI (K : PySem.W.Frag) (wi : TI) (f : IF) : Prop := ∀ {F : Hp} {τ : St} {e : DE} {σ : St} {P H : Hp} {ds : List D} {e' : DE}, f e = some (ds, e') → Wd K F τ e σ P H → ∀ R : It → Hp → Prop,
  (∀ J P' H', Same P P' → Wd K F τ e' σ P' H' → Walks K J P' ds → R J H') → wi σ H R
theorem snds_for {wi : TI} {it : IF} {t : TG} {g : GF} {is ks : List Nat} {tb : TS} {body : SF} (hi : SndI K wi it) (hg : SndG K is t g) (hb : SndS K tb body) : SndS K (tFor wi t tb) (S.for_ it g ks body) := by
  intro F τ e σ P H o D h w q
  obtain ⟨⟨ds, e1⟩, h1, h2⟩ := obind h
  refine hi h1 w _ fun J P1 H1 s1 w1 wk => ?_
  refine ⟨fun i m σ' H' => m = ds.length - i ∧ i ≤ ds.length ∧ ∃ e' P', Same P1 P' ∧ Wd K F τ e' σ' P' H' ∧ S.loop g body ks (ds.drop i) e' = some o, ⟨_, rfl, Nat.zero_le _, e1, P1, .refl P1, w1, h2⟩, ?_⟩
  rintro i m σ' H' ⟨rfl, hi', e', P', s', w', h'⟩
  by_cases c : i < ds.length
  · refine .inr ?_
    have gd : ds[i]? = some ds[i] := List.getElem?_eq_getElem c
    rw [List.drop_eq_getElem_cons c] at h'
    unfold S.loop at h'
    obtain ⟨e2, g1, h'⟩ := obind h'
    obtain ⟨o1, g2, g3⟩ := obind h'
    obtain ⟨go, yl⟩ := wk.item s' w' gd
    refine ⟨go, fun σ2 H2 => ∃ e2 P2, Same P1 P2 ∧ Wd K F τ e2 σ2 P2 H2 ∧ S.loop g body ks (ds.drop (i + 1)) e2 = some o, fun σ2 H2 hN => ⟨ds.length - (i + 1), by omega, rfl, c, hN⟩, fun x H2 y => ?_⟩
    obtain ⟨P2, s2, w2, r2⟩ := yl x H2 y
    refine hg g1 w2 r2 _ fun σ3 P3 H3 s3 w3 _ _ => ?_
    refine hb g2 w3 ?_
    have st : Same P1 P3 := (s'.trans s2).trans s3
    cases o1 with
    | nx e3 => exact fun σ4 P4 H4 s4 w4 => ⟨_, P4, st.trans s4, w4.kill, g3⟩
    | ct e3 => exact fun σ4 P4 H4 s4 w4 => ⟨_, P4, st.trans s4, w4.kill, g3⟩
    | bk e3 =>
      cases g3
      exact fun σ4 P4 H4 s4 w4 => q σ4 P4 H4 ((s1.trans st).trans s4) w4.kill
    | rt r e3 =>
      cases g3
      exact fun σ4 v P4 H4 s4 w4 r4 => q σ4 v P4 H4 ((s1.trans st).trans s4) w4 r4
  · refine .inl ⟨wk.stop s' w' (by omega), ?_⟩
    rw [List.drop_eq_nil_of_le (by omega)] at h'
    cases h'
    exact q σ' P' H' (s1.trans s') w'
end
end Dv

set_option Elab.async false
set_option linter.all false
set_option maxRecDepth 100000
set_option maxHeartbeats 2000000
set_option autoImplicit false
/-! Dv5: what is walked, comprehensions, cells changed by methods, defs called. -/
namespace Dv
open PySem L2

/-! ### what is walked -/
namespace I
/-- a list, a tuple: its items (a cell is given up) -/
def seq (f : EF) : IF := fun e => (f e).bind fun p => (fz p.2 p.1).bind fun q => match q.1 with
  | .lst ds => some (ds, q.2)
  | .sq ds => some (ds, q.2)
  | _ => none
def tup (f : EF) : IF := fun e => (f e).bind fun p => (fz p.2 p.1).bind fun q => match q.1 with
  | .tup ds => some (ds, q.2)
  | .ct ds => some (ds, q.2)
  | _ => none
def rngD (lo : Int) (n : Nat) : List D := (List.range n).map fun (i : Nat) => D.int (lo + (i : Int))
def rng1 (f : EF) : IF := fun e => (f e).bind fun p => match rd p.2 p.1 with
  | some (.int j) => if -(2 ^ 62) ≤ j ∧ j < 2 ^ 62 then some (rngD 0 j.toNat, p.2) else none
  | _ => none
def rng2 (f g : EF) : IF := fun e => (f e).bind fun p => (g p.2).bind fun q => match rd q.2 p.1, rd q.2 q.1 with
  | some (.int i), some (.int j) => if -(2 ^ 62) ≤ i ∧ i < 2 ^ 62 ∧ -(2 ^ 62) ≤ j ∧ j < 2 ^ 62 then some (rngD i (j - i).toNat, q.2) else none
  | _, _ => none
end I
section
variable {K : PySem.W.Frag}
theorem rngD_get {lo : Int} {n i : Nat} {d : D} (h : (I.rngD lo n)[i]? = some d) : i < n ∧ d = .int (lo + (i : Int)) := by
  unfold I.rngD at h
  rw [List.getElem?_map] at h
  obtain ⟨j, h1, h2⟩ := omap h
  obtain ⟨h3, h4⟩ := List.getElem?_eq_some_iff.mp h1
  rw [List.getElem_range] at h4
  rw [List.length_range] at h3
  subst h4
  exact ⟨h3, h2.symm⟩
theorem rngD_len {lo : Int} {n : Nat} : (I.rngD lo n).length = n := by simp [I.rngD]
theorem walks_rng {lo : Int} {n : Nat} {P : Hp} : Walks K (Itr lo n) P (I.rngD lo n) where
  item := fun {F τ e σ P' H i d} s w g => by
    obtain ⟨h1, h2⟩ := rngD_get g
    refine ⟨h1, fun x H' y => ?_⟩
    obtain ⟨e1, e2⟩ := y
    subst e1 e2 h2
    exact ⟨P', .refl P', w, rfl⟩
  stop := fun {F τ e σ P' H i} s w g => by
    rw [rngD_len] at g
    exact g
theorem walks_lst {a : Addr} {vs : List V} {ds : List D} {P : Hp} (h : SqL K P a vs) (r : RpL K P ds vs) : Walks K (Itl K a) P ds where
  item := fun {F τ e σ P' H i d} s w g => by
    obtain ⟨v, h1, h2⟩ := r.get g
    have sH : SqL K H a vs := (ExR.of w.pH).seq ((ExR.of s).seq h)
    refine ⟨⟨vs, v, sH, h1⟩, fun x H' y => ?_⟩
    obtain ⟨e1, e2⟩ := y
    subst e1
    have e3 := e2 vs sH
    rw [h1] at e3
    cases e3
    exact ⟨P', .refl P', w, h2.mono s⟩
  stop := fun {F τ e σ P' H i} s w g => ⟨vs, (ExR.of w.pH).seq ((ExR.of s).seq h), by rw [r.len]; exact g⟩
theorem walks_tup {a : Addr} {vs : List V} {ds : List D} {P : Hp} (h : SqT K P a vs) (r : RpL K P ds vs) : Walks K (Itt K a) P ds where
  item := fun {F τ e σ P' H i d} s w g => by
    obtain ⟨v, h1, h2⟩ := r.get g
    have sH : SqT K H a vs := (ExR.of w.pH).sqt ((ExR.of s).sqt h)
    refine ⟨⟨vs, v, sH, h1⟩, fun x H' y => ?_⟩
    obtain ⟨e1, e2⟩ := y
    subst e1
    have e3 := e2 vs sH
    rw [h1] at e3
    cases e3
    exact ⟨P', .refl P', w, h2.mono s⟩
  stop := fun {F τ e σ P' H i} s w g => ⟨vs, (ExR.of w.pH).sqt ((ExR.of s).sqt h), by rw [r.len]; exact g⟩
theorem sndi_seq {tl : TE} {f : EF} (hf : SndE K tl f) : SndI K (iList K tl) (I.seq f) := by
  intro F τ e σ P H ds e' h w R q
  obtain ⟨⟨r, e1⟩, h1, h⟩ := obind h
  obtain ⟨⟨d, e2⟩, h2, h⟩ := obind h
  refine hf h1 w _ fun v P1 H1 s1 w1 r1 => ?_
  obtain ⟨P2, s2, w2, r2⟩ := w1.fz r1 h2
  dsimp only at h
  split at h
  · cases h
    simp only [Rp] at r2
    obtain ⟨a, vs, rfl, g1, g2⟩ := r2
    exact ⟨a, rfl, ⟨vs, .of (w2.pH _ _ g1)⟩, q _ P2 H1 (s1.trans s2) w2 (walks_lst (.of g1) g2)⟩
  · cases h
    simp only [Rp] at r2
    obtain ⟨a, vs, rfl, g1, g2⟩ := r2
    exact ⟨a, rfl, ⟨vs, (ExR.of w2.pH).seq g1⟩, q _ P2 H1 (s1.trans s2) w2 (walks_lst g1 g2)⟩
  · cases h
theorem sndi_tup {tl : TE} {f : EF} (hf : SndE K tl f) : SndI K (iTup K tl) (I.tup f) := by
  intro F τ e σ P H ds e' h w R q
  obtain ⟨⟨r, e1⟩, h1, h⟩ := obind h
  obtain ⟨⟨d, e2⟩, h2, h⟩ := obind h
  refine hf h1 w _ fun v P1 H1 s1 w1 r1 => ?_
  obtain ⟨P2, s2, w2, r2⟩ := w1.fz r1 h2
  dsimp only at h
  split at h
  · cases h
    simp only [Rp] at r2
    obtain ⟨a, vs, rfl, g1, g2⟩ := r2
    exact ⟨a, rfl, ⟨vs, .of (w2.pH _ _ g1)⟩, q _ P2 H1 (s1.trans s2) w2 (walks_tup (.of g1) g2)⟩
  · cases h
    simp only [Rp] at r2
    obtain ⟨a, vs, rfl, g1, g2⟩ := r2
    exact ⟨a, rfl, ⟨vs, (ExR.of w2.pH).sqt g1⟩, q _ P2 H1 (s1.trans s2) w2 (walks_tup g1 g2)⟩
  · cases h
theorem rd_int {F : Hp} {τ : St} {e : DE} {σ : St} {P H : Hp} (w : Wd K F τ e σ P H) {r : R} {v : V} {i : Int} (hv : HV K P σ (nf r) v) (h : Dv.rd e r = some (.int i)) : v = .int i :=
  show Vw K P H (.int i) v from w.rdH (r := nf r) hv (by rw [rd_nf]; exact h)
theorem sndi_rng1 {t : TE} {f : EF} (hf : SndE K t f) : SndI K (iRng1 (tCons t tNil)) (I.rng1 f) := by
  intro F τ e σ P H ds e' h w R q
  obtain ⟨⟨r, e1⟩, h1, h⟩ := obind h
  refine hf.hv h1 w fun v P1 H1 s1 w1 r1 => ?_
  dsimp only at h
  split at h
  · rename_i j hj
    split at h
    · rename_i c
      cases h
      obtain rfl := rd_int w1 r1 hj
      exact ⟨j, rfl, c.1, c.2, q _ P1 H1 s1 w1 walks_rng⟩
    · cases h
  · cases h
theorem sndi_rng2 {t u : TE} {f g : EF} (hf : SndE K t f) (hg : SndE K u g) : SndI K (iRng2 (tCons t (tCons u tNil))) (I.rng2 f g) := by
  intro F τ e σ P H ds e' h w R q
  obtain ⟨⟨r, e1⟩, h1, h⟩ := obind h
  obtain ⟨⟨r2, e2⟩, h2, h⟩ := obind h
  refine hf.hv h1 w fun v P1 H1 s1 w1 r1 => ?_
  refine hg.hv h2 w1 fun v2 P2 H2 s2 w2 rr2 => ?_
  dsimp only at h
  split at h
  · rename_i i j hi hj
    split at h
    · rename_i c
      cases h
      obtain rfl := rd_int w2 (r1.mono s2) hi
      obtain rfl := rd_int w2 rr2 hj
      exact ⟨i, j, rfl, c, q _ P2 H2 (s1.trans s2) w2 walks_rng⟩
    · cases h
  · cases h
end

/-! ### comprehensions -/
/-- the block's own slots: emptied, given back -/
def wipeE (e : DE) : List Nat → DE
  | [] => e
  | i :: is => (wipeE e is).set i .no
def giveE (e0 : DE) (e : DE) : List Nat → DE
  | [] => e
  | i :: is => (giveE e0 e is).set i (e0[i]?.getD .no)
def freeE (e : DE) (is : List Nat) : Bool := is.all fun i => match e[i]? with
  | some .no => true
  | some (.im _) => true
  | _ => false
namespace E
def lcLoop (g : GF) (t : TF) (f : EF) (is : List Nat) : List D → DE → Option (List D × DE)
  | [], e => some ([], e)
  | d :: ds, e => (g d e).bind fun e1 => (t e1).bind fun p => if p.1 then (f p.2).bind fun q => (fz q.2 q.1).bind fun r => if freeE r.2 is = true then (lcLoop g t f is ds (wipeE r.2 is)).map fun z => (r.1 :: z.1, z.2) else none
    else if freeE p.2 is = true then lcLoop g t f is ds (wipeE p.2 is) else none
def lc (is : List Nat) (it : IF) (g : GF) (t : TF) (f : EF) : EF := fun e => (it e).bind fun p => if p.1.length ≤ 1000000 ∧ freeE p.2 is = true then (lcLoop g t f is p.1 (wipeE p.2 is)).map fun q => (.f (.lst q.1), giveE p.2 q.2 is) else none
end E
namespace T
def yes : TF := fun e => some (true, e)
end T
section
variable {K : PySem.W.Frag} {F : Hp} {τ σ : St} {e e0 : DE} {P P0 H : Hp}
theorem wipeE_len (e : DE) : ∀ is : List Nat, (wipeE e is).length = e.length
  | [] => rfl
  | i :: is => by
    unfold wipeE
    rw [List.length_set, wipeE_len e is]
theorem wipeE_get {e : DE} {j : Nat} : ∀ {is : List Nat}, j ∉ is → (wipeE e is)[j]? = e[j]?
  | [], _ => rfl
  | i :: is, h => by
    unfold wipeE
    rw [List.mem_cons, not_or] at h
    rw [List.getElem?_set_ne (fun z => h.1 z.symm)]
    exact wipeE_get h.2
theorem wipeE_in {e : DE} {j : Nat} : ∀ {is : List Nat}, j ∈ is → (wipeE e is)[j]? = some .no ∨ (wipeE e is)[j]? = none
  | i :: is, h => by
    unfold wipeE
    by_cases c : i = j
    · subst c
      by_cases q : i < (wipeE e is).length
      · exact .inl (List.getElem?_set_self q)
      · exact .inr (List.getElem?_eq_none (by simpa using q))
    · rw [List.getElem?_set_ne c]
      rcases List.mem_cons.mp h with z | z
      · exact absurd z.symm c
      · exact wipeE_in z
theorem giveE_len (e0 e : DE) : ∀ is : List Nat, (giveE e0 e is).length = e.length
  | [] => rfl
  | i :: is => by
    unfold giveE
    rw [List.length_set, giveE_len e0 e is]
theorem giveE_get {j : Nat} : ∀ {is : List Nat}, j ∉ is → (giveE e0 e is)[j]? = e[j]?
  | [], _ => rfl
  | i :: is, h => by
    unfold giveE
    rw [List.mem_cons, not_or] at h
    rw [List.getElem?_set_ne (fun z => h.1 z.symm)]
    exact giveE_get h.2
theorem giveE_in {j : Nat} : ∀ {is : List Nat}, j ∈ is → j < e.length → (giveE e0 e is)[j]? = some (e0[j]?.getD .no)
  | i :: is, h, hl => by
    unfold giveE
    by_cases c : i = j
    · subst c
      exact List.getElem?_set_self (by rw [giveE_len]; exact hl)
    · rw [List.getElem?_set_ne c]
      rcases List.mem_cons.mp h with z | z
      · exact absurd z.symm c
      · exact giveE_in z hl
theorem wipe_in {σ : St} {j : Nat} : ∀ {is : List Nat}, j ∈ is → (wipe σ is)[j]? = some none ∨ (wipe σ is)[j]? = none
  | i :: is, h => by
    unfold wipe
    by_cases c : i = j
    · subst c
      by_cases q : i < (wipe σ is).length
      · exact .inl (List.getElem?_set_self q)
      · exact .inr (List.getElem?_eq_none (by simpa using q))
    · rw [List.getElem?_set_ne c]
      rcases List.mem_cons.mp h with z | z
      · exact absurd z.symm c
      · exact wipe_in z
theorem wipe_same {σ σ' : St} {is js : List Nat} (hl : σ'.length = σ.length) (hk : ∀ j, j ∉ js → σ'[j]? = σ[j]?) (hs : ∀ j, j ∈ js → j ∈ is) : wipe σ' is = wipe σ is := by
  apply List.ext_getElem?
  intro j
  by_cases c : j ∈ is
  · by_cases q : j < σ.length
    · have h1 : j < (wipe σ is).length := by rw [wipe_length]; exact q
      have h2 : j < (wipe σ' is).length := by rw [wipe_length]; omega
      rcases wipe_in (σ := σ) c with z | z
      · rcases wipe_in (σ := σ') c with z' | z'
        · rw [z, z']
        · rw [List.getElem?_eq_getElem h2] at z'
          cases z'
      · rw [List.getElem?_eq_getElem h1] at z
        cases z
    · rw [List.getElem?_eq_none (by rw [wipe_length]; omega), List.getElem?_eq_none (by rw [wipe_length]; omega)]
  · rw [wipe_out c, wipe_out c]
    exact hk j fun z => c (hs j z)
theorem own_eq {e e' : DE} {j : Nat} (h : e[j]? = e'[j]?) : own e j = own e' j := by
  unfold own
  rw [h]
theorem free_own {is : List Nat} {j : Nat} {d : D} (h : freeE e is = true) (ho : own e j = some d) : j ∉ is := fun hm => by
  have := List.all_eq_true.mp h j hm
  unfold own at ho
  cases c : e[j]? with
  | none =>
    rw [c] at ho
    cases ho
  | some x =>
    rw [c] at ho this
    cases x <;> first | (cases ho; done) | (cases this; done)
theorem own_wipe {is : List Nat} {j : Nat} {d : D} (h : own (wipeE e is) j = some d) : j ∉ is ∧ own e j = some d := by
  by_cases c : j ∈ is
  · rcases wipeE_in (e := e) c with z | z
    · unfold own at h
      rw [z] at h
      cases h
    · unfold own at h
      rw [z] at h
      cases h
  · exact ⟨c, by rw [← own_eq (wipeE_get c)]; exact h⟩
/-- the block's slots are forgotten -/
theorem Wd.wipe {is : List Nat} (w : Wd K F τ e σ P H) (hf : ∀ j d, j ∈ is → e[j]? ≠ some (.io d)) : Wd K F τ (wipeE e is) (L2.wipe σ is) P H := by
  refine ⟨by rw [wipeE_len, wipe_length]; exact w.len, w.pH, w.fH, w.fP, fun j d q => ?_, fun j d q => ?_, fun j d q => ?_, fun j k l dj dk q1 q2 g1 g2 => ?_⟩
  · by_cases c : j ∈ is
    · rcases wipeE_in (e := e) c with z | z
      · rw [z] at q
        cases q
      · rw [z] at q
        cases q
    · rw [wipeE_get c] at q
      rw [wipe_out c]
      exact w.im j d q
  · obtain ⟨c, q⟩ := own_wipe q
    rw [wipe_out c]
    exact w.ow j d q
  · by_cases c : j ∈ is
    · rcases wipeE_in (e := e) c with z | z
      · rw [z] at q
        cases q
      · rw [z] at q
        cases q
    · rw [wipeE_get c] at q
      rw [wipe_out c]
      exact w.io j d q
  · obtain ⟨c1, q1⟩ := own_wipe q1
    obtain ⟨c2, q2⟩ := own_wipe q2
    rw [wipe_out c1] at g1
    rw [wipe_out c2] at g2
    exact w.nd j k l dj dk q1 q2 g1 g2
theorem own_give {is : List Nat} {j : Nat} {d : D} (hf : freeE e0 is = true) (q : own (giveE e0 e is) j = some d) : j ∉ is ∧ own e j = some d := by
  by_cases c : j ∈ is
  · by_cases h : j < e.length
    · unfold own at q
      rw [giveE_in c h] at q
      have fr := List.all_eq_true.mp hf j c
      cases c2 : e0[j]? with
      | none =>
        rw [c2] at fr
        cases fr
      | some x =>
        rw [c2] at fr q
        cases x <;> first | (cases fr; done) | (cases q; done)
    · exact absurd (own_lt q) (by rw [giveE_len]; exact h)
  · exact ⟨c, by rw [← own_eq (giveE_get c)]; exact q⟩
/-- and given back -/
theorem Wd.give {is : List Nat} (w0 : Wd K F τ e0 σ P0 H) {H' : Hp} (hf : freeE e0 is = true) (s : Same P0 P) (w : Wd K F τ e (L2.wipe σ is) P H') : Wd K F τ (giveE e0 e is) σ P H' := by
  have hl : e.length = σ.length := by rw [w.len, wipe_length]
  have ho : ∀ {j d}, own (giveE e0 e is) j = some d → j ∉ is ∧ own e j = some d := fun {j d} q => own_give hf q
  refine ⟨by rw [giveE_len]; exact hl, w.pH, w.fH, w.fP, fun j d q => ?_, fun j d q => ?_, fun j d q => ?_, fun j k l dj dk q1 q2 g1 g2 => ?_⟩
  · by_cases c : j ∈ is
    · have h : j < e.length := by
        have := (List.getElem?_eq_some_iff.mp q).1
        rw [giveE_len] at this
        exact this
      rw [giveE_in c h] at q
      cases c2 : e0[j]? with
      | none =>
        rw [c2] at q
        cases q
      | some x =>
        rw [c2] at q
        cases q
        obtain ⟨v, h1, h2⟩ := w0.im j d c2
        exact ⟨v, h1, h2.mono s⟩
    · rw [giveE_get c] at q
      obtain ⟨v, h1, h2⟩ := w.im j d q
      rw [wipe_out c] at h1
      exact ⟨v, h1, h2⟩
  · obtain ⟨c, q⟩ := ho q
    have := w.ow j d q
    rw [wipe_out c] at this
    exact this
  · by_cases c : j ∈ is
    · have h : j < e.length := by
        have := (List.getElem?_eq_some_iff.mp q).1
        rw [giveE_len] at this
        exact this
      rw [giveE_in c h] at q
      have fr := List.all_eq_true.mp hf j c
      cases c2 : e0[j]? with
      | none =>
        rw [c2] at fr
        cases fr
      | some x =>
        rw [c2] at fr q
        cases q
        cases fr
    · rw [giveE_get c] at q
      have := w.io j d q
      rw [wipe_out c] at this
      exact this
  · obtain ⟨c1, q1⟩ := ho q1
    obtain ⟨c2, q2⟩ := ho q2
    exact w.nd j k l dj dk q1 q2 (by rw [wipe_out c1]; exact g1) (by rw [wipe_out c2]; exact g2)
/-- a cell is set aside while something runs -/
def fr (F : Hp) (l : Addr) (o : HO) : Hp := fun a => if a = l then some o else F a
theorem Wd.frame {l : Addr} {o : HO} (w : Wd K F τ e σ P H) (hH : H l = some o) (hP : P l = none) (hn : ∀ i di, own e i = some di → σ[i]? ≠ some (some (.ref l))) : Wd K (fr F l o) τ e σ P H := by
  refine ⟨w.len, w.pH, fun a x q => ?_, fun a x q => ?_, w.im, fun i d q => ?_, w.io, w.nd⟩
  · unfold fr at q
    split at q
    · rename_i c
      subst c
      cases q
      exact hH
    · exact w.fH a x q
  · unfold fr at q
    split at q
    · rename_i c
      subst c
      exact fun _ => hP
    · exact w.fP a x q
  · obtain ⟨m, h1, h2, h3, h4⟩ := w.ow i d q
    refine ⟨m, h1, ?_, h3, h4⟩
    unfold fr
    rw [if_neg fun z => hn i d q (by rw [← z]; exact h1)]
    exact h2
theorem Wd.unframe {l : Addr} {o : HO} (w : Wd K (fr F l o) τ e σ P H) (hF : F l = none) (hot : isTup o = false) : Wd K F τ e σ P H ∧ H l = some o ∧ P l = none ∧ ∀ i di, own e i = some di → σ[i]? ≠ some (some (.ref l)) := by
  have h0 : fr F l o l = some o := by unfold fr; rw [if_pos rfl]
  refine ⟨⟨w.len, w.pH, fun a x q => ?_, fun a x q => ?_, w.im, fun i d q => ?_, w.io, w.nd⟩, w.fH l o h0, w.fP l o h0 hot, fun i di q z => ?_⟩
  · have ne : a ≠ l := ne_of_none q hF
    exact w.fH a x (by unfold fr; rw [if_neg ne]; exact q)
  · have ne : a ≠ l := ne_of_none q hF
    exact w.fP a x (by unfold fr; rw [if_neg ne]; exact q)
  · obtain ⟨m, h1, h2, h3, h4⟩ := w.ow i d q
    refine ⟨m, h1, ?_, h3, h4⟩
    unfold fr at h2
    split at h2
    · cases h2
    · exact h2
  · obtain ⟨m, h1, h2, h3, h4⟩ := w.ow i di q
    rw [h1] at z
    cases z
    rw [h0] at h2
    cases h2
/-- an object that nobody owns is changed -/
theorem Wd.upd {l : Addr} {o : HO} (w : Wd K F τ e σ P H) (hF : F l = none) (hP : P l = none) (hn : ∀ i di, own e i = some di → σ[i]? ≠ some (some (.ref l))) : Wd K F τ e σ P (upd H l o) := by
  refine ⟨w.len, fun a x q => ?_, fun a x q => ?_, w.fP, w.im, fun i d q => ?_, w.io, w.nd⟩
  · rw [upd_ne (ne_of_none q hP)]
    exact w.pH a x q
  · rw [upd_ne (ne_of_none q hF)]
    exact w.fH a x q
  · obtain ⟨m, h1, h2, h3, h4⟩ := w.ow i d q
    have ne : m ≠ l := fun z => hn i d q (by rw [← z]; exact h1)
    exact ⟨m, h1, h2, h3, h4.mono (.refl P) (upd_ne ne)⟩
end
section
variable {K : PySem.W.Frag}
theorem sndt_yes : SndT K tYes T.yes := fun {_ _ _ _ P H _ _} h w Q q => by
  cases h
  exact q P H (.refl P) w
theorem io_stay {e : DE} {is : List Nat} (h : ∀ j d, j ∈ is → (wipeE e is)[j]? ≠ some (.io d)) : True := trivial
theorem wipe_no {e : DE} {is : List Nat} (j : Nat) (d : D) (hm : j ∈ is) : (wipeE e is)[j]? ≠ some (.io d) := fun z => by
  rcases wipeE_in (e := e) hm with q | q
  · rw [q] at z
    cases z
  · rw [q] at z
    cases z
theorem snd_lc {is js : List Nat} {wi : TI} {it : IF} {t : TG} {g : GF} {tt : TT} {ft : TF} {te : TE} {f : EF} (hi : SndI K wi it) (hg : SndG K js t g) (ht : SndT K tt ft) (he : SndE K te f) (hs : ∀ j, j ∈ js → j ∈ is) :
    SndE K (tLc wi t tt te is) (E.lc is it g ft f) := by
  intro F τ e σ P H z e' h w Q q
  obtain ⟨⟨ds, e1⟩, h1, h⟩ := obind h
  dsimp only at h
  split at h
  · rename_i c
    obtain ⟨⟨out, e2⟩, h2, h3⟩ := omap h
    cases h3
    refine hi h1 w _ fun J P1 H1 s1 w1 wk => fun Dl hD => ?_
    have fio : ∀ j d, j ∈ is → e1[j]? ≠ some (.io d) := fun j d hm z => free_own c.2 (j := j) (d := d) (by unfold own; rw [z]) hm
    have w0 := w1.new (o := .lst []) hD
    have hDP : P1 Dl = none := w1.pH.free hD
    have hDF : F Dl = none := w1.fH.free hD
    have hDn : ∀ i di, own e1 i = some di → σ[i]? ≠ some (some (.ref Dl)) := fun i di ho z => by
      obtain ⟨l, g1, g2, g3, x, hx, _⟩ := w1.ow i di ho
      rw [g1] at z
      cases z
      rw [hD] at hx
      cases hx
    -- the invariant of the turns
    refine ⟨fun i m H' => m = ds.length - i ∧ i ≤ ds.length ∧ ∃ ei P' acc accD rest, Same P1 P' ∧ Wd K (fr F Dl (.lst acc)) τ ei (wipe σ is) P' H' ∧ RpL K P' accD acc ∧ accD.length ≤ i ∧ E.lcLoop g ft f is (ds.drop i) ei = some (rest, e2) ∧ accD ++ rest = out,
      ⟨_, rfl, Nat.zero_le _, wipeE e1 is, P1, [], [], out, .refl P1, (w0.wipe fio).frame upd_same hDP (fun i di ho => ?_), .nil, Nat.le_refl _, h2, rfl⟩, ?_⟩
    · obtain ⟨c1, c2⟩ := own_wipe ho
      rw [wipe_out c1]
      exact hDn i di c2
    · rintro i m H' ⟨rfl, hi', ei, P', acc, accD, rest, s', w', r', ln', h', eo⟩
      by_cases cl : i < ds.length
      · refine .inr ?_
        have gd : ds[i]? = some ds[i] := List.getElem?_eq_getElem cl
        rw [List.drop_eq_getElem_cons cl] at h'
        unfold E.lcLoop at h'
        obtain ⟨e3, g1, h'⟩ := obind h'
        obtain ⟨⟨b, e4⟩, g2, h'⟩ := obind h'
        obtain ⟨go, yl⟩ := wk.item s' w' gd
        refine ⟨go, fun H2 => ∃ ei P' acc accD rest, Same P1 P' ∧ Wd K (fr F Dl (.lst acc)) τ ei (wipe σ is) P' H2 ∧ RpL K P' accD acc ∧ accD.length ≤ i + 1 ∧ E.lcLoop g ft f is (ds.drop (i + 1)) ei = some (rest, e2) ∧ accD ++ rest = out,
          fun H2 hN => ⟨ds.length - (i + 1), by omega, rfl, cl, hN⟩, fun x H2 y => ?_⟩
        obtain ⟨P2, s2, w2, r2⟩ := yl x H2 y
        refine hg g1 w2 r2 _ fun σ3 P3 H3 s3 w3 l3 k3 => ?_
        have ew : wipe σ3 is = wipe σ is := by
          have a := wipe_same (σ := wipe σ is) l3 k3 hs
          have b : wipe (wipe σ is) is = wipe σ is := wipe_same (js := is) (by rw [wipe_length]) (fun j hj => wipe_out hj) (fun j hj => hj)
          rw [a, b]
        refine ⟨ew, ?_⟩
        refine ht g2 w3 _ fun P4 H4 s4 w4 => ?_
        have st4 : Same P1 P4 := ((s'.trans s2).trans s3).trans s4
        have fin4 : ∀ {e5 : DE} {P5 H5 : Hp}, freeE e5 is = true → Wd K (fr F Dl (.lst acc)) τ e5 σ3 P5 H5 → Wd K (fr F Dl (.lst acc)) τ (wipeE e5 is) (wipe σ is) P5 H5 := fun {e5 P5 H5} hf w5 => by
          rw [← ew]
          exact w5.wipe fun j d hm z => free_own hf (j := j) (d := d) (by unfold own; rw [z]) hm
        cases b with
        | true =>
          refine iteT ?_
          rw [if_pos rfl] at h'
          obtain ⟨⟨r5, e5⟩, g3, h'⟩ := obind h'
          obtain ⟨⟨d5, e6⟩, g4, h'⟩ := obind h'
          dsimp only at h'
          split at h'
          · rename_i hfr
            obtain ⟨⟨out', e7⟩, g5, h6⟩ := omap h'
            cases h6
            refine he g3 w4 _ fun v5 P5 H5 s5 w5 r5' => ?_
            obtain ⟨P6, s6, w6, r6⟩ := w5.fz r5' g4
            have hD6 : H5 Dl = some (.lst acc) := w6.fH _ _ (by unfold fr; rw [if_pos rfl])
            refine ⟨acc, hD6, by rw [r'.len]; exact sz_okL (by omega), wipeE e6 is, P6, acc ++ [v5], accD ++ [d5], out', ((st4.trans s5).trans s6), ?_, ?_, by simp; omega, g5, by simp [eo]⟩
            · obtain ⟨a1, a2, a3, a4⟩ := (fin4 hfr w6).unframe hDF rfl
              exact (a1.upd hDF a3 a4).frame upd_same a3 a4
            · exact (r'.mono (((s2.trans s3).trans s4).trans (s5.trans s6))).app (.one r6)
          · cases h'
        | false =>
          refine iteF ?_
          rw [if_neg Bool.false_ne_true] at h'
          split at h'
          · rename_i hfr
            exact ⟨wipeE e4 is, P4, acc, accD, rest, st4, fin4 hfr w4, r'.mono ((s2.trans s3).trans s4), by omega, h', eo⟩
          · cases h'
      · refine .inl ⟨wk.stop s' w' (by omega), ?_⟩
        rw [List.drop_eq_nil_of_le (by omega)] at h'
        cases h'
        rw [List.append_nil] at eo
        subst eo
        obtain ⟨a1, a2, a3, a4⟩ := w'.unframe hDF rfl
        have wg : Wd K F τ (giveE e1 e2 is) σ P' H' := w1.give c.2 s' a1
        refine q (.ref Dl) P' H' (s1.trans s') wg ⟨Dl, rfl, hDF, a3, ⟨_, a2, r'⟩, fun i di ho z => ?_⟩
        obtain ⟨c1, c2⟩ := own_give c.2 ho
        exact a4 i di c2 (by rw [wipe_out c1]; exact z)
  · cases h
end
end Dv

set_option Elab.async false
set_option linter.all false
set_option maxRecDepth 100000
set_option maxHeartbeats 2000000
set_option autoImplicit false
/-! Dv6: defs: what they promise, and their calls. -/
namespace Dv
open PySem L2

/-- a def as a function of its arguments: persistent ones (im), cells that are lent to it (io); it tells what it hands back and how the cells stand -/
abbrev CF := List Sl → Option (R × List Sl)
def SpD (K : PySem.W.Frag) (c : CF) : Sp := fun vs H Q _ => ∃ (F P : Hp) (sl : List Sl) (r : R) (outs : List Sl), c sl = some (r, outs) ∧ Wd K F (vs.map some) sl (vs.map some) P H ∧ sl.length = vs.length ∧
  ∀ v P' H', Same P P' → Wd K F (vs.map some) outs (vs.map some) P' H' → RRp K F outs (vs.map some) P' H' r v → Q v H'

/-! ### the body -/
def retOf (e : DE) : R → Option R
  | .s i => match e[i]? with
    | some (.ow d) => some (.f d)
    | some (.im d) => some (.v d)
    | _ => none
  | r => some r
def keepIo : Sl → Sl
  | .io d => .io d
  | _ => .no
/-- m parameters, n slots -/
def run (m n : Nat) (b : SF) : CF := fun sl => if sl.length = m then ((b (sl ++ List.replicate (n - sl.length) .no)).bind fun o => match o with
  | .nx e => if e.length = n then some (.v .non, (e.take sl.length).map keepIo) else none
  | .rt r e => if e.length = n then (retOf e r).map fun r' => (r', (e.take sl.length).map keepIo) else none
  | _ => none) else none
section
variable {K : PySem.W.Frag} {F : Hp} {τ σ : St} {e : DE} {P H : Hp}
theorem own_keep {n i : Nat} {d : D} (h : own ((e.take n).map keepIo) i = some d) : i < n ∧ e[i]? = some (.io d) := by
  unfold own at h
  rw [List.getElem?_map] at h
  by_cases c : i < n
  · rw [List.getElem?_take, if_pos c] at h
    cases q : e[i]? with
    | none =>
      rw [q] at h
      cases h
    | some x =>
      rw [q] at h
      cases x <;> first | (cases h; done) | skip
      cases h
      exact ⟨c, rfl⟩
  · rw [List.getElem?_take, if_neg c] at h
    cases h
theorem get_keep {n i : Nat} {s : Sl} (h : ((e.take n).map keepIo)[i]? = some s) : s = .no ∨ ∃ d, s = .io d ∧ e[i]? = some (.io d) ∧ i < n := by
  rw [List.getElem?_map] at h
  by_cases c : i < n
  · rw [List.getElem?_take, if_pos c] at h
    cases q : e[i]? with
    | none =>
      rw [q] at h
      cases h
    | some x =>
      rw [q] at h
      cases h
      cases x <;> first | exact .inl rfl | exact .inr ⟨_, rfl, rfl, c⟩
  · rw [List.getElem?_take, if_neg c] at h
    cases h
/-- at a def's end: what is left of the lent cells -/
theorem Wd.keep {vs : List V} (w : Wd K F τ e σ P H) (ht : ∀ i, i < vs.length → τ[i]? = (vs.map some)[i]?) (hl : vs.length ≤ e.length) : Wd K F (vs.map some) ((e.take vs.length).map keepIo) (vs.map some) P H := by
  refine ⟨by rw [List.length_map, List.length_map, List.length_take]; omega, w.pH, w.fH, w.fP, fun i d q => ?_, fun i d q => ?_, fun i d q => rfl, fun i j l di dj q1 q2 g1 g2 => ?_⟩
  · rcases get_keep q with z | ⟨d', z, _⟩
    · cases z
    · cases z
  · obtain ⟨c, q⟩ := own_keep q
    have h1 := w.io i d q
    obtain ⟨l, g1, g2⟩ := w.ow i d (by unfold own; rw [q])
    exact ⟨l, by rw [← ht i c, ← h1]; exact g1, g2⟩
  · obtain ⟨c1, q1⟩ := own_keep q1
    obtain ⟨c2, q2⟩ := own_keep q2
    have h1 := w.io i _ q1
    have h2 := w.io j _ q2
    exact w.nd i j l di dj (by unfold own; rw [q1]) (by unfold own; rw [q2]) (by rw [h1, ht i c1]; exact g1) (by rw [h2, ht j c2]; exact g2)
theorem retOf_ok {vs : List V} {r r' : R} {v : V} (w : Wd K F τ e σ P H) (h : retOf e r = some r') (hr : RRp K F e σ P H r v) (ht : ∀ i, i < vs.length → τ[i]? = (vs.map some)[i]?) : RRp K F ((e.take vs.length).map keepIo) (vs.map some) P H r' v := by
  cases r with
  | v d =>
    cases h
    exact hr
  | f d =>
    cases h
    obtain ⟨l, h1, h2, h3, h4, h5⟩ := hr
    refine ⟨l, h1, h2, h3, h4, fun i di q z => ?_⟩
    obtain ⟨c, q⟩ := own_keep q
    exact h5 i di (by unfold own; rw [q]) (by rw [w.io i di q, ht i c]; exact z)
  | s i =>
    obtain ⟨hv, d0, ho⟩ := hr
    unfold retOf at h
    cases c : e[i]? with
    | none =>
      simp only [c] at h
      cases h
    | some x =>
      simp only [c] at h
      cases x with
      | no => cases h
      | io _ => cases h
      | im d =>
        cases h
        obtain ⟨v', h1, h2⟩ := w.im i _ c
        rw [hv] at h1
        cases h1
        exact h2
      | ow d =>
        cases h
        have ho' : own e i = some d := by unfold own; rw [c]
        obtain ⟨l, h1, h2, h3, h4⟩ := w.ow i d ho'
        rw [hv] at h1
        cases h1
        refine ⟨l, rfl, h2, h3, h4, fun j dj q z => ?_⟩
        obtain ⟨c2, q⟩ := own_keep q
        have e1 := w.nd i j l d dj ho' (by unfold own; rw [q]) hv (by rw [w.io j dj q, ht j c2]; exact z)
        subst e1
        rw [c] at q
        cases q
/-- what a def's body asks, from what it computes -/
theorem spd_body {m n : Nat} {b : SF} {t : TS} {N : List Str} {vs : List V} {Q : VK} {E : XK} (hb : SndS K t b) (hn : N.length = n) (hl : vs.length ≤ n) (h : SpD K (run m n b) vs H Q E) : t { nx := fun _ H' => Q .non H', rt := Q } (L2.start N vs) H := by
  obtain ⟨F, P, sl, r, outs, h1, w, hlen, q⟩ := h
  unfold run at h1
  split at h1
  case isFalse => cases h1
  obtain ⟨o, h2, h3⟩ := obind h1
  have hst : L2.start N vs = vs.map some ++ List.replicate (n - vs.length) none := by unfold L2.start; rw [hn]
  have ht : ∀ i, i < vs.length → (L2.start N vs)[i]? = (vs.map some)[i]? := fun i hi => by
    rw [hst, List.getElem?_append_left (by rw [List.length_map]; exact hi)]
  have key : ∀ j, (sl ++ List.replicate (n - sl.length) Sl.no)[j]? = sl[j]? ∨ (sl ++ List.replicate (n - sl.length) Sl.no)[j]? = some Sl.no ∨ (sl ++ List.replicate (n - sl.length) Sl.no)[j]? = none := fun j => by
    by_cases c : j < sl.length
    · exact .inl (List.getElem?_append_left c)
    · rw [List.getElem?_append_right (by omega)]
      by_cases c2 : j - sl.length < n - sl.length
      · exact .inr (.inl (by rw [List.getElem?_replicate, if_pos c2]))
      · exact .inr (.inr (by rw [List.getElem?_replicate, if_neg c2]))
  have lt_of : ∀ {j : Nat} {s : Sl}, sl[j]? = some s → j < vs.length := fun {j s} g => by
    have := (List.getElem?_eq_some_iff.mp g).1
    omega
  have w0 : Wd K F (L2.start N vs) (sl ++ List.replicate (n - sl.length) .no) (L2.start N vs) P H := by
    have oo : ∀ {j d}, own (sl ++ List.replicate (n - sl.length) Sl.no) j = some d → own sl j = some d ∧ j < vs.length := fun {j d} g => by
      rcases key j with z | z | z
      · have g' : own sl j = some d := by rw [← own_eq z]; exact g
        exact ⟨g', by have := own_lt g'; omega⟩
      · unfold own at g
        rw [z] at g
        cases g
      · unfold own at g
        rw [z] at g
        cases g
    refine ⟨by rw [hst]; simp; omega, w.pH, w.fH, w.fP, fun i d g => ?_, fun i d g => ?_, fun i d g => rfl, fun i j l di dj g1 g2 k1 k2 => ?_⟩
    · rcases key i with z | z | z
      · rw [z] at g
        rw [ht i (lt_of g)]
        exact w.im i d g
      · rw [z] at g
        cases g
      · rw [z] at g
        cases g
    · obtain ⟨g', hi⟩ := oo g
      rw [ht i hi]
      exact w.ow i d g'
    · obtain ⟨g1', hi⟩ := oo g1
      obtain ⟨g2', hj⟩ := oo g2
      exact w.nd i j l di dj g1' g2' (by rw [← ht i hi]; exact k1) (by rw [← ht j hj]; exact k2)
  refine hb (o := o) h2 w0 ?_
  cases o with
  | bk e => cases h3
  | ct e => cases h3
  | nx e =>
    dsimp only at h3
    split at h3
    · rename_i hl2
      cases h3
      intro σ' P' H' s w'
      rw [hlen] at q
      exact q .non P' H' s (w'.keep ht (by omega)) rfl
    · cases h3
  | rt r0 e =>
    dsimp only at h3
    split at h3
    · rename_i hl2
      obtain ⟨r', h4, h5⟩ := omap h3
      cases h5
      intro σ' v P' H' s w' hr
      rw [hlen] at q
      exact q v P' H' s (w'.keep ht (by omega)) (retOf_ok w' h4 hr ht)
    · cases h3
end
/-- THE RULE for a def -/
theorem def_ok {P : Program} {w : World} {K : PySem.W.Frag} {mg : Str → Option Value} {base : Heap} {x qual : Str} {st : Stmt} {f : Addr} {fd : FuncData} {N ps : List Str} {k m n : Nat} {b : SF} (F : Fun K x qual st f fd) (S : FnScope N ps (defScope st)) (hn : N.length = n) (hm : ps.length = m) (hl : m ≤ n)
    (h : ∀ (cdv : Value) (A : Around) (outer : List Env) (s : Shared) (H : Hp) (E : XK), Room k (A.deeper (PyProof.Rows.envOfC qual (defScope st) s.heap.objs.size f cdv)) →
      ∃ t, PSs (cxOf CX0 P w K mg base N qual (defScope st) f cdv A outer s H E).nox (defBody st) t ∧ SndS K t b) : FnOk P w K mg base CX0 (k + 1) f fd ps (SpD K (run m n b)) := by
  have len : ∀ vs H Q E, SpD K (run m n b) vs H Q E → vs.length = m := fun vs H Q E h => by
    obtain ⟨_, _, sl, r, outs, h1, w, hlen, q⟩ := h
    unfold run at h1
    split at h1
    · rename_i c
      omega
    · cases h1
  refine F.ok S (fun vs H Q E h => by rw [hm]; exact len vs H Q E h) (fun cdv A outer s H vs Q E hr hs => ?_)
  obtain ⟨t, h1, h2⟩ := h cdv A outer s H E hr
  exact ⟨t, h1, spd_body h2 hn (by rw [len vs H Q E hs]; exact hl) hs⟩

/-! ### calls -/
/-- ms: true where a cell is lent -/
def argsOf (mk : D → Sl) : DE → List Bool → List R → Option (List Sl × DE)
  | e, [], [] => some ([], e)
  | e, false :: ms, r :: rs => (fz e r).bind fun p => (argsOf mk p.2 ms rs).map fun q => (.im p.1 :: q.1, q.2)
  | e, true :: ms, .s i :: rs => (argsOf mk e ms rs).bind fun q => (own q.2 i).map fun d => (mk d :: q.1, q.2)
  | _, _, _ => none
def iosOf : List Bool → List R → List Nat
  | false :: ms, _ :: rs => iosOf ms rs
  | true :: ms, .s i :: rs => i :: iosOf ms rs
  | _, _ => []
def putBack : DE → List Bool → List R → List Sl → Option DE
  | e, [], [], _ => some e
  | e, false :: ms, _ :: rs, _ :: os => putBack e ms rs os
  | e, true :: ms, .s i :: rs, .io d :: os => putBack (putOw e i d) ms rs os
  | _, _, _, _ => none
def scalD : R → Bool
  | .v .non => true
  | .v (.bl _) => true
  | .v (.int _) => true
  | .v (.str _) => true
  | _ => false
def rOk : R → Bool
  | .s _ => false
  | _ => true
namespace E
def call (ms : List Bool) (c : CF) (as : AF) : EF := fun e => (as e).bind fun p => (argsOf .io p.2 ms p.1).bind fun a => if (iosOf ms p.1).Nodup then (c a.1).bind fun r => if rOk r.1 then (putBack a.2 ms p.1 r.2).map fun e' => (r.1, e') else none else none
/-- the marked arguments are cells that are only looked at, the answer is a plain value -/
def callB (ms : List Bool) (c : CF) (as : AF) : EF := fun e => (as e).bind fun p => (argsOf .im p.2 ms p.1).bind fun a => (c a.1).bind fun r => if scalD r.1 then some (r.1, a.2) else none
end E
section
variable {K : PySem.W.Frag} {F : Hp} {τ σ : St} {H : Hp}
theorem fz_own {e e' : DE} {r : R} {d x : D} {j : Nat} (h : fz e r = some (d, e')) (ho : own e' j = some x) : own e j = some x := by
  cases r with
  | v _ =>
    cases h
    exact ho
  | f _ =>
    cases h
    exact ho
  | s i =>
    unfold fz at h
    cases c : e[i]? with
    | none =>
      simp only [c] at h
      cases h
    | some s =>
      simp only [c] at h
      cases s with
      | no => cases h
      | io _ => cases h
      | ow d0 =>
        cases h
        exact (own_set_im ho).2
      | im d0 =>
        cases h
        exact ho
/-- what is known of the arguments, place by place -/
def ArgAt (K : PySem.W.Frag) (mk : D → Sl) (P : Hp) (σ : St) (e : DE) (ms : List Bool) (rs : List R) (vs : List V) (k : Nat) (s : Sl) : Prop :=
  (∃ d v, s = .im d ∧ ms[k]? = some false ∧ vs[k]? = some v ∧ Rp K P d v) ∨ ∃ d i v, s = mk d ∧ ms[k]? = some true ∧ rs[k]? = some (.s i) ∧ own e i = some d ∧ vs[k]? = some v ∧ σ[i]? = some (some v)
theorem args_ok {mk : D → Sl} : ∀ {ms : List Bool} {rs : List R} {vs : List V} {sl : List Sl} {e e' : DE} {P : Hp}, Wd K F τ e σ P H → HVs K P σ rs vs → argsOf mk e ms rs = some (sl, e') →
    ∃ P', Same P P' ∧ Wd K F τ e' σ P' H ∧ sl.length = vs.length ∧ (∀ j x, own e' j = some x → own e j = some x) ∧ ∀ k s, sl[k]? = some s → ArgAt K mk P' σ e' ms rs vs k s
  | [], [], vs, sl, e, e', P, w, hv, h => by
    cases h
    have e0 : vs = [] := hv
    subst e0
    exact ⟨P, .refl P, w, rfl, fun _ _ q => q, fun k s q => by simp at q⟩
  | [], _ :: _, vs, sl, e, e', P, w, hv, h => by simp [argsOf] at h
  | false :: ms, [], vs, sl, e, e', P, w, hv, h => by simp [argsOf] at h
  | true :: ms, [], vs, sl, e, e', P, w, hv, h => by simp [argsOf] at h
  | false :: ms, r :: rs, vs, sl, e, e', P, w, hv, h => by
    obtain ⟨⟨d, e1⟩, h1, h⟩ := obind h
    obtain ⟨⟨sl', e2⟩, h2, h3⟩ := omap h
    cases h3
    obtain ⟨v, t, rfl, hv1, hv2⟩ := hv
    obtain ⟨P1, s1, w1, r1⟩ := w.fzH hv1 h1
    have hv3 : HVs K P1 σ rs t := hv2.mono s1
    obtain ⟨P2, s2, w2, l2, o2, a2⟩ := args_ok w1 hv3 h2
    refine ⟨P2, s1.trans s2, w2, by simp [l2], fun j x q => fz_own h1 (o2 j x q), fun k s q => ?_⟩
    cases k with
    | zero =>
      cases q
      exact .inl ⟨d, v, rfl, rfl, rfl, r1.mono s2⟩
    | succ k =>
      rcases a2 k s (by simpa using q) with ⟨d, v, b1, b2, b3, b4⟩ | ⟨d, i, v, b1, b2, b3, b4, b5, b6⟩
      · exact .inl ⟨d, v, b1, by simpa using b2, by simpa using b3, b4⟩
      · exact .inr ⟨d, i, v, b1, by simpa using b2, by simpa using b3, b4, by simpa using b5, b6⟩
  | true :: ms, .s i :: rs, vs, sl, e, e', P, w, hv, h => by
    obtain ⟨⟨sl', e2⟩, h2, h⟩ := obind h
    obtain ⟨d, h3, h4⟩ := omap h
    cases h4
    obtain ⟨v, t, rfl, hv1, hv2⟩ := hv
    obtain ⟨P2, s2, w2, l2, o2, a2⟩ := args_ok w hv2 h2
    refine ⟨P2, s2, w2, by simp [l2], o2, fun k s q => ?_⟩
    cases k with
    | zero =>
      cases q
      exact .inr ⟨d, i, v, rfl, rfl, rfl, h3, rfl, hv1⟩
    | succ k =>
      rcases a2 k s (by simpa using q) with ⟨d, v, b1, b2, b3, b4⟩ | ⟨d, i, v, b1, b2, b3, b4, b5, b6⟩
      · exact .inl ⟨d, v, b1, by simpa using b2, by simpa using b3, b4⟩
      · exact .inr ⟨d, i, v, b1, by simpa using b2, by simpa using b3, b4, by simpa using b5, b6⟩
  | true :: ms, .v _ :: rs, vs, sl, e, e', P, w, hv, h => by simp [argsOf] at h
  | true :: ms, .f _ :: rs, vs, sl, e, e', P, w, hv, h => by simp [argsOf] at h
theorem ios_mem {i : Nat} : ∀ {ms : List Bool} {rs : List R} {k : Nat}, ms.length = rs.length → ms[k]? = some true → rs[k]? = some (.s i) → (∀ j : Nat, ms[j]? = some true → ∃ i' : Nat, rs[j]? = some (R.s i')) → i ∈ iosOf ms rs
  | [], _, _, _, h, _, _ => by simp at h
  | _ :: _, [], _, hl, _, _, _ => by simp at hl
  | false :: ms, r :: rs, 0, _, h, _, _ => by simp at h
  | false :: ms, r :: rs, k + 1, hl, h1, h2, h3 => by
    unfold iosOf
    exact ios_mem (k := k) (by simpa using hl) (by simpa using h1) (by simpa using h2) fun j hj => by simpa using h3 (j + 1) (by simpa using hj)
  | true :: ms, r :: rs, k, hl, h1, h2, h3 => by
    obtain ⟨i', hi'⟩ := h3 0 rfl
    have er : r = .s i' := by simpa using hi'
    subst er
    unfold iosOf
    cases k with
    | zero =>
      have e2 : i' = i := by simpa using h2
      rw [e2]
      exact List.mem_cons_self
    | succ k => exact List.mem_cons_of_mem _ (ios_mem (k := k) (by simpa using hl) (by simpa using h1) (by simpa using h2) fun j hj => by simpa using h3 (j + 1) (by simpa using hj))
theorem ios_inj {i : Nat} : ∀ {ms : List Bool} {rs : List R} {k j : Nat}, (iosOf ms rs).Nodup → ms.length = rs.length → (∀ j : Nat, ms[j]? = some true → ∃ i' : Nat, rs[j]? = some (R.s i')) → ms[k]? = some true → rs[k]? = some (.s i) → ms[j]? = some true → rs[j]? = some (.s i) → k = j
  | [], _, _, _, _, _, _, h, _, _, _ => by simp at h
  | _ :: _, [], _, _, _, hl, _, _, _, _, _ => by simp at hl
  | false :: ms, r :: rs, 0, _, _, _, _, h, _, _, _ => by simp at h
  | false :: ms, r :: rs, _, 0, _, _, _, _, _, h, _ => by simp at h
  | false :: ms, r :: rs, k + 1, j + 1, nd, hl, h3, h1, h2, g1, g2 => by
    unfold iosOf at nd
    rw [ios_inj (k := k) (j := j) nd (by simpa using hl) (fun j hj => by simpa using h3 (j + 1) (by simpa using hj)) (by simpa using h1) (by simpa using h2) (by simpa using g1) (by simpa using g2)]
  | true :: ms, r :: rs, k, j, nd, hl, h3, h1, h2, g1, g2 => by
    obtain ⟨i', hi'⟩ := h3 0 rfl
    have er : r = .s i' := by simpa using hi'
    subst er
    unfold iosOf at nd
    have h3' : ∀ j, ms[j]? = some true → ∃ i' : Nat, rs[j]? = some (R.s i') := fun j hj => by simpa using h3 (j + 1) (by simpa using hj)
    have hl' : ms.length = rs.length := by simpa using hl
    obtain ⟨n1, n2⟩ := List.nodup_cons.mp nd
    cases k with
    | zero =>
      have ei : i' = i := by simpa using h2
      cases j with
      | zero => rfl
      | succ j => exact absurd (ios_mem (k := j) hl' (by simpa using g1) (by simpa using g2) h3') (by rw [← ei]; exact n1)
    | succ k =>
      cases j with
      | zero =>
        have ei : i' = i := by simpa using g2
        exact absurd (ios_mem (k := k) hl' (by simpa using h1) (by simpa using h2) h3') (by rw [← ei]; exact n1)
      | succ j => rw [ios_inj (k := k) (j := j) n2 hl' h3' (by simpa using h1) (by simpa using h2) (by simpa using g1) (by simpa using g2)]
theorem args_shape {mk : D → Sl} : ∀ {ms : List Bool} {rs : List R} {sl : List Sl} {e e' : DE}, argsOf mk e ms rs = some (sl, e') → ms.length = rs.length ∧ sl.length = ms.length ∧ ∀ j : Nat, ms[j]? = some true → ∃ i' : Nat, rs[j]? = some (R.s i')
  | [], [], _, _, _, h => by
    cases h
    exact ⟨rfl, rfl, fun j h => by simp at h⟩
  | [], _ :: _, _, _, _, h => by simp [argsOf] at h
  | false :: ms, [], _, _, _, h => by simp [argsOf] at h
  | true :: ms, [], _, _, _, h => by simp [argsOf] at h
  | false :: ms, r :: rs, _, _, _, h => by
    obtain ⟨⟨d, e1⟩, h1, h⟩ := obind h
    obtain ⟨⟨sl', e2⟩, h2, h3⟩ := omap h
    cases h3
    obtain ⟨a1, a2, a3⟩ := args_shape h2
    refine ⟨by simp [a1], by simp [a2], fun j hj => ?_⟩
    cases j with
    | zero => simp at hj
    | succ j => simpa using a3 j (by simpa using hj)
  | true :: ms, .s i :: rs, _, _, _, h => by
    obtain ⟨⟨sl', e2⟩, h2, h⟩ := obind h
    obtain ⟨d, h3, h4⟩ := omap h
    cases h4
    obtain ⟨a1, a2, a3⟩ := args_shape h2
    refine ⟨by simp [a1], by simp [a2], fun j hj => ?_⟩
    cases j with
    | zero => exact ⟨i, rfl⟩
    | succ j => simpa using a3 j (by simpa using hj)
  | true :: ms, .v _ :: rs, _, _, _, h => by simp [argsOf] at h
  | true :: ms, .f _ :: rs, _, _, _, h => by simp [argsOf] at h
/-! the cells as they come back -/
theorem putOw_im {e : DE} {i j : Nat} {d d' : D} (h : (putOw e i d)[j]? = some (.im d')) : e[j]? = some (.im d') := by
  by_cases c : i = j
  · subst c
    unfold putOw at h
    split at h
    · rename_i d1 q
      rw [List.getElem?_set_self (List.getElem?_eq_some_iff.mp q).1] at h
      cases h
    · rename_i d1 q
      rw [List.getElem?_set_self (List.getElem?_eq_some_iff.mp q).1] at h
      cases h
    · exact h
  · rw [put_get c] at h
    exact h
theorem pb_im : ∀ {ms : List Bool} {rs : List R} {os : List Sl} {e e' : DE} {j : Nat} {d : D}, putBack e ms rs os = some e' → e'[j]? = some (.im d) → e[j]? = some (.im d)
  | [], [], _, _, _, _, _, h, q => by
    simp only [putBack, Option.some.injEq] at h
    subst h
    exact q
  | [], _ :: _, _, _, _, _, _, h, _ => by simp [putBack] at h
  | false :: ms, [], _, _, _, _, _, h, _ => by simp [putBack] at h
  | true :: ms, [], _, _, _, _, _, h, _ => by simp [putBack] at h
  | false :: ms, r :: rs, [], _, _, _, _, h, _ => by simp [putBack] at h
  | false :: ms, r :: rs, _ :: os, _, _, _, _, h, q => pb_im (ms := ms) (rs := rs) (os := os) h q
  | true :: ms, .s i :: rs, .io d :: os, _, _, _, _, h, q => putOw_im (pb_im (ms := ms) (rs := rs) (os := os) h q)
  | true :: ms, .s i :: rs, [], _, _, _, _, h, _ => by simp [putBack] at h
  | true :: ms, .s i :: rs, .no :: _, _, _, _, _, h, _ => by simp [putBack] at h
  | true :: ms, .s i :: rs, .im _ :: _, _, _, _, _, h, _ => by simp [putBack] at h
  | true :: ms, .s i :: rs, .ow _ :: _, _, _, _, _, h, _ => by simp [putBack] at h
  | true :: ms, .v _ :: rs, _, _, _, _, _, h, _ => by simp [putBack] at h
  | true :: ms, .f _ :: rs, _, _, _, _, _, h, _ => by simp [putBack] at h
theorem pb_io : ∀ {ms : List Bool} {rs : List R} {os : List Sl} {e e' : DE} {j : Nat} {d : D}, putBack e ms rs os = some e' → e'[j]? = some (.io d) → ∃ d', e[j]? = some (.io d')
  | [], [], _, _, _, _, _, h, q => by
    simp only [putBack, Option.some.injEq] at h
    subst h
    exact ⟨_, q⟩
  | [], _ :: _, _, _, _, _, _, h, _ => by simp [putBack] at h
  | false :: ms, [], _, _, _, _, _, h, _ => by simp [putBack] at h
  | true :: ms, [], _, _, _, _, _, h, _ => by simp [putBack] at h
  | false :: ms, r :: rs, [], _, _, _, _, h, _ => by simp [putBack] at h
  | false :: ms, r :: rs, _ :: os, _, _, _, _, h, q => pb_io (ms := ms) (rs := rs) (os := os) h q
  | true :: ms, .s i :: rs, .io d :: os, _, _, _, _, h, q => by
    obtain ⟨d', q'⟩ := pb_io (ms := ms) (rs := rs) (os := os) h q
    exact put_io q'
  | true :: ms, .s i :: rs, [], _, _, _, _, h, _ => by simp [putBack] at h
  | true :: ms, .s i :: rs, .no :: _, _, _, _, _, h, _ => by simp [putBack] at h
  | true :: ms, .s i :: rs, .im _ :: _, _, _, _, _, h, _ => by simp [putBack] at h
  | true :: ms, .s i :: rs, .ow _ :: _, _, _, _, _, h, _ => by simp [putBack] at h
  | true :: ms, .v _ :: rs, _, _, _, _, _, h, _ => by simp [putBack] at h
  | true :: ms, .f _ :: rs, _, _, _, _, _, h, _ => by simp [putBack] at h
theorem pb_len : ∀ {ms : List Bool} {rs : List R} {os : List Sl} {e e' : DE}, putBack e ms rs os = some e' → e'.length = e.length
  | [], [], _, _, _, h => by
    simp only [putBack, Option.some.injEq] at h
    subst h
    rfl
  | [], _ :: _, _, _, _, h => by simp [putBack] at h
  | false :: ms, [], _, _, _, h => by simp [putBack] at h
  | true :: ms, [], _, _, _, h => by simp [putBack] at h
  | false :: ms, r :: rs, [], _, _, h => by simp [putBack] at h
  | false :: ms, r :: rs, _ :: os, _, _, h => pb_len (ms := ms) (rs := rs) (os := os) h
  | true :: ms, .s i :: rs, .io d :: os, _, _, h => by
    rw [pb_len (ms := ms) (rs := rs) (os := os) h, put_len]
  | true :: ms, .s i :: rs, [], _, _, h => by simp [putBack] at h
  | true :: ms, .s i :: rs, .no :: _, _, _, h => by simp [putBack] at h
  | true :: ms, .s i :: rs, .im _ :: _, _, _, h => by simp [putBack] at h
  | true :: ms, .s i :: rs, .ow _ :: _, _, _, h => by simp [putBack] at h
  | true :: ms, .v _ :: rs, _, _, _, h => by simp [putBack] at h
  | true :: ms, .f _ :: rs, _, _, _, h => by simp [putBack] at h
theorem own_put' {e : DE} {i j : Nat} {d x : D} (h : own (putOw e i d) j = some x) : (i = j ∧ x = d) ∨ (i ≠ j ∧ own e j = some x) := by
  by_cases c : i = j
  · subst c
    refine .inl ⟨rfl, ?_⟩
    unfold putOw at h
    split at h
    · rename_i d1 q
      rw [own_set (List.getElem?_eq_some_iff.mp q).1, if_pos rfl] at h
      exact (Option.some.inj h).symm
    · rename_i d1 q
      rw [own_set (List.getElem?_eq_some_iff.mp q).1, if_pos rfl] at h
      exact (Option.some.inj h).symm
    · rename_i n1 n2
      unfold own at h
      split at h
      · rename_i d1 q
        exact absurd q (n1 d1)
      · rename_i d1 q
        exact absurd q (n2 d1)
      · cases h
  · refine .inr ⟨c, ?_⟩
    rw [own_eq (put_get c)] at h
    exact h
theorem pb_own : ∀ {ms : List Bool} {rs : List R} {os : List Sl} {e e' : DE} {j : Nat} {x : D}, putBack e ms rs os = some e' → own e' j = some x →
    (∃ k : Nat, ms[k]? = some true ∧ rs[k]? = some (R.s j) ∧ os[k]? = some (Sl.io x)) ∨ (own e j = some x ∧ ∀ k : Nat, ms[k]? = some true → rs[k]? ≠ some (R.s j))
  | [], [], _, _, _, _, _, h, q => by
    simp only [putBack, Option.some.injEq] at h
    subst h
    exact .inr ⟨q, fun k hk => by simp at hk⟩
  | [], _ :: _, _, _, _, _, _, h, _ => by simp [putBack] at h
  | false :: ms, [], _, _, _, _, _, h, _ => by simp [putBack] at h
  | true :: ms, [], _, _, _, _, _, h, _ => by simp [putBack] at h
  | false :: ms, r :: rs, [], _, _, _, _, h, _ => by simp [putBack] at h
  | false :: ms, r :: rs, _ :: os, _, _, _, _, h, q => by
    rcases pb_own (ms := ms) (rs := rs) (os := os) h q with ⟨k, a1, a2, a3⟩ | ⟨a1, a2⟩
    · exact .inl ⟨k + 1, by simpa using a1, by simpa using a2, by simpa using a3⟩
    · refine .inr ⟨a1, fun k hk => ?_⟩
      cases k with
      | zero => simp at hk
      | succ k => simpa using a2 k (by simpa using hk)
  | true :: ms, .s i :: rs, .io d :: os, _, _, _, _, h, q => by
    rcases pb_own (ms := ms) (rs := rs) (os := os) h q with ⟨k, a1, a2, a3⟩ | ⟨a1, a2⟩
    · exact .inl ⟨k + 1, by simpa using a1, by simpa using a2, by simpa using a3⟩
    · rcases own_put' a1 with ⟨b1, b2⟩ | ⟨b1, b2⟩
      · exact .inl ⟨0, rfl, by simp [b1], by simp [b2]⟩
      · refine .inr ⟨b2, fun k hk => ?_⟩
        cases k with
        | zero => simpa using b1
        | succ k => simpa using a2 k (by simpa using hk)
  | true :: ms, .s i :: rs, [], _, _, _, _, h, _ => by simp [putBack] at h
  | true :: ms, .s i :: rs, .no :: _, _, _, _, _, h, _ => by simp [putBack] at h
  | true :: ms, .s i :: rs, .im _ :: _, _, _, _, _, h, _ => by simp [putBack] at h
  | true :: ms, .s i :: rs, .ow _ :: _, _, _, _, _, h, _ => by simp [putBack] at h
  | true :: ms, .v _ :: rs, _, _, _, _, _, h, _ => by simp [putBack] at h
  | true :: ms, .f _ :: rs, _, _, _, _, _, h, _ => by simp [putBack] at h
/-- the caller's own cells but those that are lent -/
noncomputable def frOf (F : Hp) (e : DE) (σ : St) (ios : Nat → Prop) (H : Hp) : Hp := fun a => by
  classical
  exact if (∃ i d, own e i = some d ∧ ¬ ios i ∧ σ[i]? = some (some (.ref a))) then H a else F a
theorem frOf_in {e : DE} {ios : Nat → Prop} {i : Nat} {d : D} {a : Addr} (h1 : own e i = some d) (h2 : ¬ ios i) (h3 : σ[i]? = some (some (.ref a))) : frOf F e σ ios H a = H a := by
  unfold frOf
  exact if_pos ⟨i, d, h1, h2, h3⟩
theorem frOf_out {e : DE} {ios : Nat → Prop} {a : Addr} (h : ∀ i d, own e i = some d → ¬ ios i → σ[i]? ≠ some (some (.ref a))) : frOf F e σ ios H a = F a := by
  unfold frOf
  exact if_neg fun ⟨i, d, h1, h2, h3⟩ => h i d h1 h2 h3
/-- the frame as the callee sees it -/
theorem frOf_ok {P : Hp} {e : DE} {ios : Nat → Prop} (w : Wd K F τ e σ P H) : Same (frOf F e σ ios H) H ∧ (∀ a o, frOf F e σ ios H a = some o → isTup o = false → P a = none) ∧ Same F (frOf F e σ ios H) := by
  classical
  have key : ∀ a, (∃ i d, own e i = some d ∧ ¬ ios i ∧ σ[i]? = some (some (.ref a))) ∨ frOf F e σ ios H a = F a := fun a => by
    by_cases c : ∃ i d, own e i = some d ∧ ¬ ios i ∧ σ[i]? = some (some (.ref a))
    · exact .inl c
    · exact .inr (by unfold frOf; exact if_neg c)
  refine ⟨fun a o q => ?_, fun a o q => ?_, fun a o q => ?_⟩
  · rcases key a with ⟨i, d, h1, h2, h3⟩ | z
    · rw [frOf_in h1 h2 h3] at q
      exact q
    · rw [z] at q
      exact w.fH a o q
  · rcases key a with ⟨i, d, h1, h2, h3⟩ | z
    · obtain ⟨l, g1, g2, g3, _⟩ := w.ow i d h1
      rw [h3] at g1
      cases g1
      exact fun _ => g3
    · rw [z] at q
      exact w.fP a o q
  · rcases key a with ⟨i, d, h1, h2, h3⟩ | z
    · obtain ⟨l, g1, g2, g3, _⟩ := w.ow i d h1
      rw [h3] at g1
      cases g1
      rw [g2] at q
      cases q
    · rw [z]
      exact q
theorem snd_call {EE : XK} {ms : List Bool} {c : CF} {ta : TA} {fa : AF} (ha : SndA K ta fa) : SndE K (tCall (SpD K c) [] EE ta) (E.call ms c fa) := by
  intro F τ e σ P H z e' h w Q q
  obtain ⟨⟨rs, e1⟩, h1, h⟩ := obind h
  obtain ⟨⟨sl, e2⟩, h2, h⟩ := obind h
  dsimp only at h
  split at h
  · rename_i nd
    obtain ⟨⟨r, outs⟩, h3, h⟩ := obind h
    dsimp only at h
    split at h
    case isFalse => cases h
    rename_i hrok
    obtain ⟨e3, h4, h5⟩ := omap h
    cases h5
    refine ha h1 w _ fun vs P1 H1 s1 w1 hv => ?_
    obtain ⟨P2, s2, w2, l2, o2, a2⟩ := args_ok w1 hv h2
    obtain ⟨sh1, sh2, sh3⟩ := args_shape h2
    rw [List.append_nil]
    let ios : Nat → Prop := fun i => ∃ k : Nat, ms[k]? = some true ∧ rs[k]? = some (R.s i)
    obtain ⟨f1, f2, f3⟩ := frOf_ok (ios := ios) w2
    -- a lent cell does not stand in the frame
    have lent : ∀ {i : Nat} {d : D} {l : Addr}, own e2 i = some d → ios i → σ[i]? = some (some (.ref l)) → frOf F e2 σ ios H1 l = none := fun {i d l} g1 g2 g3 => by
      obtain ⟨l', k1, k2, k3, k4⟩ := w2.ow i d g1
      rw [g3] at k1
      cases k1
      rw [frOf_out fun j dj m1 m2 m3 => m2 (by rw [w2.nd j i l dj d m1 g1 m3 g3]; exact g2)]
      exact k2
    have slOwn : ∀ {k : Nat} {d : D}, own sl k = some d → ∃ i v, ms[k]? = some true ∧ rs[k]? = some (R.s i) ∧ own e2 i = some d ∧ vs[k]? = some v ∧ σ[i]? = some (some v) := fun {k d} g => by
      unfold own at g
      cases c : sl[k]? with
      | none =>
        rw [c] at g
        cases g
      | some s =>
        rw [c] at g
        rcases a2 k s c with ⟨d', v, b1, b2, b3, b4⟩ | ⟨d', i, v, b1, b2, b3, b4, b5, b6⟩
        · subst b1
          cases g
        · subst b1
          cases g
          exact ⟨i, v, b2, b3, b4, b5, b6⟩
    have wc : Wd K (frOf F e2 σ ios H1) (vs.map some) sl (vs.map some) P2 H1 := by
      refine ⟨by rw [List.length_map]; exact l2, w2.pH, f1, f2, fun k d g => ?_, fun k d g => ?_, fun _ _ _ => rfl, fun k j l dk dj g1 g2 m1 m2 => ?_⟩
      · rcases a2 k _ g with ⟨d', v, b1, b2, b3, b4⟩ | ⟨d', i, v, b1, b2, b3, b4, b5, b6⟩
        · cases b1
          exact ⟨v, by rw [List.getElem?_map, b3]; rfl, b4⟩
        · cases b1
      · obtain ⟨i, v, b2, b3, b4, b5, b6⟩ := slOwn g
        obtain ⟨l, k1, k2, k3, k4⟩ := w2.ow i d b4
        rw [b6] at k1
        cases k1
        exact ⟨l, by rw [List.getElem?_map, b5]; rfl, lent b4 ⟨k, b2, b3⟩ b6, k3, k4⟩
      · obtain ⟨i, v, b2, b3, b4, b5, b6⟩ := slOwn g1
        obtain ⟨i', v', c2, c3, c4, c5, c6⟩ := slOwn g2
        rw [List.getElem?_map, b5] at m1
        rw [List.getElem?_map, c5] at m2
        cases m1
        cases m2
        have ei := w2.nd i i' l dk dj b4 c4 b6 c6
        subst ei
        exact ios_inj nd sh1 sh3 b2 b3 c2 c3
    refine ⟨_, P2, sl, z, outs, h3, wc, l2, fun v P3 H3 s3 w3 r3 => ?_⟩
    -- back in the caller
    have outOwn : ∀ {k : Nat} {d : D}, ms[k]? = some true → outs[k]? = some (Sl.io d) → ∀ {i : Nat}, rs[k]? = some (R.s i) → ∃ l d0, own e2 i = some d0 ∧ σ[i]? = some (some (.ref l)) ∧ F l = none ∧ P3 l = none ∧ Ob K P3 H3 d l ∧ (vs.map some)[k]? = some (some (.ref l)) := fun {k d} g1 g2 {i} g3 => by
      obtain ⟨l, k1, k2, k3, k4⟩ := w3.ow k d (by unfold own; rw [g2])
      have hk : k < sl.length := by
        have := (List.getElem?_eq_some_iff.mp g1).1
        omega
      rcases a2 k _ (List.getElem?_eq_getElem hk) with ⟨d', v', b1, b2, b3, b4⟩ | ⟨d', i', v', b1, b2, b3, b4, b5, b6⟩
      · rw [g1] at b2
        cases b2
      · rw [g3] at b3
        cases b3
        rw [List.getElem?_map, b5] at k1
        cases k1
        refine ⟨l, d', b4, b6, ?_, k3, k4, by rw [List.getElem?_map, b5]; rfl⟩
        cases c : F l with
        | none => rfl
        | some x =>
          rw [f3 l x c] at k2
          cases k2
    have wb : Wd K F τ e' σ P3 H3 := by
      have oldOwn : ∀ {i : Nat} {d : D}, own e' i = some d → ∃ d0, own e2 i = some d0 := fun {i d} g => by
        rcases pb_own h4 g with ⟨k, b1, b2, b3⟩ | ⟨b1, _⟩
        · obtain ⟨l, d0, g0, _⟩ := outOwn b1 b3 b2
          exact ⟨d0, g0⟩
        · exact ⟨d, b1⟩
      refine ⟨by rw [pb_len h4]; exact w2.len, w3.pH, f3.trans w3.fH, fun a o g => w3.fP a o (f3 a o g), fun i d g => ?_, fun i d g => ?_, fun i d g => ?_, fun i j l di dj g1 g2 m1 m2 => ?_⟩
      · obtain ⟨v', k1, k2⟩ := w2.im i d (pb_im h4 g)
        exact ⟨v', k1, k2.mono s3⟩
      · rcases pb_own h4 g with ⟨k, b1, b2, b3⟩ | ⟨b1, b2⟩
        · obtain ⟨l, d0, g0, g1, g2, g3, g4, _⟩ := outOwn b1 b3 b2
          exact ⟨l, g1, g2, g3, g4⟩
        · obtain ⟨l, k1, k2, k3, ob, k4, k5⟩ := w2.ow i d b1
          have hf : frOf F e2 σ ios H1 l = some ob := by
            rw [frOf_in b1 (fun ⟨k, z1, z2⟩ => b2 k z1 z2) k1]
            exact k4
          exact ⟨l, k1, k2, w3.fP l ob hf k5.nt, ob, w3.fH l ob hf, k5.mono s3⟩
      · obtain ⟨d', g'⟩ := pb_io h4 g
        exact w2.io i d' g'
      · obtain ⟨d1, o1⟩ := oldOwn g1
        obtain ⟨d2, o2⟩ := oldOwn g2
        exact w2.nd i j l d1 d2 o1 o2 m1 m2
    refine q v P3 H3 ((s1.trans s2).trans s3) wb ?_
    cases z with
    | v d => exact r3
    | s i => cases hrok
    | f d =>
      obtain ⟨l, rfl, g1, g2, g3, g4⟩ := r3
      refine ⟨l, rfl, ?_, g2, g3, fun i di ho hz => ?_⟩
      · cases c : F l with
        | none => rfl
        | some x =>
          rw [f3 l x c] at g1
          cases g1
      · rcases pb_own h4 ho with ⟨k, b1, b2, b3⟩ | ⟨b1, b2⟩
        · obtain ⟨l', d0, k0, k1, _, _, _, k5⟩ := outOwn b1 b3 b2
          rw [hz] at k1
          cases k1
          exact g4 k di (by unfold own; rw [b3]) k5
        · obtain ⟨l', k1, k2, k3, ob, k4, k5⟩ := w2.ow i di b1
          rw [hz] at k1
          cases k1
          rw [frOf_in b1 (fun ⟨k, z1, z2⟩ => b2 k z1 z2) hz, k4] at g1
          cases g1
  · cases h
theorem snd_callB {EE : XK} {ms : List Bool} {c : CF} {ta : TA} {fa : AF} (ha : SndA K ta fa) : SndE K (tCall (SpD K c) [] EE ta) (E.callB ms c fa) := by
  intro F τ e σ P H z e' h w Q q
  obtain ⟨⟨rs, e1⟩, h1, h⟩ := obind h
  obtain ⟨⟨sl, e2⟩, h2, h⟩ := obind h
  obtain ⟨⟨r, outs⟩, h3, h⟩ := obind h
  dsimp only at h
  split at h
  case isFalse => cases h
  rename_i hsc
  cases h
  refine ha h1 w _ fun vs P1 H1 s1 w1 hv => ?_
  obtain ⟨P2, s2, w2, l2, o2, a2⟩ := args_ok w1 hv h2
  rw [List.append_nil]
  -- the lent cells, looked at as persistent ones
  let ios : Nat → Prop := fun i => ∃ k : Nat, ms[k]? = some true ∧ rs[k]? = some (R.s i)
  let L : Addr → Prop := fun a => ∃ i d, own e' i = some d ∧ ios i ∧ σ[i]? = some (some (.ref a))
  obtain ⟨f1, f2, f3⟩ := frOf_ok (ios := ios) w2
  have hex : ∃ PB : Hp, Same P2 PB ∧ (∀ a, L a → PB a = H1 a) ∧ (∀ a, ¬ L a → PB a = P2 a) := by
    classical
    refine ⟨fun a => if L a then H1 a else P2 a, fun a o g => ?_, fun a g => if_pos g, fun a g => if_neg g⟩
    by_cases c : L a
    · obtain ⟨i, d, b1, b2, b3⟩ := c
      obtain ⟨l, k1, k2, k3, k4⟩ := w2.ow i d b1
      rw [b3] at k1
      cases k1
      rw [k3] at g
      cases g
    · show (if L a then H1 a else P2 a) = some o
      rw [if_neg c]
      exact g
  obtain ⟨PB, sB, pL, pN⟩ := hex
  have pH : Same PB H1 := fun a o g => by
    by_cases c : L a
    · rw [pL a c] at g
      exact g
    · rw [pN a c] at g
      exact w2.pH a o g
  have frL : ∀ a, L a → frOf F e' σ ios H1 a = none := fun a ⟨i, d, b1, b2, b3⟩ => by
    obtain ⟨l, k1, k2, k3, k4⟩ := w2.ow i d b1
    rw [b3] at k1
    cases k1
    rw [frOf_out fun j dj m1 m2 m3 => m2 (by rw [w2.nd j i a dj d m1 b1 m3 b3]; exact b2)]
    exact k2
  have slIm : ∀ k s, sl[k]? = some s → ∃ d v, s = Sl.im d ∧ vs[k]? = some v ∧ Rp K PB d v := fun k s g => by
    rcases a2 k s g with ⟨d, v, b1, b2, b3, b4⟩ | ⟨d, i, v, b1, b2, b3, b4, b5, b6⟩
    · exact ⟨d, v, b1, b3, b4.mono sB⟩
    · refine ⟨d, v, b1, b5, ?_⟩
      obtain ⟨l, k1, k2, k3, ob, k4, k5⟩ := w2.ow i d b4
      rw [b6] at k1
      cases k1
      have hL : L l := ⟨i, d, b4, ⟨k, b2, b3⟩, b6⟩
      refine Rp.mono (P := L2.upd P2 l ob) (fun a o g => ?_) (rp_of_ob k3 k5)
      by_cases c : a = l
      · subst c
        rw [upd_same] at g
        cases g
        rw [pL _ hL]
        exact k4
      · rw [upd_ne c] at g
        exact sB a o g
  have noOwn : ∀ {k d}, own sl k ≠ some d := fun {k d} g => by
    unfold own at g
    cases c : sl[k]? with
    | none =>
      rw [c] at g
      cases g
    | some s =>
      obtain ⟨d', v, b1, _⟩ := slIm k s c
      subst b1
      rw [c] at g
      cases g
  have wc : Wd K (frOf F e' σ ios H1) (vs.map some) sl (vs.map some) PB H1 := by
    refine ⟨by rw [List.length_map]; exact l2, pH, f1, fun a o g => ?_, fun k d g => ?_, fun k d g => absurd g noOwn, fun _ _ _ => rfl, fun k j l dk dj g1 => absurd g1 noOwn⟩
    · by_cases c : L a
      · rw [frL a c] at g
        cases g
      · rw [pN a c]
        exact f2 a o g
    · obtain ⟨d', v, b1, b2, b3⟩ := slIm k _ g
      cases b1
      exact ⟨v, by rw [List.getElem?_map, b2]; rfl, b3⟩
  refine ⟨_, PB, sl, z, outs, h3, wc, l2, fun v P3 H3 s3 w3 r3 => ?_⟩
  have hex2 : ∃ P4 : Hp, Same P2 P4 ∧ (∀ a o, P4 a = some o → P3 a = some o) ∧ ∀ a, L a → P4 a = none := by
    classical
    refine ⟨fun a => if L a then none else P3 a, fun a o g => ?_, fun a o g => ?_, fun a g => if_pos g⟩
    · by_cases c : L a
      · obtain ⟨i, d, b1, b2, b3⟩ := c
        obtain ⟨l, k1, k2, k3, k4⟩ := w2.ow i d b1
        rw [b3] at k1
        cases k1
        rw [k3] at g
        cases g
      · show (if L a then none else P3 a) = some o
        rw [if_neg c]
        exact s3 a o (sB a o g)
    · dsimp only at g
      by_cases c : L a
      · rw [if_pos c] at g
        cases g
      · rw [if_neg c] at g
        exact g
  obtain ⟨P4, s4, q4, n4⟩ := hex2
  have w4 : Wd K F τ e' σ P4 H3 := by
    refine ⟨w2.len, fun a o g => w3.pH a o (q4 a o g), f3.trans w3.fH, fun a o g ht => ?_, fun i d g => ?_, fun i d g => ?_, w2.io, w2.nd⟩
    · cases c : P4 a with
      | none => rfl
      | some x =>
        have := w3.fP a o (f3 a o g) ht
        rw [q4 a x c] at this
        cases this
    · obtain ⟨v', k1, k2⟩ := w2.im i d g
      exact ⟨v', k1, k2.mono s4⟩
    · obtain ⟨l, k1, k2, k3, ob, k4, k5⟩ := w2.ow i d g
      by_cases c : ios i
      · have hL : L l := ⟨i, d, g, c, k1⟩
        refine ⟨l, k1, k2, n4 l hL, ob, w3.pH l ob (s3 l ob ?_), k5.mono s4⟩
        rw [pL l hL]
        exact k4
      · have hf : frOf F e' σ ios H1 l = some ob := by
          rw [frOf_in g c k1]
          exact k4
        refine ⟨l, k1, k2, ?_, ob, w3.fH l ob hf, k5.mono s4⟩
        cases c2 : P4 l with
        | none => rfl
        | some x =>
          have := w3.fP l ob hf k5.nt
          rw [q4 l x c2] at this
          cases this
  refine q v P4 H3 ((s1.trans s2).trans s4) w4 ?_
  cases z with
  | s i => cases hsc
  | f d => cases hsc
  | v d => cases d <;> first | (cases hsc; done) | exact r3
end
end Dv

set_option Elab.async false
set_option linter.all false
set_option maxRecDepth 100000
set_option maxHeartbeats 2000000
set_option autoImplicit false
/-! Dv7: cells changed by methods, dicts asked, built-in functions. -/
namespace Dv
open PySem L2

/-! ### cells changed by methods -/
def SMu (K : PySem.W.Frag) (r : V → List V → Hp → VK → Prop) (op : D → List D → Option (D × D)) : Prop := ∀ {P H : Hp} {l : Addr} {o : HO} {d : D} {ds : List D} {vs : List V} {d' z : D}, H l = some o → ObO K P d o → RpL K P ds vs → Same P H → op d ds = some (d', z) →
  ∀ Q : VK, (∀ v o', ObO K P d' o' → Rp K P z v → Q v (upd H l o')) → r (.ref l) vs H Q
namespace E
def chg (op : D → List D → Option (D × D)) (j : Nat) (as : AF) : EF := fun e => (own e j).bind fun d0 => if tyD "list" d0 = true then (as e).bind fun p => (fzs p.2 p.1).bind fun q => (own q.2 j).bind fun d => (op d q.1).map fun z => (.v z.2, putOw q.2 j z.1) else none
def isDK : D → Bool
  | .dK _ => true
  | _ => false
def setd (j : Nat) (fk fx : EF) : EF := fun e => (own e j).bind fun d0 => if isDK d0 = true then (fk e).bind fun p => (fx p.2).bind fun q => (fz q.2 q.1).bind fun x => (rd x.2 p.1).bind fun k => (keyOf k).bind fun k => match own x.2 j with
  | some (.dK kvs) => if kvs.length < 1000000 then (match dval kvs k with
      | some y => some (.v y, x.2)
      | none => some (.v x.1, putOw x.2 j (.dK (dput kvs k x.1)))) else none
  | _ => none
  else none
end E
def muAppend : D → List D → Option (D × D)
  | .lst ds, [x] => if ds.length < 1000000 then some (.lst (ds ++ [x]), .non) else none
  | _, _ => none
def muExtend : D → List D → Option (D × D)
  | .lst ds, [.lst xs] => if ds.length + xs.length ≤ 1000000 then some (.lst (ds ++ xs), .non) else none
  | _, _ => none
def muPop : D → List D → Option (D × D)
  | .lst ds, [] => (ds[ds.length - 1]?).map fun x => (.lst ds.dropLast, x)
  | _, _ => none
section
variable {K : PySem.W.Frag}
theorem snd_mut {r : V → List V → Hp → VK → Prop} {op : D → List D → Option (D × D)} {j : Nat} {ta : TA} {fa : AF} (hr : SMu K r op) (ha : SndA K ta fa) : SndE K (tBM K "list" r (tVar j) ta) (E.chg op j fa) := by
  intro F τ e σ P H z e' h w Q q
  obtain ⟨d0, h0, h⟩ := obind h
  split at h
  case isFalse => cases h
  rename_i ht
  obtain ⟨⟨rs, e1⟩, h1, h⟩ := obind h
  obtain ⟨⟨ds, e2⟩, h2, h⟩ := obind h
  obtain ⟨d, h3, h⟩ := obind h
  obtain ⟨⟨d', z'⟩, h4, h5⟩ := omap h
  cases h5
  obtain ⟨l, k1, k2, k3, k4⟩ := w.ow j d0 h0
  refine ⟨.ref l, k1, tyD_ok k4.vw ht, ?_⟩
  refine ha h1 w _ fun vs P1 H1 s1 w1 hv => ?_
  obtain ⟨P2, s2, w2, r2⟩ := fzs_ok w1 hv h2
  obtain ⟨l', m1, m2, m3, o, m4, m5⟩ := w2.ow j d h3
  rw [k1] at m1
  cases m1
  refine hr m4 m5 r2 w2.pH h4 Q fun v o' ho hz => ?_
  exact q v P2 _ (s1.trans s2) (w2.put h3 k1 ho) hz
theorem snd_mut0 {r : V → List V → Hp → VK → Prop} {op : D → List D → Option (D × D)} {j : Nat} (hr : SMu K r op) : SndE K (tBM0 K "list" r (tVar j)) (E.chg op j E.nil) := fun {F τ e σ P H z e'} h w Q q =>
  snd_mut hr snd_nil h w Q q
theorem smu_append : SMu K rAppend muAppend := by
  intro P H l o d ds vs d' z hH ho hr s h Q q
  unfold muAppend at h
  split at h
  · split at h
    · rename_i c
      cases h
      obtain ⟨v, t, rfl, r1, r2⟩ := hr.inv
      obtain rfl := r2.inv0
      cases o <;> first | exact ho.elim | skip
      have ho : RpL K P _ _ := ho
      exact ⟨l, _, v, rfl, rfl, hH, by rw [ho.len]; exact sz_okL c, q .non (.lst _) (show RpL K P _ _ from ho.app (.one r1)) rfl⟩
    · cases h
  · cases h
theorem smu_extend : SMu K rExtend muExtend := by
  intro P H l o d ds vs d' z hH ho hr s h Q q
  unfold muExtend at h
  split at h
  · split at h
    · rename_i c
      cases h
      obtain ⟨v, t, rfl, r1, r2⟩ := hr.inv
      obtain rfl := r2.inv0
      simp only [Rp] at r1
      obtain ⟨b, ws, rfl, g1, g2⟩ := r1
      cases o <;> first | exact ho.elim | skip
      have ho : RpL K P _ _ := ho
      exact ⟨l, b, _, ws, rfl, rfl, hH, s _ _ g1, by rw [ho.len, g2.len]; exact sz_ok c, q .non (.lst _) (show RpL K P _ _ from ho.app g2) rfl⟩
    · cases h
  · cases h
theorem RpL.dropLast {P : Hp} {ds : List D} {vs : List V} (h : RpL K P ds vs) : RpL K P ds.dropLast vs.dropLast := by
  rw [List.dropLast_eq_take, List.dropLast_eq_take, h.len]
  exact h.take _
theorem smu_pop : SMu K rPop muPop := by
  intro P H l o d ds vs d' z hH ho hr s h Q q
  unfold muPop at h
  split at h
  · obtain ⟨x, h1, h2⟩ := omap h
    cases h2
    obtain rfl := hr.inv0
    cases o <;> first | exact ho.elim | skip
    have ho : RpL K P _ _ := ho
    obtain ⟨v, g1, g2⟩ := ho.get h1
    exact ⟨l, _, v, rfl, rfl, hH, by rw [ho.len]; exact g1, q v (.lst _) (show RpL K P _ _ from ho.dropLast) g2⟩
  · cases h
theorem isD_of {P H : Hp} {d : D} {l : Addr} (h : Ob K P H d l) {k : D} : (∃ kvs, d = .dK kvs) ∨ (∃ kvs, d = .dT kvs) → IsD H l := by
  rintro (⟨kvs, rfl⟩ | ⟨kvs, rfl⟩)
  · obtain ⟨o, h1, h2⟩ := h
    cases o <;> first | exact h2.elim | exact .inl ⟨_, .inl h1⟩
  · obtain ⟨o, h1, h2⟩ := h
    cases o <;> first | exact h2.elim | exact .inr ⟨_, .inl h1⟩
theorem snd_setd {j : Nat} {ty tx : TE} {fk fx : EF} (hk : SndE K ty fk) (hx : SndE K tx fx) : SndE K (tDSetd (tVar j) ty tx) (E.setd j fk fx) := by
  intro F τ e σ P H z e' h w Q q
  obtain ⟨d0, h0, h⟩ := obind h
  split at h
  case isFalse => cases h
  rename_i hdk
  have hd : ∃ kvs, d0 = .dK kvs := by
    cases d0 <;> first | (cases hdk; done) | exact ⟨_, rfl⟩
  obtain ⟨⟨rk, e1⟩, h1, h⟩ := obind h
  obtain ⟨⟨rx, e2⟩, h2, h⟩ := obind h
  obtain ⟨⟨dx, e3⟩, h3, h⟩ := obind h
  obtain ⟨dk, h4, h⟩ := obind h
  obtain ⟨k, h5, h⟩ := obind h
  obtain ⟨l, k1, k2, k3, k4⟩ := w.ow j d0 h0
  refine ⟨.ref l, k1, l, rfl, isD_of (k := .non) k4 (.inl hd), ?_⟩
  refine hk.hv h1 w fun v1 P1 H1 s1 w1 hv1 => ?_
  refine hx h2 w1 _ fun v2 P2 H2 s2 w2 hv2 => ?_
  obtain ⟨P3, s3, w3, r3⟩ := w2.fz hv2 h3
  dsimp only at h
  split at h
  · rename_i kvs ho
    split at h
    case isFalse => cases h
    rename_i hz
    obtain ⟨l', m1, m2, m3, o, m4, m5⟩ := w3.ow j _ ho
    rw [k1] at m1
    cases m1
    cases o <;> first | exact m5.elim | skip
    have m5 : RpK K P3 _ _ := m5
    have ek : v1 = kV k := key_of ((w3.rdH (hv1.mono (s2.trans s3)) (by rw [rd_nf]; exact h4)).rp w3.pH) h5
    refine ⟨_, k, m4, ek, by rw [m5.len]; exact sz_okL hz, fun v hv => ?_, fun hv => ?_⟩
    · cases c : dval kvs k with
      | none =>
        rw [(m5.val (k := k)).2 c] at hv
        cases hv
      | some y =>
        simp only [c] at h
        cases h
        obtain ⟨v', g1, g2⟩ := (m5.val (k := k)).1 y c
        rw [hv] at g1
        cases g1
        exact q v P3 H2 ((s1.trans s2).trans s3) w3 g2
    · cases c : dval kvs k with
      | some y =>
        obtain ⟨v', g1, g2⟩ := (m5.val (k := k)).1 y c
        rw [hv] at g1
        cases g1
      | none =>
        simp only [c] at h
        cases h
        exact q v2 P3 _ ((s1.trans s2).trans s3) (w3.put ho k1 (o := .dK _) (m5.put r3)) r3
  · cases h
end

/-! ### dicts asked: d.get(k), d.get(k, x) -/
namespace E
def isD : D → Bool
  | .dK _ => true
  | .dT _ => true
  | _ => false
/-- what the dict holds at the key -/
def look : D → D → Option (Option D)
  | .dK kvs, k => (keyOf k).map fun k => dval kvs k
  | .dT kvs, .tup ks => (keysOf ks).map fun k => dval kvs k
  | _, _ => none
def get1 (fd fk : EF) : EF := fun e => (fd e).bind fun p => (rd p.2 p.1).bind fun d0 => if isD d0 = true then (fk p.2).bind fun q => (rd q.2 p.1).bind fun d => (rd q.2 q.1).bind fun k => (look d k).map fun o => (.v (o.getD .non), q.2) else none
def get2 (fd fk fx : EF) : EF := fun e => (fd e).bind fun p => (rd p.2 p.1).bind fun d0 => if isD d0 = true then (fk p.2).bind fun q => (fx q.2).bind fun x => (fz x.2 x.1).bind fun y => (rd y.2 p.1).bind fun d => (rd y.2 q.1).bind fun k => (look d k).map fun o => (.v (o.getD y.1), y.2) else none
end E
section
variable {K : PySem.W.Frag}
theorem isD_ok {P H : Hp} {d : D} {v : V} (h : Vw K P H d v) (hd : E.isD d = true) : ∃ a, v = .ref a ∧ IsD H a := by
  cases d <;> first | (cases hd; done) | skip
  · obtain ⟨a, kvs, rfl, e1, e2⟩ := h
    exact ⟨a, rfl, .inl ⟨kvs, e1⟩⟩
  · obtain ⟨a, kvs, rfl, e1, e2⟩ := h
    exact ⟨a, rfl, .inr ⟨kvs, e1⟩⟩
theorem look_ok {F : Hp} {τ : St} {e : DE} {σ : St} {P H : Hp} (w : Wd K F τ e σ P H) {d k : D} {a : Addr} {x : V} {o : Option D} (hd : Vw K P H d (.ref a)) (hk : Vw K P H k x) (h : E.look d k = some o) :
    ∃ u, DGet H a x u ∧ (∀ y, o = some y → ∃ v, u = some v ∧ Rp K P y v) ∧ (o = none → u = none) := by
  unfold E.look at h
  split at h
  · obtain ⟨k, h1, h2⟩ := omap h
    subst h2
    obtain ⟨a', kvs, ea, e1, e2⟩ := hd
    cases ea
    have ek := key_of (hk.rp w.pH) h1
    subst ek
    exact ⟨valV kvs k, .inl ⟨kvs, k, e1, rfl, rfl⟩, (e2.val (k := k)).1, (e2.val (k := k)).2⟩
  · obtain ⟨k, h1, h2⟩ := omap h
    subst h2
    obtain ⟨a', kvs, ea, e1, e2⟩ := hd
    cases ea
    obtain ⟨b, vs, rfl, g1, g2⟩ := hk.tup
    have ek := keys_of g2 h1
    subst ek
    exact ⟨valV kvs k, .inr ⟨kvs, k, b, e1, rfl, w.pH _ _ g1, rfl⟩, (e2.val (k := k)).1, (e2.val (k := k)).2⟩
  · cases h
theorem snd_get1 {td ty : TE} {fd fk : EF} (hd : SndE K td fd) (hk : SndE K ty fk) : SndE K (tDGet1 td ty) (E.get1 fd fk) := by
  intro F τ e σ P H z e' h w Q q
  obtain ⟨⟨rd0, e1⟩, h1, h⟩ := obind h
  obtain ⟨d0, h2, h⟩ := obind h
  dsimp only at h
  split at h
  case isFalse => cases h
  rename_i hD
  obtain ⟨⟨rk, e2⟩, h3, h⟩ := obind h
  obtain ⟨d, h4, h⟩ := obind h
  obtain ⟨k, h5, h⟩ := obind h
  obtain ⟨o, h6, h7⟩ := omap h
  cases h7
  refine hd.hv h1 w fun v1 P1 H1 s1 w1 hv1 => ?_
  obtain ⟨a, rfl, isd⟩ := isD_ok (w1.rdH hv1 (by rw [rd_nf]; exact h2)) hD
  refine ⟨a, rfl, isd, hk.hv h3 w1 fun v2 P2 H2 s2 w2 hv2 => ?_⟩
  obtain ⟨u, g1, g2, g3⟩ := look_ok w2 (w2.rdH (hv1.mono s2) (by rw [rd_nf]; exact h4)) (w2.rdH hv2 (by rw [rd_nf]; exact h5)) h6
  refine ⟨u, g1, ?_⟩
  cases o with
  | none =>
    rw [g3 rfl]
    exact q _ P2 H2 (s1.trans s2) w2 rfl
  | some y =>
    obtain ⟨v, e3, r3⟩ := g2 y rfl
    rw [e3]
    exact q _ P2 H2 (s1.trans s2) w2 r3
theorem snd_get2 {td ty tx : TE} {fd fk fx : EF} (hd : SndE K td fd) (hk : SndE K ty fk) (hx : SndE K tx fx) : SndE K (tDGet2 td ty tx) (E.get2 fd fk fx) := by
  intro F τ e σ P H z e' h w Q q
  obtain ⟨⟨rd0, e1⟩, h1, h⟩ := obind h
  obtain ⟨d0, h2, h⟩ := obind h
  dsimp only at h
  split at h
  case isFalse => cases h
  rename_i hD
  obtain ⟨⟨rk, e2⟩, h3, h⟩ := obind h
  obtain ⟨⟨rx, e3⟩, h3', h⟩ := obind h
  obtain ⟨⟨dx, e4⟩, h3'', h⟩ := obind h
  obtain ⟨d, h4, h⟩ := obind h
  obtain ⟨k, h5, h⟩ := obind h
  obtain ⟨o, h6, h7⟩ := omap h
  cases h7
  refine hd.hv h1 w fun v1 P1 H1 s1 w1 hv1 => ?_
  obtain ⟨a, rfl, isd⟩ := isD_ok (w1.rdH hv1 (by rw [rd_nf]; exact h2)) hD
  refine ⟨a, rfl, isd, hk.hv h3 w1 fun v2 P2 H2 s2 w2 hv2 => ?_⟩
  refine hx h3' w2 _ fun v3 P3 H3 s3 w3 hv3 => ?_
  obtain ⟨P4, s4, w4, r4⟩ := w3.fz hv3 h3''
  obtain ⟨u, g1, g2, g3⟩ := look_ok w4 (w4.rdH (hv1.mono ((s2.trans s3).trans s4)) (by rw [rd_nf]; exact h4)) (w4.rdH (hv2.mono (s3.trans s4)) (by rw [rd_nf]; exact h5)) h6
  refine ⟨u, g1, ?_⟩
  have st := ((s1.trans s2).trans s3).trans s4
  cases o with
  | none =>
    rw [g3 rfl]
    exact q _ P4 H3 st w4 r4
  | some y =>
    obtain ⟨v, e3, r3⟩ := g2 y rfl
    rw [e3]
    exact q _ P4 H3 st w4 r3
end

/-! ### built-in functions -/
def oLen : List D → Option R
  | [.lst ds] => some (.v (.int ds.length))
  | [.sq ds] => some (.v (.int ds.length))
  | [.tup ds] => some (.v (.int ds.length))
  | [.ct ds] => some (.v (.int ds.length))
  | [.str s] => if s.length ≤ 1000000 then some (.v (.int s.length)) else none
  | [.dK kvs] => some (.v (.int kvs.length))
  | _ => none
def oInt : List D → Option R
  | [.int i] => some (.v (.int i))
  | [.bl b] => some (.v (.int (if b then 1 else 0)))
  | _ => none
def oAbs : List D → Option R
  | [.int i] => some (.v (.int (if i < 0 then -i else i)))
  | _ => none
def oList : List D → Option R
  | [.lst ds] => some (.f (.lst ds))
  | [.sq ds] => some (.f (.lst ds))
  | [.tup ds] => some (.f (.lst ds))
  | [.ct ds] => some (.f (.lst ds))
  | _ => none
def oTuple : List D → Option R
  | [.lst ds] => some (.v (.tup ds))
  | [.tup ds] => some (.v (.tup ds))
  | [.ct ds] => some (.v (.ct ds))
  | _ => none
def intsOf : List D → Option (List Int)
  | [] => some []
  | .int i :: ds => (intsOf ds).map fun is => i :: is
  | _ => none
def blsOf : List D → Option (List Bool)
  | [] => some []
  | .bl i :: ds => (blsOf ds).map fun is => i :: is
  | _ => none
def lsts : D → Option (List D)
  | .lst ds => some ds
  | .sq ds => some ds
  | _ => none
def oSum : List D → Option R
  | [d] => (lsts d).bind fun ds => (intsOf ds).map fun is => .v (.int is.sum)
  | _ => none
def oAll : List D → Option R
  | [d] => (lsts d).bind fun ds => (blsOf ds).map fun is => .v (.bl (is.all id))
  | _ => none
def oAny : List D → Option R
  | [d] => (lsts d).bind fun ds => (blsOf ds).map fun is => .v (.bl (is.any id))
  | _ => none
def maxL : List Int → Int
  | [] => 0
  | [x] => x
  | x :: xs => if maxL xs > x then maxL xs else x
def minL : List Int → Int
  | [] => 0
  | [x] => x
  | x :: xs => if minL xs < x then minL xs else x
def oMax : List D → Option R
  | [.int i, .int j] => some (.v (.int (if j > i then j else i)))
  | [d] => (lsts d).bind fun ds => (intsOf ds).bind fun is => if is = [] then none else some (.v (.int (maxL is)))
  | _ => none
def oMin : List D → Option R
  | [.int i, .int j] => some (.v (.int (if j < i then j else i)))
  | [d] => (lsts d).bind fun ds => (intsOf ds).bind fun is => if is = [] then none else some (.v (.int (minL is)))
  | _ => none
def oGcd : List D → Option R
  | [.int i, .int j] => some (.v (.int (Nat.gcd i.natAbs j.natAbs : Nat)))
  | _ => none
/-- the first place of an equal one -/
def firstIx (p : PyData → Bool) : List PyData → Option Nat
  | [] => none
  | z :: zs => if p z then some 0 else (firstIx p zs).map (· + 1)
def oIndex : D → List D → Option R
  | .lst ds, [y] => (toPyL ds).bind fun ps => (toPy y).bind fun d => if SeqAt.shaped (.list ps) && SeqAt.shaped d then (firstIx (fun z => PyData.eqv z d) ps).map fun j => .v (.int (j : Nat)) else none
  | _, _ => none

def rLenA (K : PySem.W.Frag) : List V → Hp → VK → Prop := fun xs H Q => (∃ x n, xs = [x] ∧ LenV K x H n ∧ Q (.int n) H) ∨ ∃ a kvs, xs = [.ref a] ∧ Rd H a (.dK kvs) ∧ Q (.int kvs.length) H
def rIntA : List V → Hp → VK → Prop := fun xs H Q => (∃ i, xs = [.int i] ∧ Q (.int i) H) ∨ ∃ k, xs = [.bl k] ∧ Q (.int (if k then 1 else 0)) H
def rMaxA (K : PySem.W.Frag) : List V → Hp → VK → Prop := fun xs H Q => (∃ i j, xs = [.int i, .int j] ∧ Q (.int (if j > i then j else i)) H) ∨ rMax K xs H Q
def rMinA (K : PySem.W.Frag) : List V → Hp → VK → Prop := fun xs H Q => (∃ i j, xs = [.int i, .int j] ∧ Q (.int (if j < i then j else i)) H) ∨ rMin K xs H Q
section
variable {X : Cx}
theorem call_lenD' : CallR X (.builtin "len") (fun xs H Q => ∃ a kvs, xs = [.ref a] ∧ Rd H a (.dK kvs) ∧ Q (.int kvs.length) H) := by
  intro pins s σ H xs us Q I r h
  obtain ⟨a, kvs, rfl, e, q⟩ := h
  rw [Vals.ref1 r]
  exact d_len I e fun t s' I' => ⟨.int kvs.length, H, I', ⟨_, rfl⟩, q⟩
theorem cr_len : CallR X (.builtin "len") (rLenA X.K) := call_len.or call_lenD'
theorem cr_maxA (hc : X.calm = true) : CallR X (.builtin "max") (rMaxA X.K) := (call_max2 hc).or (cr_max hc)
theorem cr_minA (hc : X.calm = true) : CallR X (.builtin "min") (rMinA X.K) := (call_min2 hc).or (cr_min hc)
end
section
variable {K : PySem.W.Frag}
theorem VwL.inv {P H : Hp} {d : D} {ds : List D} {vs : List V} (h : VwL K P H (d :: ds) vs) : ∃ v t, vs = v :: t ∧ Vw K P H d v ∧ VwL K P H ds t := h
theorem VwL.one {P H : Hp} {d : D} {vs : List V} (h : VwL K P H [d] vs) : ∃ v, vs = [v] ∧ Vw K P H d v := by
  obtain ⟨v, t, rfl, h1, h2⟩ := h
  have h2 : t = [] := h2
  subst h2
  exact ⟨v, rfl, h1⟩
theorem VwL.two {P H : Hp} {d d' : D} {vs : List V} (h : VwL K P H [d, d'] vs) : ∃ v v', vs = [v, v'] ∧ Vw K P H d v ∧ Vw K P H d' v' := by
  obtain ⟨v, t, rfl, h1, h2⟩ := h
  obtain ⟨v', t', rfl, h3, h4⟩ := h2
  have h4 : t' = [] := h4
  subst h4
  exact ⟨v, v', rfl, h1, h3⟩
/-- a list that is read: tracked or not -/
theorem Vw.sql {F : Hp} {τ : St} {e : DE} {σ : St} {P H : Hp} (w : Wd K F τ e σ P H) {d : D} {ds : List D} {v : V} (h : Vw K P H d v) (g : lsts d = some ds) : ∃ a vs, v = .ref a ∧ SqL K H a vs ∧ RpL K P ds vs := by
  cases d <;> first | (cases g; done) | skip
  · cases g
    obtain ⟨a, vs, rfl, e1, e2⟩ := h
    exact ⟨a, vs, rfl, .of e1, e2⟩
  · cases g
    obtain ⟨a, vs, rfl, e1, e2⟩ := h.sq
    exact ⟨a, vs, rfl, (ExR.of w.pH).seq e1, e2⟩
theorem scb_len : SCb K (rLenA K) oLen := by
  intro F τ e σ P H vs ds z w hv h Q q
  unfold oLen at h
  split at h
  · cases h
    obtain ⟨v, rfl, h1⟩ := hv.one
    obtain ⟨a, us, rfl, e1, e2⟩ := h1
    exact .inl ⟨_, _, rfl, .inl ⟨us, .of e1, rfl⟩, by rw [e2.len]; exact q _ P H (.refl P) w rfl⟩
  · cases h
    obtain ⟨v, rfl, h1⟩ := hv.one
    obtain ⟨a, us, rfl, e1, e2⟩ := h1.sq
    exact .inl ⟨_, _, rfl, .inl ⟨us, (ExR.of w.pH).seq e1, rfl⟩, by rw [e2.len]; exact q _ P H (.refl P) w rfl⟩
  · cases h
    obtain ⟨v, rfl, h1⟩ := hv.one
    obtain ⟨a, us, rfl, e1, e2⟩ := h1.tup
    exact .inl ⟨_, _, rfl, .inr ⟨us, .of (w.pH _ _ e1), rfl⟩, by rw [e2.len]; exact q _ P H (.refl P) w rfl⟩
  · cases h
    obtain ⟨v, rfl, h1⟩ := hv.one
    obtain ⟨a, us, rfl, e1, e2⟩ := h1.ct
    exact .inl ⟨_, _, rfl, .inr ⟨us, (ExR.of w.pH).sqt e1, rfl⟩, by rw [e2.len]; exact q _ P H (.refl P) w rfl⟩
  · split at h
    · rename_i c
      cases h
      obtain ⟨v, rfl, h1⟩ := hv.one
      obtain rfl : v = .str _ := h1
      exact .inl ⟨_, _, rfl, ⟨sz_ok c, rfl⟩, q _ P H (.refl P) w rfl⟩
    · cases h
  · cases h
    obtain ⟨v, rfl, h1⟩ := hv.one
    obtain ⟨a, us, rfl, e1, e2⟩ := h1
    exact .inr ⟨a, us, rfl, e1, by rw [e2.len]; exact q _ P H (.refl P) w rfl⟩
  · cases h
theorem scb_int : SCb K rIntA oInt := by
  intro F τ e σ P H vs ds z w hv h Q q
  unfold oInt at h
  split at h
  · cases h
    obtain ⟨v, rfl, h1⟩ := hv.one
    obtain rfl : v = .int _ := h1
    exact .inl ⟨_, rfl, q _ P H (.refl P) w rfl⟩
  · cases h
    obtain ⟨v, rfl, h1⟩ := hv.one
    obtain rfl : v = .bl _ := h1
    exact .inr ⟨_, rfl, q _ P H (.refl P) w rfl⟩
  · cases h
theorem scb_abs : SCb K (fun xs H Q => ∃ i, xs = [.int i] ∧ Q (.int (if i < 0 then -i else i)) H) oAbs := by
  intro F τ e σ P H vs ds z w hv h Q q
  unfold oAbs at h
  split at h
  · cases h
    obtain ⟨v, rfl, h1⟩ := hv.one
    obtain rfl : v = .int _ := h1
    exact ⟨_, rfl, q _ P H (.refl P) w rfl⟩
  · cases h
theorem scb_gcd : SCb K rGcd oGcd := by
  intro F τ e σ P H vs ds z w hv h Q q
  unfold oGcd at h
  split at h
  · cases h
    obtain ⟨v, v', rfl, h1, h2⟩ := hv.two
    obtain rfl : v = .int _ := h1
    obtain rfl : v' = .int _ := h2
    exact ⟨_, _, rfl, q _ P H (.refl P) w rfl⟩
  · cases h
theorem scb_list : SCb K (fun xs H Q => ∃ p ys, xs = [.ref p] ∧ (SqL K H p ys ∨ SqT K H p ys) ∧ ∀ l, H l = none → Q (.ref l) (upd H l (.lst ys))) oList := by
  intro F τ e σ P H vs ds z w hv h Q q
  unfold oList at h
  split at h
  · cases h
    obtain ⟨v, rfl, h1⟩ := hv.one
    obtain ⟨a, us, rfl, e1, e2⟩ := h1
    exact ⟨a, us, rfl, .inl (.of e1), fun p hp => q _ P _ (.refl P) (w.new hp) (w.newR hp (o := .lst _) e2)⟩
  · cases h
    obtain ⟨v, rfl, h1⟩ := hv.one
    obtain ⟨a, us, rfl, e1, e2⟩ := h1.sq
    exact ⟨a, us, rfl, .inl ((ExR.of w.pH).seq e1), fun p hp => q _ P _ (.refl P) (w.new hp) (w.newR hp (o := .lst _) e2)⟩
  · cases h
    obtain ⟨v, rfl, h1⟩ := hv.one
    obtain ⟨a, us, rfl, e1, e2⟩ := h1.tup
    exact ⟨a, us, rfl, .inr (.of (w.pH _ _ e1)), fun p hp => q _ P _ (.refl P) (w.new hp) (w.newR hp (o := .lst _) e2)⟩
  · cases h
    obtain ⟨v, rfl, h1⟩ := hv.one
    obtain ⟨a, us, rfl, e1, e2⟩ := h1.ct
    exact ⟨a, us, rfl, .inr ((ExR.of w.pH).sqt e1), fun p hp => q _ P _ (.refl P) (w.new hp) (w.newR hp (o := .lst _) e2)⟩
  · cases h
theorem scb_tuple : SCb K (fun xs H Q => ∃ p ys, xs = [.ref p] ∧ ((SqL K H p ys ∧ ∀ l, H l = none → Q (.ref l) (upd H l (.tup ys))) ∨ (SqT K H p ys ∧ Q (.ref p) H))) oTuple := by
  intro F τ e σ P H vs ds z w hv h Q q
  unfold oTuple at h
  split at h
  · cases h
    obtain ⟨v, rfl, h1⟩ := hv.one
    obtain ⟨a, us, rfl, e1, e2⟩ := h1
    refine ⟨a, us, rfl, .inl ⟨.of e1, fun p hp => ?_⟩⟩
    obtain ⟨w3, r3, s3⟩ := w.newT hp e2
    exact q _ _ _ s3 w3 r3
  · cases h
    obtain ⟨v, rfl, h1⟩ := hv.one
    have h1' : Rp K P _ v := h1
    obtain ⟨a, us, rfl, e1, e2⟩ := h1.tup
    exact ⟨a, us, rfl, .inr ⟨.of (w.pH _ _ e1), q _ P H (.refl P) w h1'⟩⟩
  · cases h
    obtain ⟨v, rfl, h1⟩ := hv.one
    have h1' : Rp K P _ v := h1
    obtain ⟨a, us, rfl, e1, e2⟩ := h1.ct
    exact ⟨a, us, rfl, .inr ⟨(ExR.of w.pH).sqt e1, q _ P H (.refl P) w h1'⟩⟩
  · cases h
theorem intsOf_eq : ∀ {ds : List D} {is : List Int}, intsOf ds = some is → ds = is.map D.int
  | [], _, h => by
    cases h
    rfl
  | .int i :: ds, _, h => by
    obtain ⟨is, h1, h2⟩ := omap h
    subst h2
    rw [List.map_cons, ← intsOf_eq h1]
  | .non :: _, _, h => by cases h
  | .bl _ :: _, _, h => by cases h
  | .str _ :: _, _, h => by cases h
  | .lst _ :: _, _, h => by cases h
  | .tup _ :: _, _, h => by cases h
  | .sq _ :: _, _, h => by cases h
  | .ct _ :: _, _, h => by cases h
  | .dK _ :: _, _, h => by cases h
  | .dT _ :: _, _, h => by cases h
theorem blsOf_eq : ∀ {ds : List D} {is : List Bool}, blsOf ds = some is → ds = is.map D.bl
  | [], _, h => by
    cases h
    rfl
  | .bl i :: ds, _, h => by
    obtain ⟨is, h1, h2⟩ := omap h
    subst h2
    rw [List.map_cons, ← blsOf_eq h1]
  | .non :: _, _, h => by cases h
  | .int _ :: _, _, h => by cases h
  | .str _ :: _, _, h => by cases h
  | .lst _ :: _, _, h => by cases h
  | .tup _ :: _, _, h => by cases h
  | .sq _ :: _, _, h => by cases h
  | .ct _ :: _, _, h => by cases h
  | .dK _ :: _, _, h => by cases h
  | .dT _ :: _, _, h => by cases h
theorem scb_sum : SCb K (rSum K) oSum := by
  intro F τ e σ P H vs ds z w hv h Q q
  unfold oSum at h
  split at h
  · obtain ⟨xs, h1, h⟩ := obind h
    obtain ⟨is, h2, h3⟩ := omap h
    subst h3
    obtain ⟨v, rfl, hv1⟩ := hv.one
    obtain ⟨a, us, rfl, e1, e2⟩ := hv1.sql w h1
    rw [intsOf_eq h2] at e2
    rw [e2.ints] at e1
    exact ⟨a, is, rfl, e1, q _ P H (.refl P) w rfl⟩
  · cases h
theorem scb_all : SCb K (rAll K) oAll := by
  intro F τ e σ P H vs ds z w hv h Q q
  unfold oAll at h
  split at h
  · obtain ⟨xs, h1, h⟩ := obind h
    obtain ⟨is, h2, h3⟩ := omap h
    subst h3
    obtain ⟨v, rfl, hv1⟩ := hv.one
    obtain ⟨a, us, rfl, e1, e2⟩ := hv1.sql w h1
    rw [blsOf_eq h2] at e2
    rw [e2.bls] at e1
    exact ⟨a, is, rfl, e1, q _ P H (.refl P) w rfl⟩
  · cases h
theorem scb_any : SCb K (rAny K) oAny := by
  intro F τ e σ P H vs ds z w hv h Q q
  unfold oAny at h
  split at h
  · obtain ⟨xs, h1, h⟩ := obind h
    obtain ⟨is, h2, h3⟩ := omap h
    subst h3
    obtain ⟨v, rfl, hv1⟩ := hv.one
    obtain ⟨a, us, rfl, e1, e2⟩ := hv1.sql w h1
    rw [blsOf_eq h2] at e2
    rw [e2.bls] at e1
    exact ⟨a, is, rfl, e1, q _ P H (.refl P) w rfl⟩
  · cases h
theorem maxL_ok : ∀ {is : List Int}, is ≠ [] → maxL is ∈ is ∧ ∀ y, y ∈ is → y ≤ maxL is
  | [], h => absurd rfl h
  | [x], _ => ⟨by simp [maxL], fun y hy => by simp at hy; simp [maxL, hy]⟩
  | x :: y :: r, _ => by
    obtain ⟨h1, h2⟩ := maxL_ok (is := y :: r) (by simp)
    have e : maxL (x :: y :: r) = if maxL (y :: r) > x then maxL (y :: r) else x := rfl
    rw [e]
    refine ⟨?_, fun z hz => ?_⟩
    · split
      · exact List.mem_cons_of_mem _ h1
      · exact List.mem_cons_self
    · rcases List.mem_cons.mp hz with rfl | hz
      · split <;> omega
      · have := h2 z hz
        split <;> omega
theorem minL_ok : ∀ {is : List Int}, is ≠ [] → minL is ∈ is ∧ ∀ y, y ∈ is → minL is ≤ y
  | [], h => absurd rfl h
  | [x], _ => ⟨by simp [minL], fun y hy => by simp at hy; simp [minL, hy]⟩
  | x :: y :: r, _ => by
    obtain ⟨h1, h2⟩ := minL_ok (is := y :: r) (by simp)
    have e : minL (x :: y :: r) = if minL (y :: r) < x then minL (y :: r) else x := rfl
    rw [e]
    refine ⟨?_, fun z hz => ?_⟩
    · split
      · exact List.mem_cons_of_mem _ h1
      · exact List.mem_cons_self
    · rcases List.mem_cons.mp hz with rfl | hz
      · split <;> omega
      · have := h2 z hz
        split <;> omega
theorem scb_max : SCb K (rMaxA K) oMax := by
  intro F τ e σ P H vs ds z w hv h Q q
  unfold oMax at h
  split at h
  · cases h
    obtain ⟨v, v', rfl, h1, h2⟩ := hv.two
    obtain rfl : v = .int _ := h1
    obtain rfl : v' = .int _ := h2
    exact .inl ⟨_, _, rfl, q _ P H (.refl P) w rfl⟩
  · obtain ⟨xs, h1, h⟩ := obind h
    obtain ⟨is, h2, h⟩ := obind h
    split at h
    · cases h
    · rename_i hne
      cases h
      obtain ⟨v, rfl, hv1⟩ := hv.one
      obtain ⟨a, us, rfl, e1, e2⟩ := hv1.sql w h1
      rw [intsOf_eq h2] at e2
      rw [e2.ints] at e1
      refine .inr ⟨a, is, rfl, e1, List.length_pos_iff.mpr hne, fun m hm hle => ?_⟩
      obtain ⟨g1, g2⟩ := maxL_ok hne
      have em : m = maxL is := Int.le_antisymm (g2 m hm) (hle _ g1)
      rw [em]
      exact q _ P H (.refl P) w rfl
  · cases h
theorem scb_min : SCb K (rMinA K) oMin := by
  intro F τ e σ P H vs ds z w hv h Q q
  unfold oMin at h
  split at h
  · cases h
    obtain ⟨v, v', rfl, h1, h2⟩ := hv.two
    obtain rfl : v = .int _ := h1
    obtain rfl : v' = .int _ := h2
    exact .inl ⟨_, _, rfl, q _ P H (.refl P) w rfl⟩
  · obtain ⟨xs, h1, h⟩ := obind h
    obtain ⟨is, h2, h⟩ := obind h
    split at h
    · cases h
    · rename_i hne
      cases h
      obtain ⟨v, rfl, hv1⟩ := hv.one
      obtain ⟨a, us, rfl, e1, e2⟩ := hv1.sql w h1
      rw [intsOf_eq h2] at e2
      rw [e2.ints] at e1
      refine .inr ⟨a, is, rfl, e1, List.length_pos_iff.mpr hne, fun m hm hle => ?_⟩
      obtain ⟨g1, g2⟩ := minL_ok hne
      have em : m = minL is := Int.le_antisymm (hle _ g1) (g2 m hm)
      rw [em]
      exact q _ P H (.refl P) w rfl
  · cases h
theorem firstIx_ok {p : PyData → Bool} : ∀ {zs : List PyData} {j : Nat}, firstIx p zs = some j → (∃ z, zs[j]? = some z ∧ p z = true) ∧ ∀ (m : Nat) (z : PyData), m < j → zs[m]? = some z → p z = false
  | [], _, h => by cases h
  | x :: zs, j, h => by
    unfold firstIx at h
    split at h
    · rename_i c
      cases h
      exact ⟨⟨x, rfl, c⟩, fun m z hm => absurd hm (Nat.not_lt_zero _)⟩
    · rename_i c
      obtain ⟨i, h1, h2⟩ := omap h
      subst h2
      obtain ⟨⟨z, g1, g2⟩, g3⟩ := firstIx_ok h1
      refine ⟨⟨z, by simpa using g1, g2⟩, fun m z hm hz => ?_⟩
      cases m with
      | zero =>
        have e : x = z := by simpa using hz
        rw [← e]
        simpa using c
      | succ m => exact g3 m z (by omega) (by simpa using hz)
theorem smt_index : SMt K (rIndexD K) oIndex := by
  intro F τ e σ P H x dx vs ds z w hx hv h Q q
  unfold oIndex at h
  split at h
  · obtain ⟨ps, h1, h⟩ := obind h
    obtain ⟨d, h2, h⟩ := obind h
    split at h
    · rename_i c
      rw [Bool.and_eq_true] at c
      obtain ⟨j, h3, h4⟩ := omap h
      subst h4
      obtain ⟨v, rfl, h5⟩ := hv.one
      obtain ⟨⟨y, g1, g2⟩, g3⟩ := firstIx_ok h3
      have hx' := hx
      obtain ⟨a, us, rfl, e1, e2⟩ := hx
      exact ⟨a, v, d, ps, j, y, rfl, rfl, hx'.dp w.pH (by simp only [toPy, h1]; rfl), h5.dp w.pH h2, c.1, c.2, g1, g2, g3, q _ P H (.refl P) w rfl⟩
    · cases h
  · cases h
end
end Dv

set_option Elab.async false
set_option linter.all false
set_option maxRecDepth 100000
set_option maxHeartbeats 2000000
set_option autoImplicit false
/-! Dv8: what is walked whatever it is; a def as it stands; the law. -/
namespace Dv
open PySem L2

def iAny (K : PySem.W.Frag) (tl : TE) : TI := fun σ H R => tl σ H fun x H1 => (∃ a, x = .ref a ∧ (∃ xs, SqL K H1 a xs) ∧ R (Itl K a) H1) ∨ (∃ a, x = .ref a ∧ (∃ xs, SqT K H1 a xs) ∧ R (Itt K a) H1) ∨ ∃ z, x = .str z ∧ R (Its z) H1
section
open PySem.Spec PyProof.Rows
theorem pi_any {X : Cx} {tg l : Expr} {tl : TE} (hl : PE X l tl) : PI X tg l (iAny X.K tl) := by
  refine ⟨fun pins s σ H R I h => ?_⟩
  refine thn (hl.run pins s σ H _ I h) fun v s1 ⟨x, H1, I1, r1, q1⟩ => ?_
  rcases q1 with ⟨a, e, ⟨xs, hq⟩, q⟩ | ⟨a, e, ⟨xs, hq⟩, q⟩ | ⟨z, e, q⟩
  · subst e
    cases r1
    obtain ⟨its, rv, p, hz⟩ := I1.list hq
    refine wpAny_pyIter_list p.isList ?_
    refine ⟨s1.heap.objs.size, [s1.heap.objs.size], _, _, H1, rfl, I1.kept (t' := s1.toks) fun b o e => Heap.get?_push_of_some _ e, turn_list a _, ⟨_, Heap.get?_push_size _ rfl, rfl, rfl⟩, fun b hb => ?_, q⟩
    have e : b = s1.heap.objs.size := by simpa using hb
    subst e
    exact I1.fpOk (Nat.le_refl _) (I1.hok.fresh (Nat.le_refl _))
  · subst e
    cases r1
    obtain ⟨its, rv, p, hz⟩ := I1.tuple hq
    refine wpAny_pyIter_tuple (show s1.heap.IsTuple a its.toArray from p) ?_
    refine ⟨s1.heap.objs.size, [s1.heap.objs.size], _, _, H1, rfl, I1.kept (t' := s1.toks) fun b o e => Heap.get?_push_of_some _ e, turn_tuple a _, ⟨_, Heap.get?_push_size _ rfl, rfl, rfl⟩, fun b hb => ?_, q⟩
    have e : b = s1.heap.objs.size := by simpa using hb
    subst e
    exact I1.fpOk (Nat.le_refl _) (I1.hok.fresh (Nat.le_refl _))
  · subst e
    obtain ⟨t, rfl⟩ := r1
    cases ha : z.cps.all (· < 128)
    · exact wpAny_pyIter_wide ha (pi_one (tk := s1.toks) I1 _ (turn_str _ z t "str_iterator" (.inr rfl)) ⟨_, Heap.get?_push_size _ rfl, rfl, rfl⟩ q)
    · exact wpAny_pyIter_ascii ha (pi_one (tk := s1.toks) I1 _ (turn_str _ z t "str_ascii_iterator" (.inl rfl)) ⟨_, Heap.get?_push_size _ rfl, rfl, rfl⟩ q)
end
namespace I
def any (f : EF) : IF := fun e => (f e).bind fun p => (fz p.2 p.1).bind fun q => match q.1 with
  | .lst ds => some (ds, q.2)
  | .sq ds => some (ds, q.2)
  | .tup ds => some (ds, q.2)
  | .ct ds => some (ds, q.2)
  | .str z => some (z.cps.toList.map fun c => D.str ⟨#[c]⟩, q.2)
  | _ => none
end I
section
variable {K : PySem.W.Frag}
theorem walks_str {z : Str} {P : Hp} : Walks K (Its z) P (z.cps.toList.map fun c => D.str ⟨#[c]⟩) where
  item := fun {F τ e σ P' H i d} s w g => by
    rw [List.getElem?_map] at g
    obtain ⟨c, h1, h2⟩ := omap g
    subst h2
    have h3 : z.cps[i]? = some c := by simpa using h1
    refine ⟨(Array.getElem?_eq_some_iff.mp h3).1, fun x H' y => ?_⟩
    obtain ⟨e1, c', e2, e3⟩ := y
    subst e1 e3
    rw [h3] at e2
    cases e2
    exact ⟨P', .refl P', w, rfl⟩
  stop := fun {F τ e σ P' H i} s w g => by
    show z.cps.size ≤ i
    simpa using g
theorem sndi_any {tl : TE} {f : EF} (hf : SndE K tl f) : SndI K (iAny K tl) (I.any f) := by
  intro F τ e σ P H ds e' h w R q
  obtain ⟨⟨r, e1⟩, h1, h⟩ := obind h
  obtain ⟨⟨d, e2⟩, h2, h⟩ := obind h
  refine hf h1 w _ fun v P1 H1 s1 w1 r1 => ?_
  obtain ⟨P2, s2, w2, r2⟩ := w1.fz r1 h2
  dsimp only at h
  split at h
  · cases h
    simp only [Rp] at r2
    obtain ⟨a, vs, rfl, g1, g2⟩ := r2
    exact .inl ⟨a, rfl, ⟨vs, .of (w2.pH _ _ g1)⟩, q _ P2 H1 (s1.trans s2) w2 (walks_lst (.of g1) g2)⟩
  · cases h
    simp only [Rp] at r2
    obtain ⟨a, vs, rfl, g1, g2⟩ := r2
    exact .inl ⟨a, rfl, ⟨vs, (ExR.of w2.pH).seq g1⟩, q _ P2 H1 (s1.trans s2) w2 (walks_lst g1 g2)⟩
  · cases h
    simp only [Rp] at r2
    obtain ⟨a, vs, rfl, g1, g2⟩ := r2
    exact .inr (.inl ⟨a, rfl, ⟨vs, .of (w2.pH _ _ g1)⟩, q _ P2 H1 (s1.trans s2) w2 (walks_tup (.of g1) g2)⟩)
  · cases h
    simp only [Rp] at r2
    obtain ⟨a, vs, rfl, g1, g2⟩ := r2
    exact .inr (.inl ⟨a, rfl, ⟨vs, (ExR.of w2.pH).sqt g1⟩, q _ P2 H1 (s1.trans s2) w2 (walks_tup g1 g2)⟩)
  · cases h
    obtain rfl : v = .str _ := r2
    exact .inr (.inr ⟨_, rfl, q _ P2 H1 (s1.trans s2) w2 walks_str⟩)
  · cases h
end
theorem hu65 {A : Around} {k : Nat} (hr : Room k A) : A.units + 65 < cLine := by
  have := hr.un
  omega
theorem hu64 {A : Around} {k : Nat} (hr : Room k A) : A.units + 64 < cLine := hr.units
theorem hu1 {A : Around} {k : Nat} (hr : Room k A) : A.units + 1 < cLine := hu_of hr
/-- a def of the text, callable -/
def Df (P : Program) (w : World) (K : PySem.W.Frag) (mg : Str → Option Value) (base : Heap) (x : Str) (ps : List Str) (k : Nat) (c : CF) : Prop :=
  ∃ f fd, FnOk P w K mg base CX0 k f fd ps (SpD K c) ∧ Binds K fd ps [] ∧ PySem.W.keepIn K (.ref f) = true ∧ mg x = some (.ref f)
def spLaw (K : PySem.W.Frag) : Sp := fun vs H Q _ => ∃ (a : Addr) (ns : List Int), vs = [.ref a] ∧ SqL K H a (ns.map V.int) ∧ ns.length ≤ 63 ∧ ∀ H', Q (.bl true) H'
theorem law_of {P : Program} {w : World} {K : PySem.W.Frag} {mg : Str → Option Value} {base : Heap} {k : Nat} {f : Addr} {fd : FuncData} {ps : List Str} {c : CF} (F : FnOk P w K mg base CX0 k f fd ps (SpD K c))
    (h : ∀ ns : List Int, ns.length ≤ 63 → ∃ outs, c [.im (.sq (ns.map D.int))] = some (.v (.bl true), outs)) : FnOk P w K mg base CX0 k f fd ps (spLaw K) := by
  refine F.imp fun vs H Q E hs => ?_
  obtain ⟨a, ns, rfl, hS, hl, q⟩ := hs
  obtain ⟨outs, ho⟩ := h ns hl
  have hP : ∃ Pp : Hp, Same Pp H ∧ SqL K Pp a (ns.map V.int) := by
    classical
    refine ⟨fun x => if x = a then H a else none, fun x o g => ?_, ?_⟩
    · dsimp only at g
      split at g
      · rename_i c
        subst c
        exact g
      · cases g
    · refine hS.imp (fun hr => ?_) id
      rcases hr with hr | ⟨ob, hr⟩
      · exact .inl (by dsimp only; rw [if_pos rfl]; exact hr)
      · exact .inr ⟨ob, by dsimp only; rw [if_pos rfl]; exact hr⟩
  obtain ⟨Pp, s1, s2⟩ := hP
  refine ⟨fun _ => none, Pp, _, _, outs, ho, ⟨rfl, s1, fun a o g => (nomatch g), fun a o g => (nomatch g), fun i d g => ?_, fun i d g => ?_, fun _ _ _ => rfl, fun i j l di dj g => ?_⟩, rfl, fun v P' H' s w hr => ?_⟩
  · cases i with
    | zero =>
      cases g
      refine ⟨.ref a, rfl, ?_⟩
      simp only [Rp]
      exact ⟨a, _, rfl, s2, RpL.ofInts⟩
    | succ i => simp at g
  · cases i with
    | zero => cases g
    | succ i => simp [own] at g
  · cases i with
    | zero => cases g
    | succ i => simp [own] at g
  · obtain rfl : v = .bl true := hr
    exact q H'
end Dv

set_option Elab.async false
set_option linter.all false
set_option maxRecDepth 100000
set_option maxHeartbeats 2000000
set_option autoImplicit false
/-! Dv9: isinstance of built-in types; defs that call themselves. -/
namespace Dv
open PySem L2

inductive TN where
  | int | bool | str | list | tuple | dict
def TN.name : TN → String
  | .int => "int" | .bool => "bool" | .str => "str" | .list => "list" | .tuple => "tuple" | .dict => "dict"
def isi : TN → D → Bool
  | .int, .int _ => true
  | .int, .bl _ => true
  | .bool, .bl _ => true
  | .str, .str _ => true
  | .list, .lst _ => true
  | .list, .sq _ => true
  | .tuple, .tup _ => true
  | .tuple, .ct _ => true
  | .dict, .dK _ => true
  | .dict, .dT _ => true
  | _, _ => false
namespace E
def isi (T : TN) (f : EF) : EF := fun e => (f e).bind fun p => (rd p.2 p.1).bind fun d => some (.v (.bl (Dv.isi T d)), p.2)
end E
/-- a dict with tuples as keys, locked or not -/
def rIsiA (K : PySem.W.Frag) : List V → Hp → VK → Prop := fun xs H Q => rIsi K xs H Q ∨ ∃ (a : Addr) (c : V) (u : Value) (kvs : List (List Key × V)) (b : Bool), xs = [.ref a, c] ∧ ClsV c u ∧ Rd H a (.dT kvs) ∧ PySem.W.kitOne K (.type "dict") u = some b ∧ Q (.bl b) H
section
open PySem.Spec PyProof.Rows
variable {X : Cx}
theorem call_isiDT : CallR X (.builtin "isinstance") (fun xs H Q => ∃ (a : Addr) (c : V) (u : Value) (kvs : List (List Key × V)) (b : Bool), xs = [.ref a, c] ∧ ClsV c u ∧ Rd H a (.dT kvs) ∧ PySem.W.kitOne X.K (.type "dict") u = some b ∧ Q (.bl b) H) := by
  intro pins s σ H xs us Q I r h
  obtain ⟨a, c, u, kvs, b, rfl, k, ty, e, q⟩ := h
  obtain ⟨u1, u2, rfl, r1, r2⟩ := vals2 r
  have e2 := k.eq r2
  subst e2
  obtain rfl : u1 = Value.ref a := r1
  obtain ⟨_, _, xs, _, o, es, ep, h1, h2, _⟩ := dt_rd I.hok ty
  exact PySem.W.kia_one PySem.W.kitx_dict I.kIn ⟨o, h1, h2.1⟩ e (fun z => nomatch z) fun tk => ⟨.bl b, H, I.tok tk, rfl, q⟩
theorem cr_isi : CallR X (.builtin "isinstance") (rIsiA X.K) := call_isi.or call_isiDT
end
section
variable {K : PySem.W.Frag}
theorem kitB_all (T : TN) : kitB "NoneType" T.name = some false ∧ kitB "bool" T.name = some (isi T (.bl true)) ∧ kitB "int" T.name = some (isi T (.int 0)) ∧ kitB "str" T.name = some (isi T (.str ⟨#[]⟩)) ∧ kitB "list" T.name = some (isi T (.lst [])) ∧ kitB "tuple" T.name = some (isi T (.tup [])) ∧ kitB "dict" T.name = some (isi T (.dK [])) := by
  cases T <;> decide +kernel
theorem isi_ok {F : Hp} {τ : St} {e : DE} {σ : St} {P H : Hp} (w : Wd K F τ e σ P H) {d : D} {x : V} (h : Vw K P H d x) (T : TN) {Q : VK} (q : Q (.bl (isi T d)) H) : rIsiA K [x, .ty T.name] H Q := by
  obtain ⟨a1, a2, a3, a4, a5, a6, a7⟩ := kitB_all T
  cases d with
  | non =>
    obtain rfl : x = .non := h
    exact .inl ⟨_, _, _, _, _, rfl, .ty _, .base .non, kit_ty (by rw [a1]), by cases T <;> exact q⟩
  | bl b =>
    obtain rfl : x = .bl b := h
    exact .inl ⟨_, _, _, _, _, rfl, .ty _, .base (.bl b), kit_ty (by rw [a2]), by cases T <;> exact q⟩
  | int b =>
    obtain rfl : x = .int b := h
    exact .inl ⟨_, _, _, _, _, rfl, .ty _, .base (.int b), kit_ty (by rw [a3]), by cases T <;> exact q⟩
  | str b =>
    obtain rfl : x = .str b := h
    exact .inl ⟨_, _, _, _, _, rfl, .ty _, .base (.str b), kit_ty (by rw [a4]), by cases T <;> exact q⟩
  | lst ds =>
    obtain ⟨a, vs, rfl, e1, e2⟩ := h
    exact .inl ⟨_, _, _, _, _, rfl, .ty _, .base (.lst e1), kit_ty (by rw [a5]), by cases T <;> exact q⟩
  | sq ds =>
    obtain ⟨a, vs, rfl, e1, e2⟩ := h.sq
    have ty : TyX K H (.ref a) (.type "list") := by
      rcases (ExR.of w.pH).seq e1 with (g | ⟨o, g⟩) | ⟨o, its, n, g, gc, _⟩
      · exact .base (.lst g)
      · exact .base (.frz g)
      · exact .kList g gc
    exact .inl ⟨_, _, _, _, _, rfl, .ty _, ty, kit_ty (by rw [a5]), by cases T <;> exact q⟩
  | tup ds =>
    obtain ⟨a, vs, rfl, e1, e2⟩ := h.tup
    exact .inl ⟨_, _, _, _, _, rfl, .ty _, .base (.tup (w.pH _ _ e1)), kit_ty (by rw [a6]), by cases T <;> exact q⟩
  | ct ds =>
    obtain ⟨a, vs, rfl, e1, e2⟩ := h.ct
    have ty : TyX K H (.ref a) (.type "tuple") := by
      rcases (ExR.of w.pH).sqt e1 with (g | ⟨o, g⟩) | ⟨o, its, n, g, gc, _⟩
      · exact .base (.tup g)
      · exact .fTuple g
      · exact .kTuple g gc
    exact .inl ⟨_, _, _, _, _, rfl, .ty _, ty, kit_ty (by rw [a6]), by cases T <;> exact q⟩
  | dK ds =>
    obtain ⟨a, kvs, rfl, e1, e2⟩ := h
    have ty : TyX K H (.ref a) (.type "dict") := by
      rcases e1 with g | ⟨o, g⟩
      · exact .base (.dK g)
      · exact .fDict g
    exact .inl ⟨_, _, _, _, _, rfl, .ty _, ty, kit_ty (by rw [a7]), by cases T <;> exact q⟩
  | dT ds =>
    obtain ⟨a, kvs, rfl, e1, e2⟩ := h
    exact .inr ⟨a, _, _, kvs, _, rfl, .ty _, e1, kit_ty (by rw [a7]), by cases T <;> exact q⟩
theorem snd_isi {T : TN} {te : TE} {f : EF} (hf : SndE K te f) : SndE K (tCB (rIsiA K) (tCons te (tCons (tC (.ty T.name)) tNil))) (E.isi T f) := by
  intro F τ e σ P H z e' h w Q q
  obtain ⟨⟨r, e1⟩, h1, h⟩ := obind h
  obtain ⟨d, h2, h⟩ := obind h
  cases h
  refine hf.hv h1 w fun v1 P1 H1 s1 w1 hv1 => ?_
  exact isi_ok w1 (w1.rdH hv1 (by rw [rd_nf]; exact h2)) T (q _ P1 H1 s1 w1 rfl)
end
/-- a def that calls itself: n calls deep -/
theorem rec_ok {P : Program} {w : World} {K : PySem.W.Frag} {mg : Str → Option Value} {base : Heap} {L : Nat} {f : Addr} {fd : FuncData} {ps : List Str} {c : Nat → CF} (h0 : ∀ sl, c 0 sl = none)
    (h : ∀ n, FnOk P w K mg base CX0 (L + n) f fd ps (SpD K (c n)) → FnOk P w K mg base CX0 (L + n + 1) f fd ps (SpD K (c (n + 1)))) : ∀ n, FnOk P w K mg base CX0 (L + n) f fd ps (SpD K (c n))
  | 0 => by
    have no : ∀ vs H Q E, ¬ SpD K (c 0) vs H Q E := fun vs H Q E hs => by
      obtain ⟨_, _, sl, r, outs, h1, _⟩ := hs
      rw [h0] at h1
      cases h1
    exact ⟨fun vs H Q E hs => absurd hs (no vs H Q E), fun A outer s H args us vs Q E _ _ _ _ hs => absurd hs (no vs H Q E)⟩
  | n + 1 => h n (rec_ok h0 h n)
end Dv

set_option Elab.async false
set_option linter.all false
set_option maxRecDepth 100000
set_option maxHeartbeats 2000000
set_option autoImplicit false
/-! Dv10: sorted, a pair of names set at once, int. -/
namespace Dv
open PySem L2 PySem.W PyProof.Rows

/-- in order by the second, equal ones in their order -/
def sD {α : Type} (l : List (α × PyData)) : List (α × PyData) := l.mergeSort fun a b => !dataLt b.2 a.2
def okS (ps : List PyData) : Bool := (ps.all fun p => ps.all fun q => alike p q) &&
  ((ps.all fun p => match p with | .tuple (_ :: _) => true | _ => false) || (ps.all fun p => match p with | .none => false | .tuple _ => false | _ => true)) && (ps.all fun p => decide (p.depth ≤ 40))
theorem okS_alike {ps : List PyData} (h : okS ps = true) : AllAlike ps := by
  unfold okS at h
  simp only [Bool.and_eq_true] at h
  intro d hd d' hd'
  exact List.all_eq_true.mp (List.all_eq_true.mp h.1.1 d hd) d' hd'
theorem okS_able {ps : List PyData} (h : okS ps = true) : Sortable ps := by
  unfold okS at h
  simp only [Bool.and_eq_true, Bool.or_eq_true] at h
  rcases h.1.2 with h | h
  · refine .inl fun d hd => ?_
    have q := List.all_eq_true.mp h d hd
    split at q
    · exact ⟨_, _, rfl⟩
    · cases q
  · refine .inr fun d hd => ?_
    have q := List.all_eq_true.mp h d hd
    split at q
    · cases q
    · cases q
    · rename_i h1 h2
      exact ⟨h1, fun xs e => h2 xs e⟩
theorem okS_deep {ps : List PyData} (h : okS ps = true) : ∀ d, d ∈ ps → d.depth ≤ 40 := by
  unfold okS at h
  simp only [Bool.and_eq_true] at h
  intro d hd
  exact of_decide_eq_true (List.all_eq_true.mp h.2 d hd)
section
variable {X : Cx} {pins : List (Addr × Obj)} {σ : L2.St} {H : Hp} {s : Shared}
theorem each_reads (I : Inv X pins σ H s) : ∀ {xs : List V} {us : List Value} {ps : List PyData}, DpAll X.K H xs ps → Vals xs us → EachIs (fun v d => ∃ as, Reads s.heap v d as) us ps
  | _, _, _, .nil, .nil => .nil
  | _, _, _, .cons h t, .cons r rs => .cons (Dp.reads I _ _ _ h r) (each_reads I t rs)
theorem each_rel {K : PySem.W.Frag} : ∀ {xs : List V} {us : List Value} {ps : List PyData}, DpAll K H xs ps → Vals xs us → EachIs (fun u (b : V × PyData) => RelV b.1 u) us (xs.zip ps)
  | _, _, _, .nil, .nil => .nil
  | _, _, _, .cons h t, .cons r rs => .cons r (each_rel t rs)
theorem each_key {h : Heap} {qs : List PyData} (hal : AllAlike qs) : ∀ {xs : List V} {us : List Value} {ps : List PyData}, (∀ p ∈ ps, p ∈ qs) → xs.length = us.length → EachIs (fun v d => ∃ as, Reads h v d as) us ps →
    EachIs (fun v (b : V × PyData) => (dataKind h qs).keyOf v = some (keyToks b.2)) us (xs.zip ps)
  | [], [], _, _, _, .nil => .nil
  | x :: xs, u :: us, p :: ps, hm, hl, .cons h t => by
    obtain ⟨as, r⟩ := h
    exact .cons (dataKind_some hal (hm p List.mem_cons_self) r) (each_key hal (fun q hq => hm q (List.mem_cons_of_mem _ hq)) (by simpa using hl) t)
  | _ :: _, [], _, _, hl, _ => by simp at hl
  | [], _ :: _, _, _, hl, _ => by simp at hl
theorem vals_each : ∀ {us : List Value} {bs : List (V × PyData)}, EachIs (fun u (b : V × PyData) => RelV b.1 u) us bs → Vals (bs.map (·.1)) us
  | _, _, .nil => .nil
  | _, _, .cons h t => .cons h (vals_each t)
theorem sD_len {α : Type} (l : List (α × PyData)) : (sD l).length = l.length := (List.mergeSort_perm _ _).length_eq
theorem dpAll_len {K : PySem.W.Frag} : ∀ {xs : List V} {ps : List PyData}, DpAll K H xs ps → xs.length = ps.length
  | _, _, .nil => rfl
  | _, _, .cons _ t => by rw [List.length_cons, List.length_cons, dpAll_len t]
/-- what the sort of these makes -/
theorem sort_vals_of (I : Inv X pins σ H s) {xs : List V} {us : List Value} {ps : List PyData} (hd : DpAll X.K H xs ps) (r : Vals xs us) (hk : okS ps = true) : Vals ((sD (xs.zip ps)).map (·.1)) (sortVals (dataKind s.heap ps) false us us) :=
  vals_each (sortVals_each (κ := dataKind s.heap ps) (R := fun u (b : V × PyData) => RelV b.1 u) (fun b : V × PyData => keyToks b.2) (each_rel hd r) (each_key (okS_alike hk) (fun _ h => h) r.length (each_reads I hd r)))
theorem sorts_at {A : Around} (hu : A.units + 40 < cLine) (I : Inv X pins σ H s) {xs : List V} {us : List Value} {ps : List PyData} (hd : DpAll X.K H xs ps) (r : Vals xs us) (hk : okS ps = true) : SortsAt X.prog X.w A s (dataKind s.heap ps) us :=
  SortsAt.data (each_reads I hd r) (okS_alike hk) (okS_able hk) fun d hm => by
    have := okS_deep hk d hm
    omega
end

/-- sorted(xs) of a list whose items are alike -/
def rSortL (K : PySem.W.Frag) : List V → Hp → VK → Prop := fun vs H Q => ∃ (a : Addr) (xs : List V) (ps : List PyData), vs = [.ref a] ∧ SqL K H a xs ∧ DpAll K H xs ps ∧ okS ps = true ∧ ∀ p, H p = none → Q (.ref p) (upd H p (.lst ((sD (xs.zip ps)).map (·.1))))
def keyP : Key → PyData
  | .inl i => .int i
  | .inr x => .str x
/-- sorted(d), keys plain -/
def rSortK : List V → Hp → VK → Prop := fun vs H Q => ∃ (a : Addr) (kvs : List (Key × V)), vs = [.ref a] ∧ Rd H a (.dK kvs) ∧ okS (kvs.map fun kv => keyP kv.1) = true ∧
  ∀ p, H p = none → Q (.ref p) (upd H p (.lst ((sD ((kvs.map fun kv => kV kv.1).zip (kvs.map fun kv => keyP kv.1))).map (·.1))))
/-- sorted(d), keys tuples -/
def rSortT : List V → Hp → VK → Prop := fun vs H Q => ∃ (a : Addr) (kvs : List (List Key × V)), vs = [.ref a] ∧ Rd H a (.dT kvs) ∧ okS (kvs.map fun kv => PyData.tuple (kv.1.map keyP)) = true ∧
  ∀ p bs, H p = none → IsKeys H kvs bs → Q (.ref p) (upd H p (.lst ((sD ((bs.map V.ref).zip (kvs.map fun kv => PyData.tuple (kv.1.map keyP)))).map (·.1))))
theorem dp_key {K : PySem.W.Frag} {H : Hp} : ∀ k : Key, Dp K H (kV k) (keyP k)
  | .inl i => .int i
  | .inr x => .str x
theorem dps_key {K : PySem.W.Frag} {H : Hp} : ∀ ks : List Key, DpAll K H (ks.map kV) (ks.map keyP)
  | [] => .nil
  | k :: ks => .cons (dp_key k) (dps_key ks)
theorem dps_keys {K : PySem.W.Frag} {H : Hp} : ∀ {kvs : List (List Key × V)} {bs : List Addr}, IsKeys H kvs bs → DpAll K H (bs.map V.ref) (kvs.map fun kv => PyData.tuple (kv.1.map keyP))
  | _, _, .nil => .nil
  | _, _, .cons h t => .cons (.tup (.inl (Rd.of h)) (dps_key _)) (dps_keys t)
section
variable {X : Cx}
theorem cr_sortL (hu : X.A.units + 65 < cLine) : CallR X (.builtin "sorted") (rSortL X.K) := by
  intro pins s σ H vs us Q I r h
  obtain ⟨a, xs, ps, rfl, hs, hd, hk, q⟩ := h
  obtain ⟨its, rv, hl, hz⟩ := I.list hs
  rw [Vals.ref1 r]
  have I1 : Inv X pins σ H { s with heap := sortingHeap (copyHeap s.heap its) (s.heap.objs.size + 1) its, toks := s.toks } := I.kept fun b u e => sorting_copy_old e
  refine sorted_vals (κ := dataKind (sortingHeap (copyHeap s.heap its) (s.heap.objs.size + 1) its) ps) hl.isList (sorts_at (A := X.A.in1.in1) (by simp only [Around.in1_units]; omega) I1 hd rv hk) (by rw [← rv.length]; exact hz) ?_
  have hv := sort_vals_of I1 hd rv hk
  obtain ⟨ep, he'⟩ := PyProof.Rows.sortedAll_at s.heap its (sortVals (dataKind (sortingHeap (copyHeap s.heap its) (s.heap.objs.size + 1) its) ps) false its its).toArray
  have hlen : ((sD (xs.zip ps)).map (·.1)).length ≤ sizeLine := by
    rw [List.length_map, sD_len, List.length_zip]
    omega
  exact ⟨.ref _, upd H (s.heap.objs.size + 1) (.lst _), I.laid (t' := s.toks) (fun _ _ => PyProof.Rows.sortedAll_old) (Nat.le_succ _) ⟨hlen, _, ep, hv, he'⟩, rfl, q _ (I.hok.fresh (Nat.le_succ _))⟩
/-- the row's own part: the keys are collected, a list of them sorted -/
theorem sort_src {pins : List (Addr × Obj)} {s : Shared} {σ : L2.St} {H : Hp} {Q : VK} {n : Nat} {Pk : Nat → Value → Prop} {OK : Heap → Prop} {d : Addr} (hc : X.calm = true) (hu : X.A.units + 65 < cLine) (I : Inv X pins σ H s) (S : KdlSrc X.prog X.w "dict" d d n Pk OK) (ho : OK s.heap) (hn : n ≤ sizeLine)
    {xs : List V} {ps : List PyData} (hx : xs.length = n) (hd : DpAll X.K H xs ps) (hk : okS ps = true) (ha : ∀ acc : Array Value, ItemsOf Pk acc n → Vals xs acc.toList)
    (q : ∀ p, H p = none → Q (.ref p) (upd H p (.lst ((sD (xs.zip ps)).map (·.1))))) : wpAny (model X.prog X.w) X.A (call (.builtin "sorted") [.ref d]) (EP X pins σ Q) X.xe s := by
  refine Calls.call_function_entry PyProof.Rows.kind_sorted PyProof.Rows.plain_sorted PyProof.Rows.entry_sorted (PyProof.Rows.args_sorted1 _) ?_
  unfold Builtin.«sorted»
  refine wpAny_bind (m := checkCount "sorted" 1 1 _) (wpAny_pure ?_)
  refine wpAny_bind (PySem.W.kdu_collect (A := X.A.in1) S (I.ok.hd hc) ho hn fun h' tk acc hkp hacc => ?_)
  have rv := ha acc hacc
  have hal : acc.toList.length = n := by rw [← rv.length]; exact hx
  have I1 : Inv X pins σ H { s with heap := h', toks := tk } := I.kept hkp
  refine wpAny_bind (wpAny_newList ?_ (by rw [hal]; exact hn))
  have hoL : (h'.push (seqObj "list" acc.toList.toArray 0)).get? h'.objs.size = some (seqObj "list" acc.toList.toArray 0) := Heap.get?_push_size _ rfl
  show wpAny _ _ _ _ _ { s with heap := h'.push (seqObj "list" acc.toList.toArray 0), toks := tk }
  have kp2 : ∀ b u, h'.get? b = some u → (sortingHeap (h'.push (seqObj "list" acc.toList.toArray 0)) h'.objs.size acc.toList).get? b = some u := fun b u e =>
    sortingHeap_old (Nat.ne_of_lt (Heap.lt_size e)) (Heap.get?_push_of_some _ e)
  have I2 : Inv X pins σ H { s with heap := sortingHeap (h'.push (seqObj "list" acc.toList.toArray 0)) h'.objs.size acc.toList, toks := tk } := I1.kept kp2
  have hv := sort_vals_of I2 hd rv hk
  refine wpAny_bind (wpAny_holding (wpAny_call_entry PyProof.Rows.slot_list_sort ⟨_, hoL, rfl⟩ PyProof.Rows.entry_list_sort
    (list_sort_vals (κ := dataKind (sortingHeap (h'.push (seqObj "list" acc.toList.toArray 0)) h'.objs.size acc.toList) ps) (s := { s with heap := h'.push (seqObj "list" acc.toList.toArray 0), toks := tk }) hoL
      (sorts_at (by simp only [Around.in1_units]; omega) I2 hd rv hk) (by rw [hal]; exact hn) ⟨_, rfl, ?_⟩) (PyProof.Rows.args_list_sort _)))
  obtain ⟨e', he'⟩ := PyProof.Rows.sortedHeap_at (vs := acc.toList) (out := (sortVals (dataKind (sortingHeap (h'.push (seqObj "list" acc.toList.toArray 0)) h'.objs.size acc.toList) ps) false acc.toList acc.toList).toArray) hoL
  have hlen : ((sD (xs.zip ps)).map (·.1)).length ≤ sizeLine := by
    rw [List.length_map, sD_len, List.length_zip]
    omega
  refine wpAny_pure ⟨_, rfl, .ref h'.objs.size, upd H h'.objs.size (.lst ((sD (xs.zip ps)).map (·.1))), I1.laid (t' := tk) (fun b u e => ?_) (Nat.le_refl _)
    (show ObjOk X.prog X.w _ _ _ (.lst ((sD (xs.zip ps)).map (·.1))) from ⟨hlen, _, e', hv, he'⟩), rfl, q _ (I1.hok.fresh (Nat.le_refl _))⟩
  have hb : b < h'.objs.size := Heap.lt_size e
  rw [PyProof.Rows.sortedHeap_old (Nat.ne_of_lt hb) (by rw [size_push']; exact Nat.lt_succ_of_lt hb)]
  exact Heap.get?_push_of_some _ e
theorem cr_sortK (hc : X.calm = true) (hu : X.A.units + 65 < cLine) : CallR X (.builtin "sorted") rSortK := by
  intro pins s σ H xs us Q I r h
  obtain ⟨a, kvs, rfl, hd, hk, q⟩ := h
  rw [Vals.ref1 r]
  obtain ⟨z, lo, vs, rel, dd⟩ := dk_rd I.hok hd
  obtain ⟨ep, hat⟩ := dd.dictAt
  have hl : kvs.length = vs.length := Paired.length rel
  have e0 : (kvs.map fun kv => kV kv.1) = (kvs.map (·.1)).map kV := by rw [List.map_map] <;> rfl
  have e1 : (kvs.map fun kv => keyP kv.1) = (kvs.map (·.1)).map keyP := by rw [List.map_map] <;> rfl
  refine sort_src hc hu I (PySem.W.kdl_dict (knd := mixKind X.prog X.w) (kvs := vs) (ep := ep) lo) hat (by rw [← hl]; exact z) (by rw [List.length_map]; exact hl) (by rw [e0, e1]; exact dps_key _) hk (fun acc hacc => ?_) q
  have el : acc.toList.length = acc.size := by simp
  refine vals_of_at (by rw [List.length_map, el, hacc.1, hl]) fun j x w h1 h2 => ?_
  obtain ⟨k, y, hky, hi⟩ := hacc.2 j w (by rw [← Array.getElem?_toList]; exact h2)
  have e1 : (kvs.map (·.1))[j]? = some k := by rw [KV.keys rel, List.getElem?_map, hky] <;> rfl
  have e2 : (kvs.map fun kv => kV kv.1)[j]? = some (kV k) := by rw [e0, List.getElem?_map, e1] <;> rfl
  rw [e2] at h1
  cases h1
  exact keyIs_rel hi
theorem cr_sortT (hc : X.calm = true) (hu : X.A.units + 65 < cLine) : CallR X (.builtin "sorted") rSortT := by
  intro pins s σ H xs us Q I r h
  obtain ⟨d, kvs, rfl, hd, hk, q⟩ := h
  rw [Vals.ref1 r]
  obtain ⟨z, hs, ks, pr, o, es, ep, ho, hx, hdt, he, hn⟩ := (show ObjOk X.prog X.w H s.heap d (.dT kvs) from hd.ok I.hok)
  have l1 : es.size = ks.length := size_of_entries he
  have l2 : kvs.length = ks.length := Paired.length pr
  refine sort_src hc hu I (kdl_raw hs hx hdt) ho (by omega) (xs := (ks.map fun x => x.2.1).map V.ref) (by rw [List.length_map, List.length_map]; exact l1.symm) (dps_keys (isKeys_of pr)) hk (fun acc' it => ?_) fun p hp => q p _ hp (isKeys_of pr)
  have ea : acc'.toList = ks.map fun x => Value.ref x.2.1 := by
    have hl : acc'.toList.length = ks.length := by rw [Array.length_toList, it.1]; exact l1
    apply List.ext_getElem?
    intro j
    rw [List.getElem?_map]
    cases hj : acc'.toList[j]? with
    | none =>
      have h1 := List.getElem?_eq_none_iff.mp hj
      rw [List.getElem?_eq_none (by omega)]
      all_goals rfl
    | some v =>
      obtain ⟨en, hen, hv⟩ := it.2 j v (by rw [← Array.getElem?_toList]; exact hj)
      have qe := entry_at he j
      rw [hen] at qe
      cases hb : ks[j]? with
      | none =>
        rw [hb] at qe
        exact nomatch (show some en = none from qe)
      | some b =>
        rw [hb] at qe
        have e2 : en = entryOfKey (tupleKind (mixKind X.prog X.w)) b := Option.some.inj qe
        rw [hv, e2]
        all_goals rfl
  have eb : acc'.toList = (ks.map fun x => x.2.1).map Value.ref := by rw [ea, List.map_map]; all_goals rfl
  rw [eb]
  exact vals_refs _
def rSortA (K : PySem.W.Frag) : List V → Hp → VK → Prop := fun xs H Q => rSortL K xs H Q ∨ rSortK xs H Q ∨ rSortT xs H Q
theorem cr_sorted (hc : X.calm = true) (hu : X.A.units + 65 < cLine) : CallR X (.builtin "sorted") (rSortA X.K) := (cr_sortL hu).or ((cr_sortK hc hu).or (cr_sortT hc hu))
theorem cr_int : CallR X (.type "int") rIntA := call_int1
end
def keyD : Key → D
  | .inl i => .int i
  | .inr x => .str x
def oSorted : List D → Option R
  | [.lst ds] => (toPyL ds).bind fun ps => if okS ps then some (.f (.lst ((sD (ds.zip ps)).map (·.1)))) else none
  | [.sq ds] => (toPyL ds).bind fun ps => if okS ps then some (.f (.lst ((sD (ds.zip ps)).map (·.1)))) else none
  | [.dK kvs] => if okS (kvs.map fun kv => keyP kv.1) then some (.f (.lst ((sD ((kvs.map fun kv => keyD kv.1).zip (kvs.map fun kv => keyP kv.1))).map (·.1)))) else none
  | [.dT kvs] => if okS (kvs.map fun kv => PyData.tuple (kv.1.map keyP)) then some (.f (.lst ((sD ((kvs.map fun kv => D.tup (kv.1.map keyD)).zip (kvs.map fun kv => PyData.tuple (kv.1.map keyP)))).map (·.1)))) else none
  | _ => none
section
variable {K : PySem.W.Frag} {P : Hp}
theorem rpl_zip : ∀ {ds : List D} {vs : List V} {ps : List PyData}, RpL K P ds vs → EachIs (fun (a : D × PyData) (b : V × PyData) => Rp K P a.1 b.1 ∧ a.2 = b.2) (ds.zip ps) (vs.zip ps)
  | [], vs, ps, h => by
    have h : vs = [] := h
    subst h
    exact .nil
  | d :: ds, vs, ps, h => by
    obtain ⟨v, r, rfl, h1, h2⟩ := h
    cases ps with
    | nil => exact .nil
    | cons p ps => exact .cons ⟨h1, rfl⟩ (rpl_zip h2)
theorem rpl_each : ∀ {as : List (D × PyData)} {bs : List (V × PyData)}, EachIs (fun (a : D × PyData) (b : V × PyData) => Rp K P a.1 b.1 ∧ a.2 = b.2) as bs → RpL K P (as.map (·.1)) (bs.map (·.1))
  | _, _, .nil => rfl
  | _, _, .cons h t => ⟨_, _, rfl, h.1, rpl_each t⟩
theorem rpl_sD {ds : List D} {vs : List V} {ps : List PyData} (h : RpL K P ds vs) : RpL K P ((sD (ds.zip ps)).map (·.1)) ((sD (vs.zip ps)).map (·.1)) := by
  have e := rpl_zip (ps := ps) h
  refine rpl_each (sort_each e fun p hp q hq => ?_)
  have a1 := (e.zip p hp).2
  have a2 := (e.zip q hq).2
  show (!dataLt q.1.2 p.1.2) = (!dataLt q.2.2 p.2.2)
  rw [a1, a2]
theorem rpl_keys : ∀ ks : List Key, RpL K P (ks.map keyD) (ks.map kV)
  | [] => rfl
  | .inl i :: ks => ⟨_, _, rfl, rfl, rpl_keys ks⟩
  | .inr x :: ks => ⟨_, _, rfl, rfl, rpl_keys ks⟩
theorem rpt_keysP : ∀ {kds : List (List Key × D)} {kvs : List (List Key × V)}, RpT K P kds kvs → kds.map (·.1) = kvs.map (·.1)
  | [], kvs, h => by
    have h : kvs = [] := h
    subst h
    rfl
  | (k, d) :: kds, kvs, h => by
    obtain ⟨v, r, rfl, h1, h2⟩ := h
    rw [List.map_cons, List.map_cons, rpt_keysP h2]
theorem rpk_keysP : ∀ {kds : List (Key × D)} {kvs : List (Key × V)}, RpK K P kds kvs → kds.map (·.1) = kvs.map (·.1)
  | [], kvs, h => by
    have h : kvs = [] := h
    subst h
    rfl
  | (k, d) :: kds, kvs, h => by
    obtain ⟨v, r, rfl, h1, h2⟩ := h
    rw [List.map_cons, List.map_cons, rpk_keysP h2]
theorem rpl_isKeys {H : Hp} (ht : ∀ a vs, H a = some (.tup vs) → P a = some (.tup vs)) : ∀ {kvs : List (List Key × V)} {bs : List Addr}, IsKeys H kvs bs → RpL K P (kvs.map fun kv => D.tup (kv.1.map keyD)) (bs.map V.ref)
  | _, _, .nil => rfl
  | _, _, .cons h t => ⟨_, _, rfl, by simp only [Rp]; exact ⟨_, _, rfl, ht _ _ h, rpl_keys _⟩, rpl_isKeys ht t⟩
theorem map_key {α β γ : Type} {l : List (α × β)} {m : List (α × γ)} (h : l.map (·.1) = m.map (·.1)) {δ : Type} (f : α → δ) : (l.map fun x => f x.1) = m.map fun x => f x.1 := by
  have e1 : (l.map fun x => f x.1) = (l.map (·.1)).map f := by rw [List.map_map] <;> rfl
  have e2 : (m.map fun x => f x.1) = (m.map (·.1)).map f := by rw [List.map_map] <;> rfl
  rw [e1, e2, h]
theorem scb_sorted : SCb K (rSortA K) oSorted := by
  intro F τ e σ P H vs ds z w hv h Q q
  unfold oSorted at h
  split at h
  · obtain ⟨ps, h1, h⟩ := obind h
    split at h
    case isFalse => cases h
    rename_i hk
    cases h
    obtain ⟨v, rfl, a, us, rfl, e1, e2⟩ := hv.one
    exact .inl ⟨a, us, ps, rfl, .inl (.of e1), dps_of _ _ _ (e2.mono w.pH) h1, hk, fun p hp => q _ P _ (.refl P) (w.new hp) (w.newR hp (o := .lst _) (rpl_sD e2))⟩
  · obtain ⟨ps, h1, h⟩ := obind h
    split at h
    case isFalse => cases h
    rename_i hk
    cases h
    obtain ⟨v, rfl, h2⟩ := hv.one
    obtain ⟨a, us, rfl, e1, e2⟩ := h2.sq
    exact .inl ⟨a, us, ps, rfl, (ExR.of w.pH).seq e1, dps_of _ _ _ (e2.mono w.pH) h1, hk, fun p hp => q _ P _ (.refl P) (w.new hp) (w.newR hp (o := .lst _) (rpl_sD e2))⟩
  · split at h
    case isFalse => cases h
    rename_i kds hk
    cases h
    obtain ⟨v, rfl, a, us, rfl, e1, e2⟩ := hv.one
    have ek := rpk_keysP e2
    have e3 := map_key ek keyP
    rw [e3] at hk
    refine .inr (.inl ⟨a, us, rfl, e1, hk, fun p hp => q _ P _ (.refl P) (w.new hp) (w.newR hp (o := .lst _) ?_)⟩)
    rw [e3, map_key ek keyD]
    show RpL K P _ _
    refine rpl_sD ?_
    have e4 : (us.map fun kv => keyD kv.1) = (us.map (·.1)).map keyD := by rw [List.map_map] <;> rfl
    have e5 : (us.map fun kv => kV kv.1) = (us.map (·.1)).map kV := by rw [List.map_map] <;> rfl
    rw [e4, e5]
    exact rpl_keys _
  · split at h
    case isFalse => cases h
    rename_i kds hk
    cases h
    obtain ⟨v, rfl, a, us, rfl, e1, e2⟩ := hv.one
    have ek := rpt_keysP e2
    have e3 := map_key ek fun k => PyData.tuple (k.map keyP)
    rw [e3] at hk
    refine .inr (.inr ⟨a, us, rfl, e1, hk, fun p bs hp hb => ?_⟩)
    obtain ⟨P', s1, w1, ht⟩ := w.tups
    refine q _ P' _ s1 (w1.new hp) (w1.newR hp (o := .lst _) ?_)
    rw [e3, map_key ek fun k => D.tup (k.map keyD)]
    exact rpl_sD (rpl_isKeys ht hb)
  · cases h
end
/-! ### two names at once -/
namespace S
def par (i j : Nat) (fa : AF) : SF := fun e => (fa e).bind fun p => (E.fzs p.2 p.1).bind fun q => match q.1 with
  | [x, y] => (setIm q.2 i x).bind fun e1 => (setIm e1 j y).map .nx
  | _ => none
end S
theorem snds_par {K : PySem.W.Frag} {i j : Nat} {ta : TA} {fa : AF} (ha : SndA K ta fa) : SndS K (tPar i j ta) (S.par i j fa) := by
  intro F τ e σ P H o D h w q
  obtain ⟨⟨rs, e1⟩, h1, h⟩ := obind h
  obtain ⟨⟨ds, e2⟩, h2, h⟩ := obind h
  dsimp only at h
  split at h
  case h_2 => cases h
  rename_i x y hx
  obtain ⟨e3, h3, h⟩ := obind h
  obtain ⟨e4, h4, h5⟩ := omap h
  subst h5
  refine ha h1 w _ fun vs P1 H1 s1 w1 hv => ?_
  obtain ⟨P2, s2, w2, r2⟩ := fzs_ok w1 hv h2
  obtain ⟨v, t, rfl, r3, t, u, rfl, r4, r5⟩ := r2
  obtain rfl : u = [] := r5
  exact ⟨v, _, rfl, q _ P2 H1 (s1.trans s2) ((w2.setIm h3 r3).setIm h4 r4)⟩
end Dv

set_option Elab.async false
set_option linter.all false
set_option maxRecDepth 100000
set_option maxHeartbeats 2000000
set_option autoImplicit false
/-! Dv11: what the combinators compute, told for loops, comprehensions and plain data. -/
namespace Dv
open PySem L2

/-! ### a def's body -/
/-- what a def's body hands back -/
def done (m n : Nat) : Option Out → Option (R × List Sl)
  | some (.nx e) => if e.length = n then some (.v .non, (e.take m).map keepIo) else none
  | some (.rt r e) => if e.length = n then (retOf e r).map fun r' => (r', (e.take m).map keepIo) else none
  | _ => none
theorem run_eq (m n : Nat) (b : SF) (sl : List Sl) (h : sl.length = m) : run m n b sl = done m n (b (sl ++ List.replicate (n - m) .no)) := by
  subst h
  unfold run
  rw [if_pos rfl]
  cases e : b (sl ++ List.replicate (n - sl.length) .no) with
  | none => rfl
  | some o => cases o <;> rfl
theorem done_rt {m n : Nat} {r r' : R} {e : DE} (hl : e.length = n) (hr : retOf e r = some r') : done m n (some (.rt r e)) = some (r', (e.take m).map keepIo) := by
  unfold done
  dsimp only
  rw [if_pos hl, hr]
  rfl
theorem done_nx {m n : Nat} {e : DE} (hl : e.length = n) : done m n (some (.nx e)) = some (.v .non, (e.take m).map keepIo) := by
  unfold done
  dsimp only
  rw [if_pos hl]

/-! ### statements in a row -/
theorem seq_nx {f g : SF} {e e1 : DE} (h : f e = some (.nx e1)) : S.seq f g e = g e1 := by
  unfold S.seq
  rw [h]
  rfl
theorem seq_rt {f g : SF} {e e1 : DE} {r : R} (h : f e = some (.rt r e1)) : S.seq f g e = some (.rt r e1) := by
  unfold S.seq
  rw [h]
  rfl
theorem ite_t {t : TF} {f g : SF} {e e1 : DE} (h : t e = some (true, e1)) : S.ite t f g e = f e1 := by
  unfold S.ite
  rw [h]
  rfl
theorem ite_f {t : TF} {f g : SF} {e e1 : DE} (h : t e = some (false, e1)) : S.ite t f g e = g e1 := by
  unfold S.ite
  rw [h]
  rfl

/-! ### loops -/
def turnS (g : GF) (body : SF) (ks : List Nat) (d : D) (e : DE) : Option Out := (g d e).bind fun e1 => (body e1).bind fun o => match o with
  | .nx e2 => some (.nx (kill e2 ks))
  | .ct e2 => some (.nx (kill e2 ks))
  | .bk e2 => some (.bk (kill e2 ks))
  | .rt r e2 => some (.rt r e2)
theorem loop_cons (g : GF) (body : SF) (ks : List Nat) (d : D) (ds : List D) (e : DE) : S.loop g body ks (d :: ds) e = (turnS g body ks d e).bind fun o => match o with
    | .nx e2 => S.loop g body ks ds e2
    | .ct e2 => S.loop g body ks ds e2
    | .bk e2 => some (.nx e2)
    | .rt r e2 => some (.rt r e2) := by
  show (g d e).bind _ = _
  unfold turnS
  cases g d e with
  | none => rfl
  | some e1 =>
    show (body e1).bind _ = _
    cases h : body e1 with
    | none =>
      show none = ((body e1).bind _).bind _
      rw [h]
      rfl
    | some o =>
      show _ = ((body e1).bind _).bind _
      rw [h]
      cases o <;> rfl
/-- a state is kept up, or the loop is left with an answer -/
theorem loop_rel {α : Type} {g : GF} {body : SF} {ks : List Nat} {enc : α → D} {Inv : DE → Prop} {Ans : R → DE → Prop} : ∀ {xs : List α} {e : DE},
    (∀ x ∈ xs, ∀ e, Inv e → ∃ o, turnS g body ks (enc x) e = some o ∧ ((∃ e', o = .nx e' ∧ Inv e') ∨ ∃ r e', o = .rt r e' ∧ Ans r e')) → Inv e →
    ∃ o, S.loop g body ks (xs.map enc) e = some o ∧ ((∃ e', o = .nx e' ∧ Inv e') ∨ ∃ r e', o = .rt r e' ∧ Ans r e')
  | [], e, _, hi => ⟨_, rfl, .inl ⟨e, rfl, hi⟩⟩
  | x :: xs, e, h, hi => by
    obtain ⟨o, h1, h2⟩ := h x List.mem_cons_self e hi
    rw [List.map_cons, loop_cons, h1]
    rcases h2 with ⟨e', rfl, h2⟩ | ⟨r, e', rfl, h2⟩
    · exact loop_rel (fun y hy => h y (List.mem_cons_of_mem _ hy)) h2
    · exact ⟨_, rfl, .inr ⟨r, e', rfl, h2⟩⟩
/-- nothing but turns that go on -/
theorem loop_inv {α : Type} {g : GF} {body : SF} {ks : List Nat} {enc : α → D} {Inv : DE → Prop} {xs : List α} {e : DE}
    (h : ∀ x ∈ xs, ∀ e, Inv e → ∃ e', turnS g body ks (enc x) e = some (.nx e') ∧ Inv e') (hi : Inv e) : ∃ e', S.loop g body ks (xs.map enc) e = some (.nx e') ∧ Inv e' := by
  obtain ⟨o, h1, h2⟩ := loop_rel (g := g) (body := body) (ks := ks) (enc := enc) (Inv := Inv) (Ans := fun _ _ => False) (xs := xs) (e := e) (fun x hx e hi => by
    obtain ⟨e', q1, q2⟩ := h x hx e hi
    exact ⟨_, q1, .inl ⟨e', rfl, q2⟩⟩) hi
  rcases h2 with ⟨e', rfl, h2⟩ | ⟨_, _, _, h2⟩
  · exact ⟨e', h1, h2⟩
  · exact h2.elim
theorem loop_fold {α β : Type} {g : GF} {body : SF} {ks : List Nat} {enc : α → D} (st : β → DE) (F : β → α → β) : ∀ {xs : List α} {b : β},
    (∀ x ∈ xs, ∀ b, turnS g body ks (enc x) (st b) = some (.nx (st (F b x)))) → S.loop g body ks (xs.map enc) (st b) = some (.nx (st (xs.foldl F b)))
  | [], b, _ => rfl
  | x :: xs, b, h => by
    rw [List.map_cons, loop_cons, h x List.mem_cons_self b, List.foldl_cons]
    exact loop_fold st F fun y hy => h y (List.mem_cons_of_mem _ hy)
/-- the first that is found is answered -/
def fndO {α : Type} (ans : α → R) (at_ : α → DE) (e : DE) : Option α → Out
  | some x => .rt (ans x) (at_ x)
  | none => .nx e
theorem loop_find {α : Type} {g : GF} {body : SF} {ks : List Nat} {enc : α → D} {e : DE} (c : α → Bool) (ans : α → R) (at_ : α → DE) : ∀ {xs : List α},
    (∀ x ∈ xs, turnS g body ks (enc x) e = some (if c x then .rt (ans x) (at_ x) else .nx e)) → S.loop g body ks (xs.map enc) e = some (fndO ans at_ e (xs.find? c))
  | [], _ => rfl
  | x :: xs, h => by
    rw [List.map_cons, loop_cons, h x List.mem_cons_self, List.find?_cons]
    cases hc : c x with
    | true => rfl
    | false => exact loop_find c ans at_ fun y hy => h y (List.mem_cons_of_mem _ hy)

/-! ### comprehensions -/
def turnL (g : GF) (t : TF) (f : EF) (is : List Nat) (d : D) (e : DE) : Option (Option D × DE) := (g d e).bind fun e1 => (t e1).bind fun p => if p.1 then (f p.2).bind fun q => (fz q.2 q.1).bind fun r => if freeE r.2 is = true then some (some r.1, wipeE r.2 is) else none
    else if freeE p.2 is = true then some (none, wipeE p.2 is) else none
theorem lcl_cons (g : GF) (t : TF) (f : EF) (is : List Nat) (d : D) (ds : List D) (e : DE) : E.lcLoop g t f is (d :: ds) e = (turnL g t f is d e).bind fun p => match p.1 with
    | some y => (E.lcLoop g t f is ds p.2).map fun z => (y :: z.1, z.2)
    | none => E.lcLoop g t f is ds p.2 := by
  show (g d e).bind _ = _
  unfold turnL
  cases g d e with
  | none => rfl
  | some e1 =>
    show (t e1).bind _ = ((t e1).bind _).bind _
    cases t e1 with
    | none => rfl
    | some p =>
      obtain ⟨b, e2⟩ := p
      cases b with
      | true =>
        show (f e2).bind _ = ((f e2).bind _).bind _
        cases f e2 with
        | none => rfl
        | some q =>
          show (fz q.2 q.1).bind _ = ((fz q.2 q.1).bind _).bind _
          cases fz q.2 q.1 with
          | none => rfl
          | some r =>
            show (if freeE r.2 is = true then _ else _) = (if freeE r.2 is = true then _ else _ : Option _).bind _
            by_cases c : freeE r.2 is = true
            · rw [if_pos c, if_pos c]
              rfl
            · rw [if_neg c, if_neg c]
              rfl
      | false =>
        show (if freeE e2 is = true then _ else _) = (if freeE e2 is = true then _ else _ : Option _).bind _
        by_cases c : freeE e2 is = true
        · rw [if_pos c, if_pos c]
          rfl
        · rw [if_neg c, if_neg c]
          rfl
theorem lcl_map {α : Type} {g : GF} {t : TF} {f : EF} {is : List Nat} {enc : α → D} {e : DE} (h : α → D) : ∀ {xs : List α}, (∀ x ∈ xs, turnL g t f is (enc x) e = some (some (h x), e)) → E.lcLoop g t f is (xs.map enc) e = some (xs.map h, e)
  | [], _ => rfl
  | x :: xs, q => by
    rw [List.map_cons, lcl_cons, q x List.mem_cons_self, Option.bind_some]
    dsimp only
    rw [lcl_map h fun y hy => q y (List.mem_cons_of_mem _ hy)]
    rfl
theorem lcl_filter {α : Type} {g : GF} {t : TF} {f : EF} {is : List Nat} {enc : α → D} {e : DE} (c : α → Bool) (h : α → D) : ∀ {xs : List α}, (∀ x ∈ xs, turnL g t f is (enc x) e = some (if c x then some (h x) else none, e)) →
    E.lcLoop g t f is (xs.map enc) e = some ((xs.filter c).map h, e)
  | [], _ => rfl
  | x :: xs, q => by
    rw [List.map_cons, lcl_cons, q x List.mem_cons_self, Option.bind_some]
    dsimp only
    rw [lcl_filter c h fun y hy => q y (List.mem_cons_of_mem _ hy)]
    cases hc : c x with
    | true =>
      rw [List.filter_cons_of_pos hc]
      rfl
    | false =>
      rw [List.filter_cons_of_neg (by rw [hc]; decide)]
      rfl
theorem lcl_rel {α β : Type} {g : GF} {t : TF} {f : EF} {is : List Nat} {enc : α → D} {dec : β → D} {Inv : DE → Prop} {Ok : β → Prop} : ∀ {xs : List α} {e : DE},
    (∀ x ∈ xs, ∀ e, Inv e → ∃ y e', turnL g t f is (enc x) e = some (some (dec y), e') ∧ Inv e' ∧ Ok y) → Inv e →
    ∃ (ys : List β) (e' : DE), E.lcLoop g t f is (xs.map enc) e = some (ys.map dec, e') ∧ Inv e' ∧ ys.length = xs.length ∧ ∀ y ∈ ys, Ok y
  | [], e, _, hi => ⟨[], e, rfl, hi, rfl, fun y hy => by cases hy⟩
  | x :: xs, e, q, hi => by
    obtain ⟨y, e1, h1, h2, h3⟩ := q x List.mem_cons_self e hi
    obtain ⟨ys, e2, g1, g2, g3, g4⟩ := lcl_rel (xs := xs) (fun y hy => q y (List.mem_cons_of_mem _ hy)) h2
    refine ⟨y :: ys, e2, ?_, g2, by rw [List.length_cons, List.length_cons, g3], fun z hz => ?_⟩
    · rw [List.map_cons, lcl_cons, h1, Option.bind_some]
      dsimp only
      rw [g1]
      rfl
    · rcases List.mem_cons.mp hz with rfl | hz
      · exact h3
      · exact g4 z hz
theorem lc_of {is : List Nat} {it : IF} {g : GF} {t : TF} {f : EF} {e e1 e2 : DE} {ds ys : List D} (h1 : it e = some (ds, e1)) (h2 : ds.length ≤ 1000000) (h3 : freeE e1 is = true) (h4 : E.lcLoop g t f is ds (wipeE e1 is) = some (ys, e2)) :
    E.lc is it g t f e = some (.f (.lst ys), giveE e1 e2 is) := by
  unfold E.lc
  rw [h1, Option.bind_some]
  dsimp only
  rw [if_pos ⟨h2, h3⟩, h4]
  rfl
theorem for_of {it : IF} {g : GF} {ks : List Nat} {body : SF} {e e1 : DE} {ds : List D} (h1 : it e = some (ds, e1)) : S.for_ it g ks body e = S.loop g body ks ds e1 := by
  unfold S.for_
  rw [h1]
  rfl

/-! ### plain data -/
@[reducible] def DL (xs : List Int) : D := .lst (xs.map D.int)
@[reducible] def DLL (xs : List (List Int)) : D := .lst (xs.map DL)
theorem toPyL_map {α : Type} {f : α → D} {p : α → PyData} (h : ∀ x, toPy (f x) = some (p x)) : ∀ xs : List α, toPyL (xs.map f) = some (xs.map p)
  | [] => rfl
  | x :: xs => by
    rw [List.map_cons, toPyL, h x, Option.bind_some, toPyL_map h xs]
    rfl
theorem toPyL_ints (xs : List Int) : toPyL (xs.map D.int) = some (xs.map PyData.int) := toPyL_map (fun _ => rfl) xs
def PL (xs : List Int) : PyData := .list (xs.map .int)
theorem toPy_DL (xs : List Int) : toPy (DL xs) = some (PL xs) := by
  show (toPyL (xs.map D.int)).map PyData.list = _
  rw [toPyL_ints]
  rfl
theorem toPyL_DLL (xs : List (List Int)) : toPyL (xs.map DL) = some (xs.map PL) := toPyL_map toPy_DL xs
theorem toPy_DLL (xs : List (List Int)) : toPy (DLL xs) = some (.list (xs.map PL)) := by
  show (toPyL (xs.map DL)).map PyData.list = _
  rw [toPyL_DLL]
  rfl
theorem canLay_map {α : Type} {p : α → PyData} (h : ∀ x, (p x).canLay0 = true) : ∀ xs : List α, PyData.canLayAll0 (xs.map p) = true
  | [] => by rw [List.map_nil, PyData.canLayAll0]
  | x :: xs => by rw [List.map_cons, PyData.canLayAll0, h x, canLay_map h xs, Bool.and_self]
theorem eqvAll_map {α : Type} [DecidableEq α] {p : α → PyData} (h : ∀ x y, PyData.eqv (p x) (p y) = decide (x = y)) : ∀ xs ys : List α, PyData.eqvAll (xs.map p) (ys.map p) = decide (xs = ys)
  | [], [] => by simp [PyData.eqvAll]
  | [], y :: ys => by simp [PyData.eqvAll]
  | x :: xs, [] => by simp [PyData.eqvAll]
  | x :: xs, y :: ys => by
    rw [List.map_cons, List.map_cons, PyData.eqvAll, h x y, eqvAll_map h xs ys]
    simp only [List.cons.injEq, Bool.decide_and]
theorem eqv_int (a b : Int) : PyData.eqv (.int a) (.int b) = decide (a = b) := by
  rw [PyData.eqv]
  by_cases c : a = b
  · rw [decide_eq_true c, c]
    exact beq_self_eq_true b
  · rw [decide_eq_false c]
    exact beq_eq_false_iff_ne.mpr c
theorem eqv_PL (xs ys : List Int) : PyData.eqv (PL xs) (PL ys) = decide (xs = ys) := by
  unfold PL
  rw [PyData.eqv]
  exact eqvAll_map eqv_int xs ys
theorem eqv_PLL (xs ys : List (List Int)) : PyData.eqv (.list (xs.map PL)) (.list (ys.map PL)) = decide (xs = ys) := by
  rw [PyData.eqv]
  exact eqvAll_map eqv_PL xs ys
theorem depthAll_map {α : Type} {p : α → PyData} {n : Nat} (h : ∀ x, (p x).depth ≤ n) : ∀ xs : List α, PyData.depthAll (xs.map p) ≤ n
  | [] => by rw [List.map_nil, PyData.depthAll]; exact Nat.zero_le _
  | x :: xs => by
    rw [List.map_cons, PyData.depthAll]
    exact Nat.max_le.mpr ⟨h x, depthAll_map h xs⟩
theorem depth_int (x : Int) : (PyData.int x).depth ≤ 1 := by simp [PyData.depth]
theorem depth_PL (xs : List Int) : (PL xs).depth ≤ 2 := by
  unfold PL
  rw [PyData.depth]
  have := depthAll_map depth_int xs
  omega
theorem depth_PT (xs : List Int) : (PyData.tuple (xs.map .int)).depth ≤ 2 := by
  rw [PyData.depth]
  have := depthAll_map depth_int xs
  omega
theorem depth_PLL (xs : List (List Int)) : (PyData.list (xs.map PL)).depth ≤ 3 := by
  rw [PyData.depth]
  have := depthAll_map depth_PL xs
  omega
theorem shaped_of {d : PyData} (h1 : d.canLay0 = true) (h2 : d.depth ≤ 64) : SeqAt.shaped d = true := by
  unfold SeqAt.shaped
  rw [h1, decide_eq_true h2]
  rfl
theorem canLay_int (x : Int) : (PyData.int x).canLay0 = true := by rw [PyData.canLay0]
theorem canLay_PL (xs : List Int) : (PL xs).canLay0 = true := by
  unfold PL
  rw [PyData.canLay0]
  exact canLay_map canLay_int xs
theorem canLay_PLL (xs : List (List Int)) : (PyData.list (xs.map PL)).canLay0 = true := by
  rw [PyData.canLay0]
  exact canLay_map canLay_PL xs
theorem shaped_int (x : Int) : SeqAt.shaped (.int x) = true := shaped_of (canLay_int x) (Nat.le_trans (depth_int x) (by decide))
theorem shaped_PL (xs : List Int) : SeqAt.shaped (PL xs) = true := shaped_of (canLay_PL xs) (Nat.le_trans (depth_PL xs) (by decide))
theorem shaped_PLL (xs : List (List Int)) : SeqAt.shaped (.list (xs.map PL)) = true := shaped_of (canLay_PLL xs) (Nat.le_trans (depth_PLL xs) (by decide))
theorem eqD_of {x y : D} {p q : PyData} {b : Bool} (h1 : toPy x = some p) (h2 : toPy y = some q) (s1 : SeqAt.shaped p = true) (s2 : SeqAt.shaped q = true) (h : PyData.eqv p q = b) : eqD x y = some b := by
  unfold eqD
  rw [h1, h2, Option.bind_some, Option.bind_some, s1, s2, Bool.and_self, if_pos rfl, h]
theorem eqD_int (a b : Int) : eqD (.int a) (.int b) = some (decide (a = b)) := eqD_of rfl rfl (shaped_int a) (shaped_int b) (eqv_int a b)
theorem eqD_DL (xs ys : List Int) : eqD (DL xs) (DL ys) = some (decide (xs = ys)) := eqD_of (toPy_DL xs) (toPy_DL ys) (shaped_PL xs) (shaped_PL ys) (eqv_PL xs ys)
theorem eqD_DLL (xs ys : List (List Int)) : eqD (DLL xs) (DLL ys) = some (decide (xs = ys)) := eqD_of (toPy_DLL xs) (toPy_DLL ys) (shaped_PLL xs) (shaped_PLL ys) (eqv_PLL xs ys)
theorem any_map {α : Type} [DecidableEq α] {p : α → PyData} (h : ∀ x y, PyData.eqv (p x) (p y) = decide (x = y)) (y : α) : ∀ xs : List α, ((xs.map p).any fun z => PyData.eqv z (p y)) = decide (y ∈ xs)
  | [] => by simp
  | x :: xs => by
    rw [List.map_cons, List.any_cons, h x y, any_map h y xs]
    simp only [List.mem_cons, Bool.decide_or, eq_comm]
theorem inD_int (a : Int) (xs : List Int) : inD (.int a) (DL xs) = some (decide (a ∈ xs)) := by
  show (toPy (.int a)).bind (fun p => (toPyL (xs.map D.int)).bind fun ps => if SeqAt.shaped p && SeqAt.shaped (.list ps) then some (ps.any fun z => PyData.eqv z p) else none) = _
  rw [toPyL_ints, show toPy (.int a) = some (.int a) from rfl, Option.bind_some, Option.bind_some, shaped_int, show SeqAt.shaped (.list (xs.map PyData.int)) = true from shaped_PL xs, Bool.and_self, if_pos rfl, any_map eqv_int]
theorem inD_DL (a : List Int) (xs : List (List Int)) : inD (DL a) (DLL xs) = some (decide (a ∈ xs)) := by
  show (toPy (DL a)).bind (fun p => (toPyL (xs.map DL)).bind fun ps => if SeqAt.shaped p && SeqAt.shaped (.list ps) then some (ps.any fun z => PyData.eqv z p) else none) = _
  rw [toPyL_DLL, toPy_DL, Option.bind_some, Option.bind_some, shaped_PL, shaped_PLL, Bool.and_self, if_pos rfl, any_map eqv_PL]
  exact congrArg some (decide_eq_decide.mpr Iff.rfl)

/-! ### lists of numbers in order -/
def lexI : List Int → List Int → Bool
  | [], [] => false
  | [], _ :: _ => true
  | _ :: _, [] => false
  | x :: xs, y :: ys => decide (x < y) || (!decide (y < x) && lexI xs ys)
theorem lexI_irr : ∀ xs, lexI xs xs = false
  | [] => rfl
  | x :: xs => by simp [lexI, lexI_irr xs]
theorem lexI_asym : ∀ xs ys, lexI xs ys = true → lexI ys xs = false
  | [], [], h => by simp [lexI] at h
  | [], _ :: _, _ => rfl
  | _ :: _, [], h => by simp [lexI] at h
  | x :: xs, y :: ys, h => by
    simp only [lexI, Bool.or_eq_true, Bool.and_eq_true, Bool.not_eq_true', decide_eq_true_eq, decide_eq_false_iff_not, Bool.or_eq_false_iff, Bool.and_eq_false_imp] at h ⊢
    rcases h with h | ⟨h1, h2⟩
    · exact ⟨by omega, fun h3 => absurd h h3⟩
    · exact ⟨h1, fun _ => lexI_asym xs ys h2⟩
theorem lexI_tri : ∀ xs ys, lexI xs ys = false → lexI ys xs = false → xs = ys
  | [], [], _, _ => rfl
  | [], _ :: _, h, _ => by simp [lexI] at h
  | _ :: _, [], _, h => by simp [lexI] at h
  | x :: xs, y :: ys, h1, h2 => by
    simp only [lexI, Bool.or_eq_true, Bool.and_eq_true, Bool.not_eq_true', decide_eq_true_eq, decide_eq_false_iff_not, Bool.or_eq_false_iff, Bool.and_eq_false_imp] at h1 h2
    have e : x = y := by omega
    rw [e, lexI_tri xs ys (h1.2 (by omega)) (h2.2 (by omega))]
theorem lexI_trans : ∀ xs ys zs, lexI xs ys = true → lexI ys zs = true → lexI xs zs = true
  | [], [], _, h, _ => by simp [lexI] at h
  | [], _ :: _, [], _, h => by simp [lexI] at h
  | [], _ :: _, _ :: _, _, _ => rfl
  | _ :: _, [], _, h, _ => by simp [lexI] at h
  | _ :: _, _ :: _, [], _, h => by simp [lexI] at h
  | x :: xs, y :: ys, z :: zs, h1, h2 => by
    simp only [lexI, Bool.or_eq_true, Bool.and_eq_true, Bool.not_eq_true', decide_eq_true_eq, decide_eq_false_iff_not] at h1 h2 ⊢
    rcases h1 with h1 | ⟨h1, h3⟩ <;> rcases h2 with h2 | ⟨h2, h4⟩
    · exact .inl (by omega)
    · exact .inl (by omega)
    · exact .inl (by omega)
    · by_cases c : x < z
      · exact .inl c
      · exact .inr ⟨by omega, lexI_trans xs ys zs h3 h4⟩
/-- x is not above y -/
def leI (x y : List Int) : Bool := !lexI y x
theorem leI_total (x y : List Int) : leI x y = true ∨ leI y x = true := by
  unfold leI
  cases h : lexI y x with
  | false => exact .inl rfl
  | true => exact .inr (by rw [lexI_asym _ _ h]; rfl)
theorem leI_trans (x y z : List Int) (h1 : leI x y = true) (h2 : leI y z = true) : leI x z = true := by
  unfold leI at *
  rw [Bool.not_eq_true'] at *
  cases h : lexI z x with
  | false => rfl
  | true =>
    cases h3 : lexI x y with
    | true => rw [lexI_trans _ _ _ h h3] at h2; cases h2
    | false => rw [lexI_tri _ _ h3 h1, h2] at h; cases h
theorem leI_anti {x y : List Int} (h1 : leI x y = true) (h2 : leI y x = true) : x = y := by
  unfold leI at *
  rw [Bool.not_eq_true'] at *
  exact lexI_tri _ _ h2 h1
theorem toks_lex : ∀ xs ys : List Int, PyProof.Rows.lexLt PyProof.Rows.itemOrd (PySem.W.keyToksAll (xs.map .int)) (PySem.W.keyToksAll (ys.map .int)) = lexI xs ys
  | [], [] => by
    simp only [List.map_nil, PySem.W.keyToksAll]
    exact PyProof.Rows.lex_irrefl _
  | [], y :: ys => by
    simp only [List.map_nil, List.map_cons, PySem.W.keyToksAll]
    rw [PyProof.Rows.lex_cons]
    rfl
  | x :: xs, [] => by
    simp only [List.map_nil, List.map_cons, PySem.W.keyToksAll]
    rw [PyProof.Rows.lex_cons]
    rfl
  | x :: xs, y :: ys => by
    simp only [List.map_cons, PySem.W.keyToksAll, PySem.W.keyToks, List.cons_append, List.nil_append]
    rw [PyProof.Rows.lex_self, PyProof.Rows.lex_cons, toks_lex xs ys]
    rfl
theorem dataLt_PL (xs ys : List Int) : PySem.W.dataLt (PL xs) (PL ys) = lexI xs ys := by
  unfold PL
  rw [PySem.W.dataLt_list]
  exact toks_lex xs ys
theorem dataLt_PT (xs ys : List Int) : PySem.W.dataLt (.tuple (xs.map .int)) (.tuple (ys.map .int)) = lexI xs ys := by
  rw [PySem.W.dataLt_tuple]
  exact toks_lex xs ys
theorem seq_assoc {f g h : SF} (e : DE) : S.seq (S.seq f g) h e = S.seq f (S.seq g h) e := by
  unfold S.seq
  cases f e with
  | none => rfl
  | some o =>
    cases o with
    | nx e1 => rfl
    | rt r e1 => rfl
    | bk e1 => rfl
    | ct e1 => rfl
theorem mulOk_l {a b : Int} (h : -(2 ^ 64) < a ∧ a < 2 ^ 64) : mulOk a b = true := by
  unfold mulOk
  rw [decide_eq_true h]
  rfl
theorem mulOk_r {a b : Int} (h : -(2 ^ 64) < b ∧ b < 2 ^ 64) : mulOk a b = true := by
  unfold mulOk
  rw [decide_eq_true h, Bool.or_true]
  rfl
theorem log2_le {a : Nat} (h : a < 2 ^ 4096) : a.log2 ≤ 4096 := by
  by_cases c : a = 0
  · rw [c]
    decide
  · exact Nat.le_of_lt ((Nat.log2_lt c).mpr h)
theorem mulOk_n {a b : Int} (ha : a.natAbs < 2 ^ 4096) (hb : b.natAbs < 2 ^ 4096) : mulOk a b = true := by
  have h1 := log2_le ha
  have h2 := log2_le hb
  unfold mulOk
  rw [decide_eq_true (p := a.natAbs.log2 + b.natAbs.log2 < 1000000) (by omega), Bool.or_true]
/-! ### items -/
theorem ixN_in {n : Nat} {i : Int} (h1 : 0 ≤ i) (h2 : i < n) : ixN n i = some i.toNat := by
  unfold ixN
  rw [if_pos h1, if_pos h2]
theorem ixN_back {n : Nat} {i : Int} (h1 : i < 0) (h2 : -(n : Int) ≤ i) : ixN n i = some (i + n).toNat := by
  unfold ixN
  rw [if_neg (by omega), if_pos h2]
theorem atI_in {α : Type} {xs : List α} {i : Int} (h1 : 0 ≤ i) (h2 : i < xs.length) : ∃ x, atI xs i = some x := by
  unfold atI
  rw [ixN_in h1 h2, Option.bind_some]
  exact ⟨_, List.getElem?_eq_getElem (by omega)⟩
theorem atI_nat {α : Type} (xs : List α) (k : Nat) : atI xs (k : Int) = xs[k]? := by
  unfold atI
  by_cases h : k < xs.length
  · rw [ixN_in (by omega) (by omega), Option.bind_some]
    rfl
  · unfold ixN
    rw [if_pos (by omega), if_neg (by omega), List.getElem?_eq_none (by omega)]
    rfl
theorem atI_map {α β : Type} (f : α → β) (xs : List α) (i : Int) : atI (xs.map f) i = (atI xs i).map f := by
  unfold atI
  rw [List.length_map]
  cases ixN xs.length i with
  | none => rfl
  | some j =>
    rw [Option.bind_some, Option.bind_some, List.getElem?_map]
theorem atI_0 {α : Type} (x : α) (xs : List α) : atI (x :: xs) 0 = some x := atI_nat (x :: xs) 0
theorem atI_1 {α : Type} (x y : α) (xs : List α) : atI (x :: y :: xs) 1 = some y := atI_nat (x :: y :: xs) 1
theorem atI_2 {α : Type} (x y z : α) (xs : List α) : atI (x :: y :: z :: xs) 2 = some z := atI_nat (x :: y :: z :: xs) 2
theorem atI_3 {α : Type} (x y z u : α) (xs : List α) : atI (x :: y :: z :: u :: xs) 3 = some u := atI_nat (x :: y :: z :: u :: xs) 3
theorem ixN4_1 : ixN 4 1 = some 1 := by decide
theorem ixN4_2 : ixN 4 2 = some 2 := by decide
theorem ixN4_3 : ixN 4 3 = some 3 := by decide
/-! ### plain data of some depth -/
inductive Pl : Nat → D → Prop
  | non {n : Nat} : Pl (n + 1) .non
  | bl {n : Nat} (b : Bool) : Pl (n + 1) (.bl b)
  | int {n : Nat} (i : Int) : Pl (n + 1) (.int i)
  | str {n : Nat} (s : Str) (h : SeqAt.shaped (.str s) = true) : Pl (n + 1) (.str s)
  | lst {n : Nat} (ds : List D) (h : ∀ d ∈ ds, Pl n d) (hl : ds.length ≤ 1000000) : Pl (n + 1) (.lst ds)
  | tup {n : Nat} (ds : List D) (h : ∀ d ∈ ds, Pl n d) (hl : ds.length ≤ 1000000) : Pl (n + 1) (.tup ds)
theorem eqD_str {a b : Str} (ha : SeqAt.shaped (.str a) = true) (hb : SeqAt.shaped (.str b) = true) [Decidable (a = b)] : eqD (.str a) (.str b) = some (decide (a = b)) := eqD_of rfl rfl ha hb (by
  rw [PyData.eqv]
  by_cases c : a = b
  · rw [decide_eq_true c, c]
    exact beq_self_eq_true b
  · rw [decide_eq_false c]
    exact beq_eq_false_iff_ne.mpr c)
theorem list_ext_find {α : Type} {xs ys : List α} (hl : xs.length = ys.length) (p : Nat → Bool) (hp : ∀ k (h1 : k < xs.length) (h2 : k < ys.length), p k = true ↔ xs[k] ≠ ys[k]) : ((List.range ys.length).find? p = none ↔ xs = ys) := by
  rw [List.find?_eq_none]
  constructor
  · intro h
    refine List.ext_getElem hl fun k h1 h2 => ?_
    have q := h k (List.mem_range.mpr h2)
    by_cases c : xs[k] = ys[k]
    · exact c
    · exact absurd ((hp k h1 h2).mpr c) q
  · intro h k hk q
    have hk' := List.mem_range.mp hk
    refine (hp k (by rw [hl]; exact hk') hk').mp q ?_
    subst h
    rfl
theorem atI_at {α : Type} {xs : List α} {k : Nat} (h : k < xs.length) : atI xs (k : Int) = some xs[k] := by
  rw [atI_nat, List.getElem?_eq_getElem h]
theorem eqD_bl (a b : Bool) : eqD (.bl a) (.bl b) = some (a == b) := eqD_of rfl rfl (by cases a <;> decide) (by cases b <;> decide) (by rw [PyData.eqv])
theorem rng1_of {f : EF} {e e1 : DE} {r : R} {j : Int} (h : f e = some (r, e1)) (h2 : rd e1 r = some (.int j)) (h3 : j ≤ 1000000) (h4 : -1000000 ≤ j) : I.rng1 f e = some ((List.range j.toNat).map fun i : Nat => D.int (i : Int), e1) := by
  unfold I.rng1
  rw [h, Option.bind_some]
  dsimp only
  rw [h2]
  dsimp only
  rw [if_pos ⟨by omega, by omega⟩]
  unfold I.rngD
  simp only [Int.zero_add]
theorem rng1_nat {f : EF} {e e1 : DE} {r : R} {n : Nat} (h : f e = some (r, e1)) (h2 : rd e1 r = some (.int (n : Int))) (h3 : n ≤ 1000000) : I.rng1 f e = some ((List.range n).map fun i : Nat => D.int (i : Int), e1) :=
  rng1_of h h2 (by omega) (by omega)
theorem rng2_of {f g : EF} {e e1 e2 : DE} {r q : R} {i j : Int} (h : f e = some (r, e1)) (h' : g e1 = some (q, e2)) (h2 : rd e2 r = some (.int i)) (h2' : rd e2 q = some (.int j)) (h3 : j ≤ 1000000) (h4 : -1000000 ≤ j) (h5 : i ≤ 1000000) (h6 : -1000000 ≤ i) :
    I.rng2 f g e = some ((List.range (j - i).toNat).map fun k : Nat => D.int (i + (k : Int)), e2) := by
  unfold I.rng2
  rw [h, Option.bind_some]
  dsimp only
  rw [h', Option.bind_some]
  dsimp only
  rw [h2, h2']
  dsimp only
  rw [if_pos ⟨by omega, by omega, by omega, by omega⟩]
  rfl
theorem lc_map {α : Type} {enc : α → D} {is : List Nat} {it : IF} {g : GF} {t : TF} {f : EF} {e e1 e2 e3 : DE} {xs : List α} (h : α → D) (h1 : it e = some (xs.map enc, e1)) (hz : xs.length ≤ 1000000) (h3 : freeE e1 is = true) (hw : wipeE e1 is = e2) (hg : giveE e1 e2 is = e3)
    (q : ∀ x ∈ xs, turnL g t f is (enc x) e2 = some (some (h x), e2)) : E.lc is it g t f e = some (.f (.lst (xs.map h)), e3) := by
  subst hw
  rw [lc_of h1 (by rw [List.length_map]; exact hz) h3 (lcl_map h q), hg]
theorem lc_filter {α : Type} {enc : α → D} {is : List Nat} {it : IF} {g : GF} {t : TF} {f : EF} {e e1 e2 e3 : DE} {xs : List α} (c : α → Bool) (h : α → D) (h1 : it e = some (xs.map enc, e1)) (hz : xs.length ≤ 1000000) (h3 : freeE e1 is = true) (hw : wipeE e1 is = e2) (hg : giveE e1 e2 is = e3)
    (q : ∀ x ∈ xs, turnL g t f is (enc x) e2 = some (if c x then some (h x) else none, e2)) : E.lc is it g t f e = some (.f (.lst ((xs.filter c).map h)), e3) := by
  subst hw
  rw [lc_of h1 (by rw [List.length_map]; exact hz) h3 (lcl_filter c h q), hg]
theorem lc_rel {α β : Type} {enc : α → D} {dec : β → D} {is : List Nat} {it : IF} {g : GF} {t : TF} {f : EF} {e e1 : DE} {xs : List α} {Inv : DE → Prop} {Ok : β → Prop} (h1 : it e = some (xs.map enc, e1)) (hz : xs.length ≤ 1000000) (h3 : freeE e1 is = true) (hi : Inv (wipeE e1 is))
    (q : ∀ x ∈ xs, ∀ e, Inv e → ∃ y e', turnL g t f is (enc x) e = some (some (dec y), e') ∧ Inv e' ∧ Ok y) : ∃ (ys : List β) (e2 : DE), E.lc is it g t f e = some (.f (.lst (ys.map dec)), giveE e1 e2 is) ∧ Inv e2 ∧ ys.length = xs.length ∧ ∀ y ∈ ys, Ok y := by
  obtain ⟨ys, e2, g1, g2, g3, g4⟩ := lcl_rel q hi
  exact ⟨ys, e2, lc_of h1 (by rw [List.length_map]; exact hz) h3 g1, g2, g3, g4⟩
theorem done_seq_rt {m n : Nat} {r r' : R} {f : SF} {e e1 : DE} (h : f e = some (.rt r e1)) (hl : e1.length = n) (hr : retOf e1 r = some r') : done m n (f e) = some (r', (e1.take m).map keepIo) := by
  rw [h]
  exact done_rt hl hr
theorem ret_of {f : EF} {e e1 : DE} {r : R} (h : f e = some (r, e1)) : S.ret f e = some (.rt r e1) := by
  unfold S.ret
  rw [h]
  rfl
theorem loop_foldN {α β : Type} {g : GF} {body : SF} {ks : List Nat} {enc : α → D} (st : β → DE) (F : β → α → β) (len : β → Nat) (N G : Nat) : ∀ {xs : List α} {b : β},
    (∀ x ∈ xs, ∀ b, len b + G ≤ N → turnS g body ks (enc x) (st b) = some (.nx (st (F b x)))) → (∀ x ∈ xs, ∀ b, len (F b x) ≤ len b + G) → len b + xs.length * G ≤ N → S.loop g body ks (xs.map enc) (st b) = some (.nx (st (xs.foldl F b)))
  | [], b, _, _, _ => rfl
  | x :: xs, b, h, hg, hn => by
    rw [List.length_cons, Nat.succ_mul] at hn
    rw [List.map_cons, loop_cons, h x List.mem_cons_self b (by omega), List.foldl_cons]
    have := hg x List.mem_cons_self b
    exact loop_foldN st F len N G (fun y hy => h y (List.mem_cons_of_mem _ hy)) (fun y hy => hg y (List.mem_cons_of_mem _ hy)) (by omega)

/-! ### sorted -/
theorem zip_maps {α β γ : Type} (f : α → β) (g : α → γ) : ∀ l : List α, (l.map f).zip (l.map g) = l.map fun a => (f a, g a)
  | [] => rfl
  | a :: l => by rw [List.map_cons, List.map_cons, List.map_cons, List.zip_cons_cons, zip_maps f g l]
theorem sD_map {α : Type} {f : α → D} {p : α → PyData} {le : α → α → Bool} {l : List α} (h : ∀ a ∈ l, ∀ b ∈ l, le a b = !PySem.W.dataLt (p b) (p a)) : (sD ((l.map f).zip (l.map p))).map (·.1) = (l.mergeSort le).map f := by
  unfold sD
  rw [zip_maps, ← List.map_mergeSort (f := fun a => (f a, p a)) (r := le) h, List.map_map]
  rfl
theorem alike_map {p : List Int → PyData} (h : ∀ x y, PySem.W.alike (p x) (p y) = true) (ks : List (List Int)) : ((ks.map p).all fun a => (ks.map p).all fun b => PySem.W.alike a b) = true := by
  rw [List.all_eq_true]
  intro a ha
  rw [List.all_eq_true]
  intro b hb
  obtain ⟨x, _, rfl⟩ := List.mem_map.mp ha
  obtain ⟨y, _, rfl⟩ := List.mem_map.mp hb
  exact h x y
theorem alike_ints : ∀ x y : List Int, PySem.W.alikeAll (x.map .int) (y.map .int) = true
  | [], _ => by simp [PySem.W.alikeAll]
  | _ :: _, [] => by simp [PySem.W.alikeAll]
  | a :: x, b :: y => by
    rw [List.map_cons, List.map_cons, PySem.W.alikeAll, alike_ints x y, PySem.W.alike]
    rfl
theorem okS_PL (xs : List (List Int)) : okS (xs.map PL) = true := by
  unfold okS
  rw [alike_map (fun x y => by unfold PL; rw [PySem.W.alike]; exact alike_ints x y), Bool.true_and, Bool.and_eq_true, Bool.or_eq_true]
  refine ⟨.inr ?_, ?_⟩
  · rw [List.all_eq_true]
    intro a ha
    obtain ⟨x, _, rfl⟩ := List.mem_map.mp ha
    rfl
  · rw [List.all_eq_true]
    intro a ha
    obtain ⟨x, _, rfl⟩ := List.mem_map.mp ha
    exact decide_eq_true (Nat.le_trans (depth_PL x) (by decide))
theorem okS_PT {ks : List (List Int)} (h : ∀ k ∈ ks, k ≠ []) : okS (ks.map fun k => PyData.tuple (k.map .int)) = true := by
  unfold okS
  rw [alike_map (fun x y => by rw [PySem.W.alike]; exact alike_ints x y), Bool.true_and, Bool.and_eq_true, Bool.or_eq_true]
  refine ⟨.inl ?_, ?_⟩
  · rw [List.all_eq_true]
    intro a ha
    obtain ⟨x, hx, rfl⟩ := List.mem_map.mp ha
    cases x with
    | nil => exact absurd rfl (h _ hx)
    | cons => rfl
  · rw [List.all_eq_true]
    intro a ha
    obtain ⟨x, _, rfl⟩ := List.mem_map.mp ha
    exact decide_eq_true (Nat.le_trans (depth_PT x) (by decide))
theorem sorted_DLL (xs : List (List Int)) : oSorted [DLL xs] = some (.f (DLL (xs.mergeSort leI))) := by
  show (toPyL (xs.map DL)).bind _ = _
  rw [toPyL_DLL, Option.bind_some, if_pos (okS_PL xs), sD_map (le := leI) fun a _ b _ => by rw [dataLt_PL]; rfl]
@[reducible] def DT (xs : List Int) : D := .tup (xs.map D.int)
/-- a dict of such keys -/
@[reducible] def DKs (ks : List (List Int)) : D := .dT (ks.map fun k => (k.map Sum.inl, D.bl true))
theorem keyD_ints (k : List Int) : ((k.map Sum.inl : List Key).map keyD) = k.map D.int := by
  rw [List.map_map]
  rfl
theorem keyP_ints (k : List Int) : ((k.map Sum.inl : List Key).map keyP) = k.map PyData.int := by
  rw [List.map_map]
  rfl
theorem sorted_DKs {ks : List (List Int)} (h : ∀ k ∈ ks, k ≠ []) : oSorted [DKs ks] = some (.f (.lst ((ks.mergeSort leI).map DT))) := by
  have e1 : ((ks.map fun k => ((k.map Sum.inl : List Key), D.bl true)).map fun kv => PyData.tuple (kv.1.map keyP)) = ks.map fun k => PyData.tuple (k.map .int) := by
    rw [List.map_map]
    exact List.map_congr_left fun k _ => by show PyData.tuple _ = _; rw [keyP_ints]
  have e2 : ((ks.map fun k => ((k.map Sum.inl : List Key), D.bl true)).map fun kv => D.tup (kv.1.map keyD)) = ks.map DT := by
    rw [List.map_map]
    exact List.map_congr_left fun k _ => by show D.tup _ = _; rw [keyD_ints]
  unfold oSorted DKs
  dsimp only
  rw [e1, e2, if_pos (okS_PT h), sD_map (le := leI) fun a _ b _ => by rw [dataLt_PT]; rfl]
/-- one more, where it is new -/
def addK {α : Type} [DecidableEq α] (ks : List α) (k : α) : List α := if k ∈ ks then ks else ks ++ [k]
theorem addK_len {α : Type} [DecidableEq α] (ks : List α) (k : α) : (addK ks k).length ≤ ks.length + 1 := by
  unfold addK
  split
  · omega
  · rw [List.length_append, List.length_singleton]
    exact Nat.le_refl _
theorem mem_addK {α : Type} [DecidableEq α] {ks : List α} {k x : α} : x ∈ addK ks k ↔ x ∈ ks ∨ x = k := by
  unfold addK
  split
  · rename_i h
    exact ⟨.inl, fun q => q.elim id fun e => e ▸ h⟩
  · rw [List.mem_append, List.mem_singleton]
theorem nodup_addK {α : Type} [DecidableEq α] {ks : List α} {k : α} (h : ks.Nodup) : (addK ks k).Nodup := by
  unfold addK
  split
  · exact h
  · rename_i n
    rw [List.nodup_append]
    exact ⟨h, by simp, fun a ha b hb e => n (by rw [List.mem_singleton] at hb; rw [← hb, ← e]; exact ha)⟩
theorem keysOf_ints : ∀ k : List Int, keysOf (k.map D.int) = some (k.map Sum.inl)
  | [] => rfl
  | x :: k => by
    rw [List.map_cons, keysOf, keysOf_ints k]
    rfl
theorem inl_inj {a b : List Int} (h : (a.map Sum.inl : List Key) = b.map Sum.inl) : a = b := by
  induction a generalizing b with
  | nil => cases b with
    | nil => rfl
    | cons => cases h
  | cons x a ih => cases b with
    | nil => cases h
    | cons y b =>
      injection h with h1 h2
      cases h1
      rw [ih h2]
theorem dput_DKs (ks : List (List Int)) (k : List Int) : dput (ks.map fun k => ((k.map Sum.inl : List Key), D.bl true)) (k.map Sum.inl) (D.bl true) = (addK ks k).map fun k => (k.map Sum.inl, D.bl true) := by
  unfold dput addK
  have e : ((ks.map fun k => ((k.map Sum.inl : List Key), D.bl true)).any fun kv => decide (kv.1 = k.map Sum.inl)) = decide (k ∈ ks) := by
    rw [List.any_map]
    induction ks with
    | nil => rfl
    | cons x ks ih =>
      rw [List.any_cons, ih]
      by_cases c : x = k
      · subst c
        simp
      · have c2 : ¬ ((x.map Sum.inl : List Key) = k.map Sum.inl) := fun z => c (inl_inj z)
        have c3 : ¬ k = x := fun z => c z.symm
        simp [Function.comp, c2, c3]
  rw [e]
  by_cases c : k ∈ ks
  · rw [decide_eq_true c, if_pos rfl, if_pos c, List.map_map]
    refine List.map_congr_left fun x hx => ?_
    show (if _ then _ else _) = _
    split <;> rfl
  · rw [decide_eq_false c, if_neg (by decide), if_neg c, List.map_append]
    rfl
theorem loop_findS {α β : Type} {g : GF} {body : SF} {ks : List Nat} {enc : α → D} {e : DE} (F : α → Option β) (ans : β → R) (at_ : β → DE) : ∀ {xs : List α},
    (∀ x ∈ xs, turnS g body ks (enc x) e = some (fndO ans at_ e (F x))) → S.loop g body ks (xs.map enc) e = some (fndO ans at_ e (xs.findSome? F))
  | [], _ => rfl
  | x :: xs, h => by
    rw [List.map_cons, loop_cons, h x List.mem_cons_self, List.findSome?_cons]
    cases hc : F x with
    | some y => rfl
    | none => exact loop_findS F ans at_ fun y hy => h y (List.mem_cons_of_mem _ hy)
theorem DLL_app (ks : List (List Int)) (y : List Int) : DLL (ks ++ [y]) = .lst (ks.map DL ++ [DL y]) := by
  show D.lst _ = _
  rw [List.map_append]
  rfl
theorem DL_app (ks : List Int) (y : Int) : DL (ks ++ [y]) = .lst (ks.map D.int ++ [.int y]) := by
  show D.lst _ = _
  rw [List.map_append]
  rfl
theorem bls_map : ∀ bs : List Bool, blsOf (bs.map D.bl) = some bs
  | [] => rfl
  | b :: bs => by
    rw [List.map_cons, blsOf, bls_map bs]
    rfl
theorem all_bls (bs : List Bool) : oAll [.lst (bs.map D.bl)] = some (.v (.bl (bs.all id))) := by
  show (some (bs.map D.bl)).bind (fun ds => (blsOf ds).map fun is => R.v (.bl (is.all id))) = _
  rw [Option.bind_some, bls_map]
  rfl
theorem any_bls (bs : List Bool) : oAny [.lst (bs.map D.bl)] = some (.v (.bl (bs.any id))) := by
  show (some (bs.map D.bl)).bind (fun ds => (blsOf ds).map fun is => R.v (.bl (is.any id))) = _
  rw [Option.bind_some, bls_map]
  rfl
theorem firstIx_ints (c : Int) : ∀ l : List Int, c ∈ l → firstIx (fun z => PyData.eqv z (.int c)) (l.map PyData.int) = some (l.idxOf c)
  | [], h => by cases h
  | x :: l, h => by
    rw [List.map_cons, firstIx, eqv_int, List.idxOf_cons]
    by_cases e : x = c
    · subst e
      simp
    · have h2 : c ∈ l := (List.mem_cons.mp h).elim (fun q => absurd q.symm e) id
      have h3 : (x == c) = false := beq_eq_false_iff_ne.mpr e
      rw [decide_eq_false e, if_neg (by decide), firstIx_ints c l h2, h3]
      rfl
theorem index_ints {c : Int} {l : List Int} (h : c ∈ l) : oIndex (DL l) [.int c] = some (.v (.int (l.idxOf c : Nat))) := by
  show (toPyL (l.map D.int)).bind (fun ps => (toPy (.int c)).bind fun d => if SeqAt.shaped (.list ps) && SeqAt.shaped d then (firstIx (fun z => PyData.eqv z d) ps).map fun j => R.v (.int (j : Nat)) else none) = _
  rw [toPyL_ints, show toPy (.int c) = some (.int c) from rfl, Option.bind_some, Option.bind_some, show SeqAt.shaped (.list (l.map PyData.int)) = true from shaped_PL l, shaped_int, Bool.and_self, if_pos rfl, firstIx_ints c l h]
  rfl
/-! ### slices -/
theorem cut_take {α : Type} (xs : List α) {k : Int} (h : 0 ≤ k) : cut xs none (some k) = xs.take k.toNat := by
  unfold cut HT.sIx
  simp only [List.drop_zero, Nat.sub_zero]
  rw [if_neg (by omega)]
  by_cases c : k.toNat ≤ xs.length
  · rw [Nat.min_eq_left c]
  · rw [Nat.min_eq_right (by omega), List.take_length, List.take_of_length_le (by omega)]
theorem cut_map {α β : Type} (f : α → β) (xs : List α) (lo hi : Option Int) : cut (xs.map f) lo hi = (cut xs lo hi).map f := by
  unfold cut
  rw [List.length_map, ← List.map_drop, ← List.map_take]
theorem rep_map {α β : Type} (f : α → β) (xs : List α) (n : Nat) : (List.replicate n (xs.map f)).flatten = ((List.replicate n xs).flatten).map f := by
  rw [List.map_flatten, List.map_replicate]
theorem rep_len {α : Type} (xs : List α) : ∀ n : Nat, ((List.replicate n xs).flatten).length = n * xs.length
  | 0 => by simp
  | n + 1 => by
    rw [List.replicate_succ, List.flatten_cons, List.length_append, rep_len xs n, Nat.succ_mul, Nat.add_comm]
theorem rep_mem {α : Type} {xs : List α} {n : Nat} {a : α} (h : a ∈ (List.replicate n xs).flatten) : a ∈ xs := by
  obtain ⟨l, hl, ha⟩ := List.mem_flatten.mp h
  rw [(List.mem_replicate.mp hl).2] at ha
  exact ha
end Dv

set_option Elab.async false
set_option linter.all false
set_option maxRecDepth 100000
set_option maxHeartbeats 4000000
set_option autoImplicit false
namespace K94
open PySem L2 Dv
def topS (i : Nat) : Stmt := PySem.Challenge.pw_loomwork_k94_whole_stripes_alike.main.body.getD i (.Pass ⟨0, 0, 0, 0⟩)
structure Blt (mg : Str → Option Value) : Prop where
  z_all : mg "all" = none
  z_bool : mg "bool" = none
  z_dict : mg "dict" = none
  z_int : mg "int" = none
  z_isinstance : mg "isinstance" = none
  z_len : mg "len" = none
  z_list : mg "list" = none
  z_range : mg "range" = none
  z_sorted : mg "sorted" = none
  z_str : mg "str" = none
  z_tuple : mg "tuple" = none
section
variable {P : Program} {w : World} {K : PySem.W.Frag} {mg : Str → Option Value} {base : Heap}
/-! ### begun_at -/
abbrev s_begun_at : Stmt := topS 1
abbrev n_begun_at : List Str := ["order", "place", "back", "n", "at"]
theorem sc_begun_at : FnScope n_begun_at ["order", "place", "back"] (defScope s_begun_at) := ⟨rfl, rfl, rfl, by decide +kernel, rfl, by decide +kernel, by decide +kernel⟩
def p_begun_at_3 : SF := (S.ret (E.lc [4] (I.rng1 (E.var 3)) (G.name 4) T.yes (E.bin oIx (E.var 0) (E.bin oMod (E.bin oSub (E.var 1) (E.var 4)) (E.var 3)))))
def p_begun_at_1 : SF := (S.set 3 (E.cb oLen (E.cons (E.var 0) E.nil)))
def p_begun_at_2 : SF := (S.ite (T.tru (E.var 2))
    p_begun_at_3
    S.nil)
def p_begun_at_4 : SF := (S.ret (E.lc [4] (I.rng1 (E.var 3)) (G.name 4) T.yes (E.bin oIx (E.var 0) (E.bin oMod (E.bin oAdd (E.var 1) (E.var 4)) (E.var 3)))))
def b_begun_at : SF := (S.seq p_begun_at_1
    (S.seq p_begun_at_2
    p_begun_at_4))
def c_begun_at : CF := run 3 5 b_begun_at
theorem d_begun_at {fa : Addr} {fd : FuncData} (F : Fun K "begun_at" "begun_at" s_begun_at fa fd) (gf : mg "begun_at" = some (.ref fa)) (Z : Blt mg) :
    Df P w K mg base "begun_at" ["order", "place", "back"] 1 c_begun_at := by
  have b_begun_at : Binds K fd ["order", "place", "back"] [] := F.binds fun _ _ _ _ _ _ us hl => match us, hl with | [_, _, _], _ => rfl
  refine ⟨fa, fd, def_ok F sc_begun_at rfl rfl (by decide) fun cdv A outer s H E hr => ?_, b_begun_at, F.kp, gf⟩
  exact ⟨_, (pss_cons (ps_set (i := 3) sc_begun_at.nd rfl (by first | exact Or.inl rfl | exact Or.inr rfl) (pe_callB cr_len (by rfl) Z.z_len (by decide +kernel) (pa_cons (pv 0) pa_nil)))
    (pss_cons (ps_if (pt_truth (pv 2) (by intro _; rfl))
    (pss_one (ps_ret (pe_lc (own := [("at", 4)]) (by rfl) sc_begun_at.nd (pi_range1 (by rfl) Z.z_range (pa_cons (pv 3) pa_nil)) (blkOk_by (N := n_begun_at) (sc := defScope s_begun_at) (by decide +kernel)) (fun _ _ _ _ _ => (pg_name (i := 4) sc_begun_at.nd rfl (by first | exact Or.inl rfl | exact Or.inr rfl))) (fun _ _ _ _ _ => pts_nil) (fun _ _ _ _ _ => (pe_ix (or_ix (hu1 hr)) (pv 0) (pe_op op_modN (pe_op op_sub (pv 1) (pv 4)) (pv 3)) (fun _ _ => rfl))))))
    pss_nil)
    (pss_one (ps_ret (pe_lc (own := [("at", 4)]) (by rfl) sc_begun_at.nd (pi_range1 (by rfl) Z.z_range (pa_cons (pv 3) pa_nil)) (blkOk_by (N := n_begun_at) (sc := defScope s_begun_at) (by decide +kernel)) (fun _ _ _ _ _ => (pg_name (i := 4) sc_begun_at.nd rfl (by first | exact Or.inl rfl | exact Or.inr rfl))) (fun _ _ _ _ _ => pts_nil) (fun _ _ _ _ _ => (pe_ix (or_ix (hu1 hr)) (pv 0) (pe_op op_modN (pe_op or_add (pv 1) (pv 4)) (pv 3)) (fun _ _ => rfl)))))))),
    (snds_seq (snds_set (i := 3) (snd_cb scb_len (snd_cons snd_var snd_nil)))
    (snds_seq (snds_ite (snd_tru snd_var)
    (snds_ret (snd_lc (is := [4]) (sndi_rng1 snd_var) (sndg_name (i := 4)) sndt_yes (snd_op sop_ix snd_var (snd_op sop_mod (snd_op sop_sub snd_var snd_var) snd_var)) (by decide)))
    snds_nil)
    (snds_ret (snd_lc (is := [4]) (sndi_rng1 snd_var) (sndg_name (i := 4)) sndt_yes (snd_op sop_ix snd_var (snd_op sop_mod (snd_op sop_add snd_var snd_var) snd_var)) (by decide)))))⟩
/-! ### ways_round -/
abbrev s_ways_round : Stmt := topS 2
abbrev n_ways_round : List Str := ["kind"]
theorem sc_ways_round : FnScope n_ways_round ["kind"] (defScope s_ways_round) := ⟨rfl, rfl, rfl, by decide +kernel, rfl, by decide +kernel, by decide +kernel⟩
def p_ways_round_1 : SF := (S.ret (E.ite (T.ofE (E.bin oEq (E.var 0) (E.c (.str "turned")))) (E.tup (E.cons (E.c (.bl false)) (E.cons (E.c (.bl true)) E.nil))) (E.tup (E.cons (E.c (.bl false)) E.nil))))
def b_ways_round : SF := p_ways_round_1
def c_ways_round : CF := run 1 1 b_ways_round
theorem d_ways_round {fa : Addr} {fd : FuncData} (F : Fun K "ways_round" "ways_round" s_ways_round fa fd) (gf : mg "ways_round" = some (.ref fa)) (Z : Blt mg) :
    Df P w K mg base "ways_round" ["kind"] 1 c_ways_round := by
  have b_ways_round : Binds K fd ["kind"] [] := F.binds fun _ _ _ _ _ _ us hl => match us, hl with | [_], _ => rfl
  refine ⟨fa, fd, def_ok F sc_ways_round rfl rfl (by decide) fun cdv A outer s H E hr => ?_, b_ways_round, F.kp, gf⟩
  exact ⟨_, (pss_one (ps_ret (pe_ifExp (pt_cmpR (op_eqD (hu64 hr)) (pv 0) pe_str (nomark _)) (pe_tup (pa_cons pe_bl (pa_cons pe_bl pa_nil))) (pe_tup (pa_cons pe_bl pa_nil))))),
    (snds_ret (snd_ite (snd_tT (snd_op sop_eq snd_var snd_str)) (snd_tup (snd_cons snd_bl (snd_cons snd_bl snd_nil))) (snd_tup (snd_cons snd_bl snd_nil))))⟩
/-! ### images -/
abbrev s_images : Stmt := topS 3
abbrev n_images : List Str := ["order", "kind", "found", "back", "place", "one"]
theorem sc_images : FnScope n_images ["order", "kind"] (defScope s_images) := ⟨rfl, rfl, rfl, by decide +kernel, rfl, by decide +kernel, by decide +kernel⟩
def p_images_4 : SF := (S.asg (G.sub 2 (E.cb oTuple (E.cons (E.call [false, false, false] c_begun_at (E.cons (E.var 0) (E.cons (E.var 4) (E.cons (E.var 3) E.nil)))) E.nil))) (E.c (.bl true)))
def p_images_3 : SF := (S.for_ (I.rng1 (E.cb oLen (E.cons (E.var 0) E.nil))) (G.name 4) [4]
    p_images_4)
def p_images_1 : SF := (S.own 2 E.dT)
def p_images_2 : SF := (S.for_ (I.any (E.call [false] c_ways_round (E.cons (E.var 1) E.nil))) (G.name 3) [3, 4]
    p_images_3)
def p_images_5 : SF := (S.ret (E.lc [5] (I.any (E.cb oSorted (E.cons (E.var 2) E.nil))) (G.name 5) T.yes (E.cb oList (E.cons (E.var 5) E.nil))))
def b_images : SF := (S.seq p_images_1
    (S.seq p_images_2
    p_images_5))
def c_images : CF := run 2 6 b_images
theorem d_images {fa : Addr} {fd : FuncData} (F : Fun K "images" "images" s_images fa fd) (gf : mg "images" = some (.ref fa)) (Z : Blt mg)
    (D_begun_at : Df P w K mg base "begun_at" ["order", "place", "back"] 1 c_begun_at)
    (D_ways_round : Df P w K mg base "ways_round" ["kind"] 1 c_ways_round) :
    Df P w K mg base "images" ["order", "kind"] 2 c_images := by
  obtain ⟨_, _, G_begun_at, b_begun_at, k_begun_at, g_begun_at⟩ := D_begun_at
  obtain ⟨_, _, G_ways_round, b_ways_round, k_ways_round, g_ways_round⟩ := D_ways_round
  have b_images : Binds K fd ["order", "kind"] [] := F.binds fun _ _ _ _ _ _ us hl => match us, hl with | [_, _], _ => rfl
  refine ⟨fa, fd, def_ok F sc_images rfl rfl (by decide) fun cdv A outer s H E hr => ?_, b_images, F.kp, gf⟩
  exact ⟨_, (pss_cons (ps_set (i := 2) sc_images.nd rfl (by first | exact Or.inl rfl | exact Or.inr rfl) pe_dnewT)
    (pss_cons (ps_for PassesOwn.never (by rfl) (pi_any (pe_call G_ways_round (hr.mono (by decide)) (by rfl) g_ways_round k_ways_round b_ways_round .nil pass0 (pa_cons (pv 1) pa_nil))) (pg_name (i := 3) sc_images.nd rfl (by first | exact Or.inl rfl | exact Or.inr rfl))
    (pss_one (ps_for PassesOwn.never (by rfl) (pi_range1 (by rfl) Z.z_range (pa_cons (pe_callB cr_len (by rfl) Z.z_len (by decide +kernel) (pa_cons (pv 0) pa_nil)) pa_nil)) (pg_name (i := 4) sc_images.nd rfl (by first | exact Or.inl rfl | exact Or.inr rfl))
    (pss_one (ps_asg pe_bl (pg_sub (pv 2) (pe_callTy call_tuple_of (by rfl) Z.z_tuple (by decide +kernel) (pa_cons (pe_call G_begun_at (hr.mono (by decide)) (by rfl) g_begun_at k_begun_at b_begun_at .nil pass0 (pa_cons (pv 0) (pa_cons (pv 4) (pa_cons (pv 3) pa_nil)))) pa_nil)) (set_any (hu1 hr))))))))
    (pss_one (ps_ret (pe_lc (own := [("one", 5)]) (by rfl) sc_images.nd (pi_any (pe_callB (cr_sorted rfl (hu65 hr)) (by rfl) Z.z_sorted (by decide +kernel) (pa_cons (pv 2) pa_nil))) (blkOk_by (N := n_images) (sc := defScope s_images) (by decide +kernel)) (fun _ _ _ _ _ => (pg_name (i := 5) sc_images.nd rfl (by first | exact Or.inl rfl | exact Or.inr rfl))) (fun _ _ _ _ _ => pts_nil) (fun _ _ _ _ _ => (pe_callTy call_list_of (by rfl) Z.z_list (by decide +kernel) (pa_cons (pv 5) pa_nil)))))))),
    (snds_seq (snds_own (i := 2) snd_dT)
    (snds_seq (snds_for (ks := [3, 4]) (sndi_any (snd_call (ms := [false]) (snd_cons snd_var snd_nil))) (sndg_name (i := 3))
    (snds_for (ks := [4]) (sndi_rng1 (snd_cb scb_len (snd_cons snd_var snd_nil))) (sndg_name (i := 4))
    (snds_asg (sndg_sub (j := 2) (snd_cb scb_tuple (snd_cons (snd_call (ms := [false, false, false]) (snd_cons snd_var (snd_cons snd_var (snd_cons snd_var snd_nil)))) snd_nil))) snd_bl)))
    (snds_ret (snd_lc (is := [5]) (sndi_any (snd_cb scb_sorted (snd_cons snd_var snd_nil))) (sndg_name (i := 5)) sndt_yes (snd_cb scb_list (snd_cons snd_var snd_nil)) (by decide)))))⟩
/-! ### form -/
abbrev s_form : Stmt := topS 4
abbrev n_form : List Str := ["order", "kind"]
theorem sc_form : FnScope n_form ["order", "kind"] (defScope s_form) := ⟨rfl, rfl, rfl, by decide +kernel, rfl, by decide +kernel, by decide +kernel⟩
def p_form_1 : SF := (S.ret (E.bin oIx (E.call [false, false] c_images (E.cons (E.var 0) (E.cons (E.var 1) E.nil))) (E.c (.int 0))))
def b_form : SF := p_form_1
def c_form : CF := run 2 2 b_form
theorem d_form {fa : Addr} {fd : FuncData} (F : Fun K "form" "form" s_form fa fd) (gf : mg "form" = some (.ref fa)) (Z : Blt mg)
    (D_images : Df P w K mg base "images" ["order", "kind"] 2 c_images) :
    Df P w K mg base "form" ["order", "kind"] 3 c_form := by
  obtain ⟨_, _, G_images, b_images, k_images, g_images⟩ := D_images
  have b_form : Binds K fd ["order", "kind"] [] := F.binds fun _ _ _ _ _ _ us hl => match us, hl with | [_, _], _ => rfl
  refine ⟨fa, fd, def_ok F sc_form rfl rfl (by decide) fun cdv A outer s H E hr => ?_, b_form, F.kp, gf⟩
  exact ⟨_, (pss_one (ps_ret (pe_ix (or_ix (hu1 hr)) (pe_call G_images (hr.mono (by decide)) (by rfl) g_images k_images b_images .nil pass0 (pa_cons (pv 0) (pa_cons (pv 1) pa_nil))) pe_int (fun _ _ => rfl)))),
    (snds_ret (snd_op sop_ix (snd_call (ms := [false, false]) (snd_cons snd_var (snd_cons snd_var snd_nil))) snd_int))⟩
/-! ### is_form -/
abbrev s_is_form : Stmt := topS 5
abbrev n_is_form : List Str := ["order", "kind"]
theorem sc_is_form : FnScope n_is_form ["order", "kind"] (defScope s_is_form) := ⟨rfl, rfl, rfl, by decide +kernel, rfl, by decide +kernel, by decide +kernel⟩
def p_is_form_1 : SF := (S.ret (E.bin oEq (E.call [false, false] c_form (E.cons (E.var 0) (E.cons (E.var 1) E.nil))) (E.cb oList (E.cons (E.var 0) E.nil))))
def b_is_form : SF := p_is_form_1
def c_is_form : CF := run 2 2 b_is_form
theorem d_is_form {fa : Addr} {fd : FuncData} (F : Fun K "is_form" "is_form" s_is_form fa fd) (gf : mg "is_form" = some (.ref fa)) (Z : Blt mg)
    (D_form : Df P w K mg base "form" ["order", "kind"] 3 c_form) :
    Df P w K mg base "is_form" ["order", "kind"] 4 c_is_form := by
  obtain ⟨_, _, G_form, b_form, k_form, g_form⟩ := D_form
  have b_is_form : Binds K fd ["order", "kind"] [] := F.binds fun _ _ _ _ _ _ us hl => match us, hl with | [_, _], _ => rfl
  refine ⟨fa, fd, def_ok F sc_is_form rfl rfl (by decide) fun cdv A outer s H E hr => ?_, b_is_form, F.kp, gf⟩
  exact ⟨_, (pss_one (ps_ret (pe_cmpR (op_eqD (hu64 hr)) (pe_call G_form (hr.mono (by decide)) (by rfl) g_form k_form b_form .nil pass0 (pa_cons (pv 0) (pa_cons (pv 1) pa_nil))) (pe_callTy call_list_of (by rfl) Z.z_list (by decide +kernel) (pa_cons (pv 0) pa_nil)) (nomark _)))),
    (snds_ret (snd_op sop_eq (snd_call (ms := [false, false]) (snd_cons snd_var (snd_cons snd_var snd_nil))) (snd_cb scb_list (snd_cons snd_var snd_nil))))⟩
/-! ### repeat -/
abbrev s_repeat : Stmt := topS 6
abbrev n_repeat : List Str := ["order", "n", "p", "at"]
theorem sc_repeat : FnScope n_repeat ["order"] (defScope s_repeat) := ⟨rfl, rfl, rfl, by decide +kernel, rfl, by decide +kernel, by decide +kernel⟩
def p_repeat_4 : SF := (S.ret (E.var 2))
def p_repeat_3 : SF := (S.ite (T.and (T.ofE (E.bin oEq (E.bin oMod (E.var 1) (E.var 2)) (E.c (.int 0)))) (T.tru (E.cb oAll (E.cons (E.lc [3] (I.rng1 (E.var 1)) (G.name 3) T.yes (E.bin oEq (E.bin oIx (E.var 0) (E.var 3)) (E.bin oIx (E.var 0) (E.bin oMod (E.bin oAdd (E.var 3) (E.var 2)) (E.var 1))))) E.nil))))
    p_repeat_4
    S.nil)
def p_repeat_1 : SF := (S.set 1 (E.cb oLen (E.cons (E.var 0) E.nil)))
def p_repeat_2 : SF := (S.for_ (I.rng2 (E.c (.int 1)) (E.var 1)) (G.name 2) [2]
    p_repeat_3)
def p_repeat_5 : SF := (S.ret (E.var 1))
def b_repeat : SF := (S.seq p_repeat_1
    (S.seq p_repeat_2
    p_repeat_5))
def c_repeat : CF := run 1 4 b_repeat
theorem d_repeat {fa : Addr} {fd : FuncData} (F : Fun K "repeat" "repeat" s_repeat fa fd) (gf : mg "repeat" = some (.ref fa)) (Z : Blt mg) :
    Df P w K mg base "repeat" ["order"] 1 c_repeat := by
  have b_repeat : Binds K fd ["order"] [] := F.binds fun _ _ _ _ _ _ us hl => match us, hl with | [_], _ => rfl
  refine ⟨fa, fd, def_ok F sc_repeat rfl rfl (by decide) fun cdv A outer s H E hr => ?_, b_repeat, F.kp, gf⟩
  exact ⟨_, (pss_cons (ps_set (i := 1) sc_repeat.nd rfl (by first | exact Or.inl rfl | exact Or.inr rfl) (pe_callB cr_len (by rfl) Z.z_len (by decide +kernel) (pa_cons (pv 0) pa_nil)))
    (pss_cons (ps_for PassesOwn.never (by rfl) (pi_range2 (by rfl) Z.z_range (pa_cons pe_int (pa_cons (pv 1) pa_nil))) (pg_name (i := 2) sc_repeat.nd rfl (by first | exact Or.inl rfl | exact Or.inr rfl))
    (pss_one (ps_if (PW.pt (pw_and (pt_cmpR (op_eqD (hu64 hr)) (pe_op op_modN (pv 1) (pv 2)) pe_int (nomark _)) (pw_and1 (pt_truth (pe_callB (cr_all rfl) (by rfl) Z.z_all (by decide +kernel) (pa_cons (pe_lc (own := [("at", 3)]) (by rfl) sc_repeat.nd (pi_range1 (by rfl) Z.z_range (pa_cons (pv 1) pa_nil)) (blkOk_by (N := n_repeat) (sc := defScope s_repeat) (by decide +kernel)) (fun _ _ _ _ _ => (pg_name (i := 3) sc_repeat.nd rfl (by first | exact Or.inl rfl | exact Or.inr rfl))) (fun _ _ _ _ _ => pts_nil) (fun _ _ _ _ _ => (pe_cmpR (op_eqD (hu64 hr)) (pe_ix (or_ix (hu1 hr)) (pv 0) (pv 3) (fun _ _ => rfl)) (pe_ix (or_ix (hu1 hr)) (pv 0) (pe_op op_modN (pe_op or_add (pv 3) (pv 2)) (pv 1)) (fun _ _ => rfl)) (nomark _)))) pa_nil)) (by intro _; rfl)))))
    (pss_one (ps_ret (pv 2)))
    pss_nil)))
    (pss_one (ps_ret (pv 1))))),
    (snds_seq (snds_set (i := 1) (snd_cb scb_len (snd_cons snd_var snd_nil)))
    (snds_seq (snds_for (ks := [2]) (sndi_rng2 snd_int snd_var) (sndg_name (i := 2))
    (snds_ite (snd_tand (snd_tT (snd_op sop_eq (snd_op sop_mod snd_var snd_var) snd_int)) (snd_tru (snd_cb scb_all (snd_cons (snd_lc (is := [3]) (sndi_rng1 snd_var) (sndg_name (i := 3)) sndt_yes (snd_op sop_eq (snd_op sop_ix snd_var snd_var) (snd_op sop_ix snd_var (snd_op sop_mod (snd_op sop_add snd_var snd_var) snd_var))) (by decide)) snd_nil))))
    (snds_ret snd_var)
    snds_nil))
    (snds_ret snd_var)))⟩
/-! ### move_to -/
abbrev s_move_to : Stmt := topS 7
abbrev n_move_to : List Str := ["one", "other", "kind", "place", "back"]
theorem sc_move_to : FnScope n_move_to ["one", "other", "kind"] (defScope s_move_to) := ⟨rfl, rfl, rfl, by decide +kernel, rfl, by decide +kernel, by decide +kernel⟩
def p_move_to_4 : SF := (S.ret (E.tup (E.cons (E.var 3) (E.cons (E.var 4) E.nil))))
def p_move_to_3 : SF := (S.ite (T.ofE (E.bin oEq (E.call [false, false, false] c_begun_at (E.cons (E.var 0) (E.cons (E.var 3) (E.cons (E.var 4) E.nil)))) (E.cb oList (E.cons (E.var 1) E.nil))))
    p_move_to_4
    S.nil)
def p_move_to_2 : SF := (S.for_ (I.any (E.call [false] c_ways_round (E.cons (E.var 2) E.nil))) (G.name 4) [4]
    p_move_to_3)
def p_move_to_1 : SF := (S.for_ (I.rng1 (E.cb oLen (E.cons (E.var 0) E.nil))) (G.name 3) [3, 4]
    p_move_to_2)
def p_move_to_5 : SF := (S.ret (E.c .non))
def b_move_to : SF := (S.seq p_move_to_1
    p_move_to_5)
def c_move_to : CF := run 3 5 b_move_to
theorem d_move_to {fa : Addr} {fd : FuncData} (F : Fun K "move_to" "move_to" s_move_to fa fd) (gf : mg "move_to" = some (.ref fa)) (Z : Blt mg)
    (D_begun_at : Df P w K mg base "begun_at" ["order", "place", "back"] 1 c_begun_at)
    (D_ways_round : Df P w K mg base "ways_round" ["kind"] 1 c_ways_round) :
    Df P w K mg base "move_to" ["one", "other", "kind"] 2 c_move_to := by
  obtain ⟨_, _, G_begun_at, b_begun_at, k_begun_at, g_begun_at⟩ := D_begun_at
  obtain ⟨_, _, G_ways_round, b_ways_round, k_ways_round, g_ways_round⟩ := D_ways_round
  have b_move_to : Binds K fd ["one", "other", "kind"] [] := F.binds fun _ _ _ _ _ _ us hl => match us, hl with | [_, _, _], _ => rfl
  refine ⟨fa, fd, def_ok F sc_move_to rfl rfl (by decide) fun cdv A outer s H E hr => ?_, b_move_to, F.kp, gf⟩
  exact ⟨_, (pss_cons (ps_for PassesOwn.never (by rfl) (pi_range1 (by rfl) Z.z_range (pa_cons (pe_callB cr_len (by rfl) Z.z_len (by decide +kernel) (pa_cons (pv 0) pa_nil)) pa_nil)) (pg_name (i := 3) sc_move_to.nd rfl (by first | exact Or.inl rfl | exact Or.inr rfl))
    (pss_one (ps_for PassesOwn.never (by rfl) (pi_any (pe_call G_ways_round (hr.mono (by decide)) (by rfl) g_ways_round k_ways_round b_ways_round .nil pass0 (pa_cons (pv 2) pa_nil))) (pg_name (i := 4) sc_move_to.nd rfl (by first | exact Or.inl rfl | exact Or.inr rfl))
    (pss_one (ps_if (pt_cmpR (op_eqD (hu64 hr)) (pe_call G_begun_at (hr.mono (by decide)) (by rfl) g_begun_at k_begun_at b_begun_at .nil pass0 (pa_cons (pv 0) (pa_cons (pv 3) (pa_cons (pv 4) pa_nil)))) (pe_callTy call_list_of (by rfl) Z.z_list (by decide +kernel) (pa_cons (pv 1) pa_nil)) (nomark _))
    (pss_one (ps_ret (pe_tup (pa_cons (pv 3) (pa_cons (pv 4) pa_nil)))))
    pss_nil)))))
    (pss_one (ps_ret pe_non))),
    (snds_seq (snds_for (ks := [3, 4]) (sndi_rng1 (snd_cb scb_len (snd_cons snd_var snd_nil))) (sndg_name (i := 3))
    (snds_for (ks := [4]) (sndi_any (snd_call (ms := [false]) (snd_cons snd_var snd_nil))) (sndg_name (i := 4))
    (snds_ite (snd_tT (snd_op sop_eq (snd_call (ms := [false, false, false]) (snd_cons snd_var (snd_cons snd_var (snd_cons snd_var snd_nil)))) (snd_cb scb_list (snd_cons snd_var snd_nil))))
    (snds_ret (snd_tup (snd_cons snd_var (snd_cons snd_var snd_nil))))
    snds_nil)))
    (snds_ret snd_non))⟩
/-! ### named_alike -/
abbrev s_named_alike : Stmt := topS 8
abbrev n_named_alike : List Str := ["order", "names", "colour"]
theorem sc_named_alike : FnScope n_named_alike ["order"] (defScope s_named_alike) := ⟨rfl, rfl, rfl, by decide +kernel, rfl, by decide +kernel, by decide +kernel⟩
def p_named_alike_3 : SF := (S.drop (E.setd 1 (E.var 2) (E.cb oLen (E.cons (E.var 1) E.nil))))
def p_named_alike_1 : SF := (S.own 1 E.dK)
def p_named_alike_2 : SF := (S.for_ (I.any (E.var 0)) (G.name 2) []
    p_named_alike_3)
def p_named_alike_4 : SF := (S.ret (E.lc [2] (I.any (E.var 0)) (G.name 2) T.yes (E.bin oIx (E.var 1) (E.var 2))))
def b_named_alike : SF := (S.seq p_named_alike_1
    (S.seq p_named_alike_2
    p_named_alike_4))
def c_named_alike : CF := run 1 3 b_named_alike
theorem d_named_alike {fa : Addr} {fd : FuncData} (F : Fun K "named_alike" "named_alike" s_named_alike fa fd) (gf : mg "named_alike" = some (.ref fa)) (Z : Blt mg) :
    Df P w K mg base "named_alike" ["order"] 1 c_named_alike := by
  have b_named_alike : Binds K fd ["order"] [] := F.binds fun _ _ _ _ _ _ us hl => match us, hl with | [_], _ => rfl
  refine ⟨fa, fd, def_ok F sc_named_alike rfl rfl (by decide) fun cdv A outer s H E hr => ?_, b_named_alike, F.kp, gf⟩
  exact ⟨_, (pss_cons (ps_set (i := 1) sc_named_alike.nd rfl (by first | exact Or.inl rfl | exact Or.inr rfl) pe_dnewK)
    (pss_cons (ps_for PassesOwn.never (by rfl) (pi_any (pv 0)) (pg_name (i := 2) sc_named_alike.nd rfl (by first | exact Or.inl rfl | exact Or.inr rfl))
    (pss_one (ps_expr (pe_dsetd (pv 1) (pv 2) (pe_callB cr_len (by rfl) Z.z_len (by decide +kernel) (pa_cons (pv 1) pa_nil)) ⟨rfl, rfl, rfl, rfl⟩))))
    (pss_one (ps_ret (pe_lc (own := [("colour", 2)]) (by rfl) sc_named_alike.nd (pi_any (pv 0)) (blkOk_by (N := n_named_alike) (sc := defScope s_named_alike) (by decide +kernel)) (fun _ _ _ _ _ => (pg_name (i := 2) sc_named_alike.nd rfl (by first | exact Or.inl rfl | exact Or.inr rfl))) (fun _ _ _ _ _ => pts_nil) (fun _ _ _ _ _ => (pe_ix (or_ix (hu1 hr)) (pv 1) (pv 2) (fun _ _ => rfl)))))))),
    (snds_seq (snds_own (i := 1) snd_dK)
    (snds_seq (snds_for (ks := []) (sndi_any snd_var) (sndg_name (i := 2))
    (snds_drop (snd_setd (j := 1) snd_var (snd_cb scb_len (snd_cons snd_var snd_nil)))))
    (snds_ret (snd_lc (is := [2]) (sndi_any snd_var) (sndg_name (i := 2)) sndt_yes (snd_op sop_ix snd_var snd_var) (by decide)))))⟩
/-! ### plain_stripes -/
abbrev s_plain_stripes : Stmt := topS 9
abbrev n_plain_stripes : List Str := ["order", "kind", "one"]
theorem sc_plain_stripes : FnScope n_plain_stripes ["order", "kind"] (defScope s_plain_stripes) := ⟨rfl, rfl, rfl, by decide +kernel, rfl, by decide +kernel, by decide +kernel⟩
def p_plain_stripes_1 : SF := (S.ret (E.bin oIx (E.cb oSorted (E.cons (E.lc [2] (I.any (E.call [false, false] c_images (E.cons (E.var 0) (E.cons (E.var 1) E.nil)))) (G.name 2) T.yes (E.call [false] c_named_alike (E.cons (E.var 2) E.nil))) E.nil)) (E.c (.int 0))))
def b_plain_stripes : SF := p_plain_stripes_1
def c_plain_stripes : CF := run 2 3 b_plain_stripes
theorem d_plain_stripes {fa : Addr} {fd : FuncData} (F : Fun K "plain_stripes" "plain_stripes" s_plain_stripes fa fd) (gf : mg "plain_stripes" = some (.ref fa)) (Z : Blt mg)
    (D_images : Df P w K mg base "images" ["order", "kind"] 2 c_images)
    (D_named_alike : Df P w K mg base "named_alike" ["order"] 1 c_named_alike) :
    Df P w K mg base "plain_stripes" ["order", "kind"] 3 c_plain_stripes := by
  obtain ⟨_, _, G_images, b_images, k_images, g_images⟩ := D_images
  obtain ⟨_, _, G_named_alike, b_named_alike, k_named_alike, g_named_alike⟩ := D_named_alike
  have b_plain_stripes : Binds K fd ["order", "kind"] [] := F.binds fun _ _ _ _ _ _ us hl => match us, hl with | [_, _], _ => rfl
  refine ⟨fa, fd, def_ok F sc_plain_stripes rfl rfl (by decide) fun cdv A outer s H E hr => ?_, b_plain_stripes, F.kp, gf⟩
  exact ⟨_, (pss_one (ps_ret (pe_ix (or_ix (hu1 hr)) (pe_callB (cr_sorted rfl (hu65 hr)) (by rfl) Z.z_sorted (by decide +kernel) (pa_cons (pe_lc (own := [("one", 2)]) (by rfl) sc_plain_stripes.nd (pi_any (pe_call G_images (hr.mono (by decide)) (by rfl) g_images k_images b_images .nil pass0 (pa_cons (pv 0) (pa_cons (pv 1) pa_nil)))) (blkOk_by (N := n_plain_stripes) (sc := defScope s_plain_stripes) (by decide +kernel)) (fun _ _ _ _ _ => (pg_name (i := 2) sc_plain_stripes.nd rfl (by first | exact Or.inl rfl | exact Or.inr rfl))) (fun _ _ _ _ _ => pts_nil) (fun _ _ _ _ _ => (pe_call G_named_alike (hr.mono (by decide)) (by rfl) g_named_alike k_named_alike b_named_alike .nil pass0 (pa_cons (pv 2) pa_nil)))) pa_nil)) pe_int (fun _ _ => rfl)))),
    (snds_ret (snd_op sop_ix (snd_cb scb_sorted (snd_cons (snd_lc (is := [2]) (sndi_any (snd_call (ms := [false, false]) (snd_cons snd_var (snd_cons snd_var snd_nil)))) (sndg_name (i := 2)) sndt_yes (snd_call (ms := [false]) (snd_cons snd_var snd_nil)) (by decide)) snd_nil)) snd_int))⟩
/-! ### judge_move -/
abbrev s_judge_move : Stmt := topS 11
abbrev n_judge_move : List Str := ["one", "other", "kind", "place", "back"]
theorem sc_judge_move : FnScope n_judge_move ["one", "other", "kind", "place", "back"] (defScope s_judge_move) := ⟨rfl, rfl, rfl, by decide +kernel, rfl, by decide +kernel, by decide +kernel⟩
def p_judge_move_2 : SF := (S.ret (E.c (.bl false)))
def p_judge_move_1 : SF := (S.ite (T.or (T.not (T.ofE (E.chain oLe oLt (E.c (.int 0)) (E.var 3) (E.cb oLen (E.cons (E.var 0) E.nil))))) (T.ofE (E.bin oNotIn (E.var 4) (E.call [false] c_ways_round (E.cons (E.var 2) E.nil)))))
    p_judge_move_2
    S.nil)
def p_judge_move_3 : SF := (S.ret (E.bin oEq (E.call [false, false, false] c_begun_at (E.cons (E.var 0) (E.cons (E.var 3) (E.cons (E.var 4) E.nil)))) (E.cb oList (E.cons (E.var 1) E.nil))))
def b_judge_move : SF := (S.seq p_judge_move_1
    p_judge_move_3)
def c_judge_move : CF := run 5 5 b_judge_move
theorem d_judge_move {fa : Addr} {fd : FuncData} (F : Fun K "judge_move" "judge_move" s_judge_move fa fd) (gf : mg "judge_move" = some (.ref fa)) (Z : Blt mg)
    (D_begun_at : Df P w K mg base "begun_at" ["order", "place", "back"] 1 c_begun_at)
    (D_ways_round : Df P w K mg base "ways_round" ["kind"] 1 c_ways_round) :
    Df P w K mg base "judge_move" ["one", "other", "kind", "place", "back"] 2 c_judge_move := by
  obtain ⟨_, _, G_begun_at, b_begun_at, k_begun_at, g_begun_at⟩ := D_begun_at
  obtain ⟨_, _, G_ways_round, b_ways_round, k_ways_round, g_ways_round⟩ := D_ways_round
  have b_judge_move : Binds K fd ["one", "other", "kind", "place", "back"] [] := F.binds fun _ _ _ _ _ _ us hl => match us, hl with | [_, _, _, _, _], _ => rfl
  refine ⟨fa, fd, def_ok F sc_judge_move rfl rfl (by decide) fun cdv A outer s H E hr => ?_, b_judge_move, F.kp, gf⟩
  exact ⟨_, (pss_cons (ps_if (PW.pt (pw_or (pt_not (pt_chain op_le or_lt pe_int (pv 3) (pe_callB cr_len (by rfl) Z.z_len (by decide +kernel) (pa_cons (pv 0) pa_nil)))) (pw_or1 (pt_cmpR (or_notIn (hu65 hr)) (pv 4) (pe_call G_ways_round (hr.mono (by decide)) (by rfl) g_ways_round k_ways_round b_ways_round .nil pass0 (pa_cons (pv 2) pa_nil)) (by rfl)))))
    (pss_one (ps_ret pe_bl))
    pss_nil)
    (pss_one (ps_ret (pe_cmpR (op_eqD (hu64 hr)) (pe_call G_begun_at (hr.mono (by decide)) (by rfl) g_begun_at k_begun_at b_begun_at .nil pass0 (pa_cons (pv 0) (pa_cons (pv 3) (pa_cons (pv 4) pa_nil)))) (pe_callTy call_list_of (by rfl) Z.z_list (by decide +kernel) (pa_cons (pv 1) pa_nil)) (nomark _))))),
    (snds_seq (snds_ite (snd_tor (snd_tnot (snd_tT (snd_chain sop_le sop_lt snd_int snd_var (snd_cb scb_len (snd_cons snd_var snd_nil))))) (snd_tT (snd_op sop_notIn snd_var (snd_call (ms := [false]) (snd_cons snd_var snd_nil)))))
    (snds_ret snd_bl)
    snds_nil)
    (snds_ret (snd_op sop_eq (snd_call (ms := [false, false, false]) (snd_cons snd_var (snd_cons snd_var (snd_cons snd_var snd_nil)))) (snd_cb scb_list (snd_cons snd_var snd_nil)))))⟩
/-! ### _law_begun -/
abbrev s__law_begun : Stmt := topS 13
abbrev n__law_begun : List Str := ["order", "place", "back", "n", "step", "k"]
theorem sc__law_begun : FnScope n__law_begun ["order", "place", "back"] (defScope s__law_begun) := ⟨rfl, rfl, rfl, by decide +kernel, rfl, by decide +kernel, by decide +kernel⟩
def p__law_begun_1 : SF := (S.set 3 (E.cb oLen (E.cons (E.var 0) E.nil)))
def p__law_begun_2 : SF := (S.set 4 (E.ite (T.tru (E.var 2)) (E.un oNeg (E.c (.int 1))) (E.c (.int 1))))
def p__law_begun_3 : SF := (S.ret (E.lc [5] (I.rng1 (E.var 3)) (G.name 5) T.yes (E.bin oIx (E.var 0) (E.bin oMod (E.cb oInt (E.cons (E.bin oAdd (E.var 1) (E.bin oMul (E.var 4) (E.var 5))) E.nil)) (E.var 3)))))
def b__law_begun : SF := (S.seq p__law_begun_1
    (S.seq p__law_begun_2
    p__law_begun_3))
def c__law_begun : CF := run 3 6 b__law_begun
theorem d__law_begun {fa : Addr} {fd : FuncData} (F : Fun K "_law_begun" "_law_begun" s__law_begun fa fd) (gf : mg "_law_begun" = some (.ref fa)) (Z : Blt mg) :
    Df P w K mg base "_law_begun" ["order", "place", "back"] 1 c__law_begun := by
  have b__law_begun : Binds K fd ["order", "place", "back"] [] := F.binds fun _ _ _ _ _ _ us hl => match us, hl with | [_, _, _], _ => rfl
  refine ⟨fa, fd, def_ok F sc__law_begun rfl rfl (by decide) fun cdv A outer s H E hr => ?_, b__law_begun, F.kp, gf⟩
  exact ⟨_, (pss_cons (ps_set (i := 3) sc__law_begun.nd rfl (by first | exact Or.inl rfl | exact Or.inr rfl) (pe_callB cr_len (by rfl) Z.z_len (by decide +kernel) (pa_cons (pv 0) pa_nil)))
    (pss_cons (ps_set (i := 4) sc__law_begun.nd rfl (by first | exact Or.inl rfl | exact Or.inr rfl) (pe_ifExp (pt_truth (pv 2) (by intro _; rfl)) (pe_un un_neg pe_int) pe_int))
    (pss_one (ps_ret (pe_lc (own := [("k", 5)]) (by rfl) sc__law_begun.nd (pi_range1 (by rfl) Z.z_range (pa_cons (pv 3) pa_nil)) (blkOk_by (N := n__law_begun) (sc := defScope s__law_begun) (by decide +kernel)) (fun _ _ _ _ _ => (pg_name (i := 5) sc__law_begun.nd rfl (by first | exact Or.inl rfl | exact Or.inr rfl))) (fun _ _ _ _ _ => pts_nil) (fun _ _ _ _ _ => (pe_ix (or_ix (hu1 hr)) (pv 0) (pe_op op_modN (pe_callTy cr_int (by rfl) Z.z_int (by decide +kernel) (pa_cons (pe_op or_add (pv 1) (pe_op or_mul (pv 4) (pv 5))) pa_nil)) (pv 3)) (fun _ _ => rfl)))))))),
    (snds_seq (snds_set (i := 3) (snd_cb scb_len (snd_cons snd_var snd_nil)))
    (snds_seq (snds_set (i := 4) (snd_ite (snd_tru snd_var) (snd_un sun_neg snd_int) snd_int))
    (snds_ret (snd_lc (is := [5]) (sndi_rng1 snd_var) (sndg_name (i := 5)) sndt_yes (snd_op sop_ix snd_var (snd_op sop_mod (snd_cb scb_int (snd_cons (snd_op sop_add snd_var (snd_op sop_mul snd_var snd_var)) snd_nil)) snd_var)) (by decide)))))⟩
/-! ### _law_images -/
abbrev s__law_images : Stmt := topS 14
abbrev n__law_images : List Str := ["order", "kind", "found", "place", "back", "image"]
theorem sc__law_images : FnScope n__law_images ["order", "kind"] (defScope s__law_images) := ⟨rfl, rfl, rfl, by decide +kernel, rfl, by decide +kernel, by decide +kernel⟩
def p__law_images_6 : SF := (S.drop (E.chg muAppend 2 (E.cons (E.var 5) E.nil)))
def p__law_images_4 : SF := (S.set 5 (E.call [false, false, false] c__law_begun (E.cons (E.var 0) (E.cons (E.var 3) (E.cons (E.var 4) E.nil)))))
def p__law_images_5 : SF := (S.ite (T.ofE (E.bin oNotIn (E.var 5) (E.var 2)))
    p__law_images_6
    S.nil)
def q__law_images_3 : SF := (S.seq p__law_images_4
    p__law_images_5)
def p__law_images_3 : SF := (S.for_ (I.any (E.ite (T.ofE (E.bin oEq (E.var 1) (E.c (.str "turned")))) (E.lst (E.cons (E.c (.bl false)) (E.cons (E.c (.bl true)) E.nil))) (E.lst (E.cons (E.c (.bl false)) E.nil)))) (G.name 4) [4, 5]
    q__law_images_3)
def p__law_images_1 : SF := (S.own 2 (E.lst E.nil))
def p__law_images_2 : SF := (S.for_ (I.rng1 (E.cb oLen (E.cons (E.var 0) E.nil))) (G.name 3) [3, 4, 5]
    p__law_images_3)
def p__law_images_7 : SF := (S.ret (E.cb oSorted (E.cons (E.var 2) E.nil)))
def b__law_images : SF := (S.seq p__law_images_1
    (S.seq p__law_images_2
    p__law_images_7))
def c__law_images : CF := run 2 6 b__law_images
theorem d__law_images {fa : Addr} {fd : FuncData} (F : Fun K "_law_images" "_law_images" s__law_images fa fd) (gf : mg "_law_images" = some (.ref fa)) (Z : Blt mg)
    (D__law_begun : Df P w K mg base "_law_begun" ["order", "place", "back"] 1 c__law_begun) :
    Df P w K mg base "_law_images" ["order", "kind"] 2 c__law_images := by
  obtain ⟨_, _, G__law_begun, b__law_begun, k__law_begun, g__law_begun⟩ := D__law_begun
  have b__law_images : Binds K fd ["order", "kind"] [] := F.binds fun _ _ _ _ _ _ us hl => match us, hl with | [_, _], _ => rfl
  refine ⟨fa, fd, def_ok F sc__law_images rfl rfl (by decide) fun cdv A outer s H E hr => ?_, b__law_images, F.kp, gf⟩
  exact ⟨_, (pss_cons (ps_set (i := 2) sc__law_images.nd rfl (by first | exact Or.inl rfl | exact Or.inr rfl) (pe_lst pa_nil))
    (pss_cons (ps_for PassesOwn.never (by rfl) (pi_range1 (by rfl) Z.z_range (pa_cons (pe_callB cr_len (by rfl) Z.z_len (by decide +kernel) (pa_cons (pv 0) pa_nil)) pa_nil)) (pg_name (i := 3) sc__law_images.nd rfl (by first | exact Or.inl rfl | exact Or.inr rfl))
    (pss_one (ps_for PassesOwn.never (by rfl) (pi_any (pe_ifExp (pt_cmpR (op_eqD (hu64 hr)) (pv 1) pe_str (nomark _)) (pe_lst (pa_cons pe_bl (pa_cons pe_bl pa_nil))) (pe_lst (pa_cons pe_bl pa_nil)))) (pg_name (i := 4) sc__law_images.nd rfl (by first | exact Or.inl rfl | exact Or.inr rfl))
    (pss_cons (ps_set (i := 5) sc__law_images.nd rfl (by first | exact Or.inl rfl | exact Or.inr rfl) (pe_call G__law_begun (hr.mono (by decide)) (by rfl) g__law_begun k__law_begun b__law_begun .nil pass0 (pa_cons (pv 0) (pa_cons (pv 3) (pa_cons (pv 4) pa_nil)))))
    (pss_one (ps_if (pt_cmpR (or_notIn (hu65 hr)) (pv 5) (pv 2) (by rfl))
    (pss_one (ps_expr (pe_bm PySem.F.plainAttrs_list PySem.F.slot_list_append PySem.F.type_list_append mt_append (pv 2) (pa_cons (pv 5) pa_nil))))
    pss_nil))))))
    (pss_one (ps_ret (pe_callB (cr_sorted rfl (hu65 hr)) (by rfl) Z.z_sorted (by decide +kernel) (pa_cons (pv 2) pa_nil)))))),
    (snds_seq (snds_own (i := 2) (snd_lst snd_nil))
    (snds_seq (snds_for (ks := [3, 4, 5]) (sndi_rng1 (snd_cb scb_len (snd_cons snd_var snd_nil))) (sndg_name (i := 3))
    (snds_for (ks := [4, 5]) (sndi_any (snd_ite (snd_tT (snd_op sop_eq snd_var snd_str)) (snd_lst (snd_cons snd_bl (snd_cons snd_bl snd_nil))) (snd_lst (snd_cons snd_bl snd_nil)))) (sndg_name (i := 4))
    (snds_seq (snds_set (i := 5) (snd_call (ms := [false, false, false]) (snd_cons snd_var (snd_cons snd_var (snd_cons snd_var snd_nil)))))
    (snds_ite (snd_tT (snd_op sop_notIn snd_var snd_var))
    (snds_drop (snd_mut smu_append (snd_cons snd_var snd_nil)))
    snds_nil))))
    (snds_ret (snd_cb scb_sorted (snd_cons snd_var snd_nil)))))⟩
/-! ### _law_named -/
abbrev s__law_named : Stmt := topS 15
abbrev n__law_named : List Str := ["order", "names", "colour"]
theorem sc__law_named : FnScope n__law_named ["order"] (defScope s__law_named) := ⟨rfl, rfl, rfl, by decide +kernel, rfl, by decide +kernel, by decide +kernel⟩
def p__law_named_4 : SF := (S.drop (E.chg muAppend 1 (E.cons (E.var 2) E.nil)))
def p__law_named_3 : SF := (S.ite (T.ofE (E.bin oNotIn (E.var 2) (E.var 1)))
    p__law_named_4
    S.nil)
def p__law_named_1 : SF := (S.own 1 (E.lst E.nil))
def p__law_named_2 : SF := (S.for_ (I.any (E.var 0)) (G.name 2) []
    p__law_named_3)
def p__law_named_5 : SF := (S.ret (E.lc [2] (I.any (E.var 0)) (G.name 2) T.yes (E.mt "list" oIndex (E.var 1) (E.cons (E.var 2) E.nil))))
def b__law_named : SF := (S.seq p__law_named_1
    (S.seq p__law_named_2
    p__law_named_5))
def c__law_named : CF := run 1 3 b__law_named
theorem d__law_named {fa : Addr} {fd : FuncData} (F : Fun K "_law_named" "_law_named" s__law_named fa fd) (gf : mg "_law_named" = some (.ref fa)) (Z : Blt mg) :
    Df P w K mg base "_law_named" ["order"] 1 c__law_named := by
  have b__law_named : Binds K fd ["order"] [] := F.binds fun _ _ _ _ _ _ us hl => match us, hl with | [_], _ => rfl
  refine ⟨fa, fd, def_ok F sc__law_named rfl rfl (by decide) fun cdv A outer s H E hr => ?_, b__law_named, F.kp, gf⟩
  exact ⟨_, (pss_cons (ps_set (i := 1) sc__law_named.nd rfl (by first | exact Or.inl rfl | exact Or.inr rfl) (pe_lst pa_nil))
    (pss_cons (ps_for PassesOwn.never (by rfl) (pi_any (pv 0)) (pg_name (i := 2) sc__law_named.nd rfl (by first | exact Or.inl rfl | exact Or.inr rfl))
    (pss_one (ps_if (pt_cmpR (or_notIn (hu65 hr)) (pv 2) (pv 1) (by rfl))
    (pss_one (ps_expr (pe_bm PySem.F.plainAttrs_list PySem.F.slot_list_append PySem.F.type_list_append mt_append (pv 1) (pa_cons (pv 2) pa_nil))))
    pss_nil)))
    (pss_one (ps_ret (pe_lc (own := [("colour", 2)]) (by rfl) sc__law_named.nd (pi_any (pv 0)) (blkOk_by (N := n__law_named) (sc := defScope s__law_named) (by decide +kernel)) (fun _ _ _ _ _ => (pg_name (i := 2) sc__law_named.nd rfl (by first | exact Or.inl rfl | exact Or.inr rfl))) (fun _ _ _ _ _ => pts_nil) (fun _ _ _ _ _ => (pe_bm PySem.F.plainAttrs_list PySem.F.slot_list_index PySem.F.type_list_index (mt_indexD (hu65 hr)) (pv 1) (pa_cons (pv 2) pa_nil)))))))),
    (snds_seq (snds_own (i := 1) (snd_lst snd_nil))
    (snds_seq (snds_for (ks := []) (sndi_any snd_var) (sndg_name (i := 2))
    (snds_ite (snd_tT (snd_op sop_notIn snd_var snd_var))
    (snds_drop (snd_mut smu_append (snd_cons snd_var snd_nil)))
    snds_nil))
    (snds_ret (snd_lc (is := [2]) (sndi_any snd_var) (sndg_name (i := 2)) sndt_yes (snd_mt smt_index snd_var (snd_cons snd_var snd_nil)) (by decide)))))⟩
/-! ### _law_mixed -/
abbrev s__law_mixed : Stmt := topS 16
abbrev n__law_mixed : List Str := ["number", "place", "first", "second", "third"]
theorem sc__law_mixed : FnScope n__law_mixed ["number", "place"] (defScope s__law_mixed) := ⟨rfl, rfl, rfl, by decide +kernel, rfl, by decide +kernel, by decide +kernel⟩
def p__law_mixed_1 : SF := (S.set 2 (E.bin oMod (E.cb oInt (E.cons (E.bin oAdd (E.bin oAdd (E.bin oMul (E.var 0) (E.c (.int 48271))) (E.bin oMul (E.var 1) (E.c (.int 69621)))) (E.c (.int 11))) E.nil)) (E.c (.int 618970019642690137449562111))))
def p__law_mixed_2 : SF := (S.set 3 (E.bin oMod (E.cb oInt (E.cons (E.bin oAdd (E.bin oAdd (E.bin oMul (E.var 2) (E.var 2)) (E.bin oMul (E.c (.int 7)) (E.var 2))) (E.var 1)) E.nil)) (E.c (.int 162259276829213363391578010288127))))
def p__law_mixed_3 : SF := (S.set 4 (E.bin oMod (E.cb oInt (E.cons (E.bin oAdd (E.bin oMul (E.var 3) (E.var 3)) (E.var 2)) E.nil)) (E.c (.int 618970019642690137449562111))))
def p__law_mixed_4 : SF := (S.ret (E.bin oAdd (E.bin oMul (E.var 3) (E.c (.int 618970019642690137449562111))) (E.var 4)))
def b__law_mixed : SF := (S.seq p__law_mixed_1
    (S.seq p__law_mixed_2
    (S.seq p__law_mixed_3
    p__law_mixed_4)))
def c__law_mixed : CF := run 2 5 b__law_mixed
theorem d__law_mixed {fa : Addr} {fd : FuncData} (F : Fun K "_law_mixed" "_law_mixed" s__law_mixed fa fd) (gf : mg "_law_mixed" = some (.ref fa)) (Z : Blt mg) :
    Df P w K mg base "_law_mixed" ["number", "place"] 1 c__law_mixed := by
  have b__law_mixed : Binds K fd ["number", "place"] [] := F.binds fun _ _ _ _ _ _ us hl => match us, hl with | [_, _], _ => rfl
  refine ⟨fa, fd, def_ok F sc__law_mixed rfl rfl (by decide) fun cdv A outer s H E hr => ?_, b__law_mixed, F.kp, gf⟩
  exact ⟨_, (pss_cons (ps_set (i := 2) sc__law_mixed.nd rfl (by first | exact Or.inl rfl | exact Or.inr rfl) (pe_op op_modN (pe_callTy cr_int (by rfl) Z.z_int (by decide +kernel) (pa_cons (pe_op or_add (pe_op or_add (pe_op or_mul (pv 0) pe_int) (pe_op or_mul (pv 1) pe_int)) pe_int) pa_nil)) pe_int))
    (pss_cons (ps_set (i := 3) sc__law_mixed.nd rfl (by first | exact Or.inl rfl | exact Or.inr rfl) (pe_op op_modN (pe_callTy cr_int (by rfl) Z.z_int (by decide +kernel) (pa_cons (pe_op or_add (pe_op or_add (pe_op or_mul (pv 2) (pv 2)) (pe_op or_mul pe_int (pv 2))) (pv 1)) pa_nil)) pe_int))
    (pss_cons (ps_set (i := 4) sc__law_mixed.nd rfl (by first | exact Or.inl rfl | exact Or.inr rfl) (pe_op op_modN (pe_callTy cr_int (by rfl) Z.z_int (by decide +kernel) (pa_cons (pe_op or_add (pe_op or_mul (pv 3) (pv 3)) (pv 2)) pa_nil)) pe_int))
    (pss_one (ps_ret (pe_op or_add (pe_op or_mul (pv 3) pe_int) (pv 4))))))),
    (snds_seq (snds_set (i := 2) (snd_op sop_mod (snd_cb scb_int (snd_cons (snd_op sop_add (snd_op sop_add (snd_op sop_mul snd_var snd_int) (snd_op sop_mul snd_var snd_int)) snd_int) snd_nil)) snd_int))
    (snds_seq (snds_set (i := 3) (snd_op sop_mod (snd_cb scb_int (snd_cons (snd_op sop_add (snd_op sop_add (snd_op sop_mul snd_var snd_var) (snd_op sop_mul snd_int snd_var)) snd_var) snd_nil)) snd_int))
    (snds_seq (snds_set (i := 4) (snd_op sop_mod (snd_cb scb_int (snd_cons (snd_op sop_add (snd_op sop_mul snd_var snd_var) snd_var) snd_nil)) snd_int))
    (snds_ret (snd_op sop_add (snd_op sop_mul snd_var snd_int) snd_var)))))⟩
/-! ### _law_rest -/
abbrev s__law_rest : Stmt := topS 17
abbrev n__law_rest : List Str := ["script", "place", "fills", "number"]
theorem sc__law_rest : FnScope n__law_rest ["script", "place", "fills"] (defScope s__law_rest) := ⟨rfl, rfl, rfl, by decide +kernel, rfl, by decide +kernel, by decide +kernel⟩
def p__law_rest_3 : SF := (S.set 3 (E.cb oInt (E.cons (E.bin oIx (E.var 0) (E.bin oMod (E.cb oInt (E.cons (E.var 1) E.nil)) (E.cb oLen (E.cons (E.var 0) E.nil)))) E.nil)))
def p__law_rest_5 : SF := (S.set 3 (E.bin oSub (E.c (.int 1)) (E.bin oMul (E.c (.int 2)) (E.var 3))))
def p__law_rest_7 : SF := (S.ret (E.bin oSub (E.var 3) (E.bin oPow (E.c (.int 10)) (E.c (.int 18)))))
def p__law_rest_1 : SF := (S.set 3 (E.c (.int 0)))
def p__law_rest_2 : SF := (S.ite (T.ofE (E.bin oGt (E.cb oLen (E.cons (E.var 0) E.nil)) (E.c (.int 0))))
    p__law_rest_3
    S.nil)
def p__law_rest_4 : SF := (S.ite (T.ofE (E.bin oLt (E.var 3) (E.c (.int 0))))
    p__law_rest_5
    S.nil)
def p__law_rest_6 : SF := (S.ite (T.and (T.ofE (E.bin oEq (E.var 2) (E.c (.int 0)))) (T.and (T.ofE (E.bin oLt (E.var 1) (E.cb oLen (E.cons (E.var 0) E.nil)))) (T.ofE (E.bin oGe (E.var 3) (E.bin oPow (E.c (.int 10)) (E.c (.int 18)))))))
    p__law_rest_7
    S.nil)
def p__law_rest_8 : SF := (S.ret (E.call [false, false] c__law_mixed (E.cons (E.bin oAdd (E.var 3) (E.bin oMul (E.var 2) (E.c (.int 1000003)))) (E.cons (E.var 1) E.nil))))
def b__law_rest : SF := (S.seq p__law_rest_1
    (S.seq p__law_rest_2
    (S.seq p__law_rest_4
    (S.seq p__law_rest_6
    p__law_rest_8))))
def c__law_rest : CF := run 3 4 b__law_rest
theorem d__law_rest {fa : Addr} {fd : FuncData} (F : Fun K "_law_rest" "_law_rest" s__law_rest fa fd) (gf : mg "_law_rest" = some (.ref fa)) (Z : Blt mg)
    (D__law_mixed : Df P w K mg base "_law_mixed" ["number", "place"] 1 c__law_mixed) :
    Df P w K mg base "_law_rest" ["script", "place", "fills"] 2 c__law_rest := by
  obtain ⟨_, _, G__law_mixed, b__law_mixed, k__law_mixed, g__law_mixed⟩ := D__law_mixed
  have b__law_rest : Binds K fd ["script", "place", "fills"] [] := F.binds fun _ _ _ _ _ _ us hl => match us, hl with | [_, _, _], _ => rfl
  refine ⟨fa, fd, def_ok F sc__law_rest rfl rfl (by decide) fun cdv A outer s H E hr => ?_, b__law_rest, F.kp, gf⟩
  exact ⟨_, (pss_cons (ps_set (i := 3) sc__law_rest.nd rfl (by first | exact Or.inl rfl | exact Or.inr rfl) pe_int)
    (pss_cons (ps_if (pt_cmpR op_gt (pe_callB cr_len (by rfl) Z.z_len (by decide +kernel) (pa_cons (pv 0) pa_nil)) pe_int (nomark _))
    (pss_one (ps_set (i := 3) sc__law_rest.nd rfl (by first | exact Or.inl rfl | exact Or.inr rfl) (pe_callTy cr_int (by rfl) Z.z_int (by decide +kernel) (pa_cons (pe_ix (or_ix (hu1 hr)) (pv 0) (pe_op op_modN (pe_callTy cr_int (by rfl) Z.z_int (by decide +kernel) (pa_cons (pv 1) pa_nil)) (pe_callB cr_len (by rfl) Z.z_len (by decide +kernel) (pa_cons (pv 0) pa_nil))) (fun _ _ => rfl)) pa_nil))))
    pss_nil)
    (pss_cons (ps_if (pt_cmpR or_lt (pv 3) pe_int (nomark _))
    (pss_one (ps_set (i := 3) sc__law_rest.nd rfl (by first | exact Or.inl rfl | exact Or.inr rfl) (pe_op op_sub pe_int (pe_op or_mul pe_int (pv 3)))))
    pss_nil)
    (pss_cons (ps_if (PW.pt (pw_and (pt_cmpR (op_eqD (hu64 hr)) (pv 2) pe_int (nomark _)) (pw_and (pt_cmpR or_lt (pv 1) (pe_callB cr_len (by rfl) Z.z_len (by decide +kernel) (pa_cons (pv 0) pa_nil)) (nomark _)) (pw_and1 (pt_cmpR op_ge (pv 3) (pe_op op_pow pe_int pe_int) (nomark _))))))
    (pss_one (ps_ret (pe_op op_sub (pv 3) (pe_op op_pow pe_int pe_int))))
    pss_nil)
    (pss_one (ps_ret (pe_call G__law_mixed (hr.mono (by decide)) (by rfl) g__law_mixed k__law_mixed b__law_mixed .nil pass0 (pa_cons (pe_op or_add (pv 3) (pe_op or_mul (pv 2) pe_int)) (pa_cons (pv 1) pa_nil))))))))),
    (snds_seq (snds_set (i := 3) snd_int)
    (snds_seq (snds_ite (snd_tT (snd_op sop_gt (snd_cb scb_len (snd_cons snd_var snd_nil)) snd_int))
    (snds_set (i := 3) (snd_cb scb_int (snd_cons (snd_op sop_ix snd_var (snd_op sop_mod (snd_cb scb_int (snd_cons snd_var snd_nil)) (snd_cb scb_len (snd_cons snd_var snd_nil)))) snd_nil)))
    snds_nil)
    (snds_seq (snds_ite (snd_tT (snd_op sop_lt snd_var snd_int))
    (snds_set (i := 3) (snd_op sop_sub snd_int (snd_op sop_mul snd_int snd_var)))
    snds_nil)
    (snds_seq (snds_ite (snd_tand (snd_tT (snd_op sop_eq snd_var snd_int)) (snd_tand (snd_tT (snd_op sop_lt snd_var (snd_cb scb_len (snd_cons snd_var snd_nil)))) (snd_tT (snd_op sop_ge snd_var (snd_op sop_pow snd_int snd_int)))))
    (snds_ret (snd_op sop_sub snd_var (snd_op sop_pow snd_int snd_int)))
    snds_nil)
    (snds_ret (snd_call (ms := [false, false]) (snd_cons (snd_op sop_add snd_var (snd_op sop_mul snd_var snd_int)) (snd_cons snd_var snd_nil))))))))⟩
/-! ### _law_pool -/
abbrev s__law_pool : Stmt := topS 18
abbrev n__law_pool : List Str := ["script"]
theorem sc__law_pool : FnScope n__law_pool ["script"] (defScope s__law_pool) := ⟨rfl, rfl, rfl, by decide +kernel, rfl, by decide +kernel, by decide +kernel⟩
def p__law_pool_1 : SF := (S.ret (E.lst (E.cons (E.var 0) (E.cons (E.c (.int 0)) (E.cons (E.call [false, false, false] c__law_rest (E.cons (E.var 0) (E.cons (E.c (.int 0)) (E.cons (E.c (.int 0)) E.nil)))) (E.cons (E.c (.int 0)) E.nil))))))
def b__law_pool : SF := p__law_pool_1
def c__law_pool : CF := run 1 1 b__law_pool
theorem d__law_pool {fa : Addr} {fd : FuncData} (F : Fun K "_law_pool" "_law_pool" s__law_pool fa fd) (gf : mg "_law_pool" = some (.ref fa)) (Z : Blt mg)
    (D__law_rest : Df P w K mg base "_law_rest" ["script", "place", "fills"] 2 c__law_rest) :
    Df P w K mg base "_law_pool" ["script"] 3 c__law_pool := by
  obtain ⟨_, _, G__law_rest, b__law_rest, k__law_rest, g__law_rest⟩ := D__law_rest
  have b__law_pool : Binds K fd ["script"] [] := F.binds fun _ _ _ _ _ _ us hl => match us, hl with | [_], _ => rfl
  refine ⟨fa, fd, def_ok F sc__law_pool rfl rfl (by decide) fun cdv A outer s H E hr => ?_, b__law_pool, F.kp, gf⟩
  exact ⟨_, (pss_one (ps_ret (pe_lst (pa_cons (pv 0) (pa_cons pe_int (pa_cons (pe_call G__law_rest (hr.mono (by decide)) (by rfl) g__law_rest k__law_rest b__law_rest .nil pass0 (pa_cons (pv 0) (pa_cons pe_int (pa_cons pe_int pa_nil)))) (pa_cons pe_int pa_nil))))))),
    (snds_ret (snd_lst (snd_cons snd_var (snd_cons snd_int (snd_cons (snd_call (ms := [false, false, false]) (snd_cons snd_var (snd_cons snd_int (snd_cons snd_int snd_nil)))) (snd_cons snd_int snd_nil))))))⟩
/-! ### _law_next -/
abbrev s__law_next : Stmt := topS 19
abbrev n__law_next : List Str := ["pool"]
theorem sc__law_next : FnScope n__law_next ["pool"] (defScope s__law_next) := ⟨rfl, rfl, rfl, by decide +kernel, rfl, by decide +kernel, by decide +kernel⟩
def p__law_next_1 : SF := (S.asg (G.sub 0 (E.c (.int 1))) (E.bin oAdd (E.bin oIx (E.var 0) (E.c (.int 1))) (E.c (.int 1))))
def p__law_next_2 : SF := (S.asg (G.sub 0 (E.c (.int 2))) (E.call [false, false, false] c__law_rest (E.cons (E.bin oIx (E.var 0) (E.c (.int 0))) (E.cons (E.bin oIx (E.var 0) (E.c (.int 1))) (E.cons (E.c (.int 0)) E.nil)))))
def p__law_next_3 : SF := (S.asg (G.sub 0 (E.c (.int 3))) (E.c (.int 0)))
def b__law_next : SF := (S.seq p__law_next_1
    (S.seq p__law_next_2
    p__law_next_3))
def c__law_next : CF := run 1 1 b__law_next
theorem d__law_next {fa : Addr} {fd : FuncData} (F : Fun K "_law_next" "_law_next" s__law_next fa fd) (gf : mg "_law_next" = some (.ref fa)) (Z : Blt mg)
    (D__law_rest : Df P w K mg base "_law_rest" ["script", "place", "fills"] 2 c__law_rest) :
    Df P w K mg base "_law_next" ["pool"] 3 c__law_next := by
  obtain ⟨_, _, G__law_rest, b__law_rest, k__law_rest, g__law_rest⟩ := D__law_rest
  have b__law_next : Binds K fd ["pool"] [] := F.binds fun _ _ _ _ _ _ us hl => match us, hl with | [_], _ => rfl
  refine ⟨fa, fd, def_ok F sc__law_next rfl rfl (by decide) fun cdv A outer s H E hr => ?_, b__law_next, F.kp, gf⟩
  exact ⟨_, (pss_cons (ps_asg (pe_op or_add (pe_ix (or_ix (hu1 hr)) (pv 0) pe_int (fun _ _ => rfl)) pe_int) (pg_sub (pv 0) pe_int (set_any (hu1 hr))))
    (pss_cons (ps_asg (pe_call G__law_rest (hr.mono (by decide)) (by rfl) g__law_rest k__law_rest b__law_rest .nil pass0 (pa_cons (pe_ix (or_ix (hu1 hr)) (pv 0) pe_int (fun _ _ => rfl)) (pa_cons (pe_ix (or_ix (hu1 hr)) (pv 0) pe_int (fun _ _ => rfl)) (pa_cons pe_int pa_nil)))) (pg_sub (pv 0) pe_int (set_any (hu1 hr))))
    (pss_one (ps_asg pe_int (pg_sub (pv 0) pe_int (set_any (hu1 hr))))))),
    (snds_seq (snds_asg (sndg_sub (j := 0) snd_int) (snd_op sop_add (snd_op sop_ix snd_var snd_int) snd_int))
    (snds_seq (snds_asg (sndg_sub (j := 0) snd_int) (snd_call (ms := [false, false, false]) (snd_cons (snd_op sop_ix snd_var snd_int) (snd_cons (snd_op sop_ix snd_var snd_int) (snd_cons snd_int snd_nil)))))
    (snds_asg (sndg_sub (j := 0) snd_int) snd_int)))⟩
/-! ### _law_draw -/
abbrev s__law_draw : Stmt := topS 20
abbrev n__law_draw : List Str := ["pool", "limit", "value"]
theorem sc__law_draw : FnScope n__law_draw ["pool", "limit"] (defScope s__law_draw) := ⟨rfl, rfl, rfl, by decide +kernel, rfl, by decide +kernel, by decide +kernel⟩
def p__law_draw_2 : SF := (S.asg (G.sub 0 (E.c (.int 3))) (E.bin oAdd (E.bin oIx (E.var 0) (E.c (.int 3))) (E.c (.int 1))))
def p__law_draw_3 : SF := (S.asg (G.sub 0 (E.c (.int 2))) (E.call [false, false, false] c__law_rest (E.cons (E.bin oIx (E.var 0) (E.c (.int 0))) (E.cons (E.bin oIx (E.var 0) (E.c (.int 1))) (E.cons (E.bin oIx (E.var 0) (E.c (.int 3))) E.nil)))))
def p__law_draw_1 : SF := (S.ite (T.ofE (E.bin oLe (E.bin oIx (E.var 0) (E.c (.int 2))) (E.c (.int 1))))
    (S.seq p__law_draw_2
    p__law_draw_3)
    S.nil)
def p__law_draw_4 : SF := (S.set 2 (E.bin oMod (E.cb oInt (E.cons (E.bin oIx (E.var 0) (E.c (.int 2))) E.nil)) (E.var 1)))
def p__law_draw_5 : SF := (S.asg (G.sub 0 (E.c (.int 2))) (E.bin oDiv (E.cb oInt (E.cons (E.bin oIx (E.var 0) (E.c (.int 2))) E.nil)) (E.var 1)))
def p__law_draw_6 : SF := (S.ret (E.var 2))
def b__law_draw : SF := (S.seq p__law_draw_1
    (S.seq p__law_draw_4
    (S.seq p__law_draw_5
    p__law_draw_6)))
def c__law_draw : CF := run 2 3 b__law_draw
theorem d__law_draw {fa : Addr} {fd : FuncData} (F : Fun K "_law_draw" "_law_draw" s__law_draw fa fd) (gf : mg "_law_draw" = some (.ref fa)) (Z : Blt mg)
    (D__law_rest : Df P w K mg base "_law_rest" ["script", "place", "fills"] 2 c__law_rest) :
    Df P w K mg base "_law_draw" ["pool", "limit"] 3 c__law_draw := by
  obtain ⟨_, _, G__law_rest, b__law_rest, k__law_rest, g__law_rest⟩ := D__law_rest
  have b__law_draw : Binds K fd ["pool", "limit"] [] := F.binds fun _ _ _ _ _ _ us hl => match us, hl with | [_, _], _ => rfl
  refine ⟨fa, fd, def_ok F sc__law_draw rfl rfl (by decide) fun cdv A outer s H E hr => ?_, b__law_draw, F.kp, gf⟩
  exact ⟨_, (pss_cons (ps_if (pt_cmpR op_le (pe_ix (or_ix (hu1 hr)) (pv 0) pe_int (fun _ _ => rfl)) pe_int (nomark _))
    (pss_cons (ps_asg (pe_op or_add (pe_ix (or_ix (hu1 hr)) (pv 0) pe_int (fun _ _ => rfl)) pe_int) (pg_sub (pv 0) pe_int (set_any (hu1 hr))))
    (pss_one (ps_asg (pe_call G__law_rest (hr.mono (by decide)) (by rfl) g__law_rest k__law_rest b__law_rest .nil pass0 (pa_cons (pe_ix (or_ix (hu1 hr)) (pv 0) pe_int (fun _ _ => rfl)) (pa_cons (pe_ix (or_ix (hu1 hr)) (pv 0) pe_int (fun _ _ => rfl)) (pa_cons (pe_ix (or_ix (hu1 hr)) (pv 0) pe_int (fun _ _ => rfl)) pa_nil)))) (pg_sub (pv 0) pe_int (set_any (hu1 hr))))))
    pss_nil)
    (pss_cons (ps_set (i := 2) sc__law_draw.nd rfl (by first | exact Or.inl rfl | exact Or.inr rfl) (pe_op op_modN (pe_callTy cr_int (by rfl) Z.z_int (by decide +kernel) (pa_cons (pe_ix (or_ix (hu1 hr)) (pv 0) pe_int (fun _ _ => rfl)) pa_nil)) (pv 1)))
    (pss_cons (ps_asg (pe_op op_fdivN (pe_callTy cr_int (by rfl) Z.z_int (by decide +kernel) (pa_cons (pe_ix (or_ix (hu1 hr)) (pv 0) pe_int (fun _ _ => rfl)) pa_nil)) (pv 1)) (pg_sub (pv 0) pe_int (set_any (hu1 hr))))
    (pss_one (ps_ret (pv 2)))))),
    (snds_seq (snds_ite (snd_tT (snd_op sop_le (snd_op sop_ix snd_var snd_int) snd_int))
    (snds_seq (snds_asg (sndg_sub (j := 0) snd_int) (snd_op sop_add (snd_op sop_ix snd_var snd_int) snd_int))
    (snds_asg (sndg_sub (j := 0) snd_int) (snd_call (ms := [false, false, false]) (snd_cons (snd_op sop_ix snd_var snd_int) (snd_cons (snd_op sop_ix snd_var snd_int) (snd_cons (snd_op sop_ix snd_var snd_int) snd_nil))))))
    snds_nil)
    (snds_seq (snds_set (i := 2) (snd_op sop_mod (snd_cb scb_int (snd_cons (snd_op sop_ix snd_var snd_int) snd_nil)) snd_var))
    (snds_seq (snds_asg (sndg_sub (j := 0) snd_int) (snd_op sop_div (snd_cb scb_int (snd_cons (snd_op sop_ix snd_var snd_int) snd_nil)) snd_var))
    (snds_ret snd_var))))⟩
/-! ### _law_pick -/
abbrev s__law_pick : Stmt := topS 21
abbrev n__law_pick : List Str := ["pool", "options"]
theorem sc__law_pick : FnScope n__law_pick ["pool", "options"] (defScope s__law_pick) := ⟨rfl, rfl, rfl, by decide +kernel, rfl, by decide +kernel, by decide +kernel⟩
def p__law_pick_1 : SF := (S.ret (E.bin oIx (E.var 1) (E.call [true, false] c__law_draw (E.cons (E.var 0) (E.cons (E.cb oLen (E.cons (E.var 1) E.nil)) E.nil)))))
def b__law_pick : SF := p__law_pick_1
def c__law_pick : CF := run 2 2 b__law_pick
theorem d__law_pick {fa : Addr} {fd : FuncData} (F : Fun K "_law_pick" "_law_pick" s__law_pick fa fd) (gf : mg "_law_pick" = some (.ref fa)) (Z : Blt mg)
    (D__law_draw : Df P w K mg base "_law_draw" ["pool", "limit"] 3 c__law_draw) :
    Df P w K mg base "_law_pick" ["pool", "options"] 4 c__law_pick := by
  obtain ⟨_, _, G__law_draw, b__law_draw, k__law_draw, g__law_draw⟩ := D__law_draw
  have b__law_pick : Binds K fd ["pool", "options"] [] := F.binds fun _ _ _ _ _ _ us hl => match us, hl with | [_, _], _ => rfl
  refine ⟨fa, fd, def_ok F sc__law_pick rfl rfl (by decide) fun cdv A outer s H E hr => ?_, b__law_pick, F.kp, gf⟩
  exact ⟨_, (pss_one (ps_ret (pe_ix (or_ix (hu1 hr)) (pv 1) (pe_call G__law_draw (hr.mono (by decide)) (by rfl) g__law_draw k__law_draw b__law_draw .nil pass0 (pa_cons (pv 0) (pa_cons (pe_callB cr_len (by rfl) Z.z_len (by decide +kernel) (pa_cons (pv 1) pa_nil)) pa_nil))) (fun _ _ => rfl)))),
    (snds_ret (snd_op sop_ix snd_var (snd_call (ms := [true, false]) (snd_cons snd_var (snd_cons (snd_cb scb_len (snd_cons snd_var snd_nil)) snd_nil)))))⟩
/-! ### _law_order_of -/
abbrev s__law_order_of : Stmt := topS 22
abbrev n__law_order_of : List Str := ["pool", "most", "colours", "n", "order", "part", "k"]
theorem sc__law_order_of : FnScope n__law_order_of ["pool", "most", "colours"] (defScope s__law_order_of) := ⟨rfl, rfl, rfl, by decide +kernel, rfl, by decide +kernel, by decide +kernel⟩
def p__law_order_of_4 : SF := (S.set 5 (E.slice oSl (E.var 4) E.noPart (E.part (E.bin oAdd (E.c (.int 1)) (E.call [true, false] c__law_draw (E.cons (E.var 0) (E.cons (E.var 3) E.nil)))))))
def p__law_order_of_5 : SF := (S.set 4 (E.slice oSl (E.bin oMul (E.var 5) (E.var 3)) E.noPart (E.part (E.bin oSub (E.var 3) (E.bin oMod (E.cb oInt (E.cons (E.var 3) E.nil)) (E.cb oLen (E.cons (E.var 5) E.nil)))))))
def p__law_order_of_1 : SF := (S.set 3 (E.bin oAdd (E.c (.int 1)) (E.call [true, false] c__law_draw (E.cons (E.var 0) (E.cons (E.var 1) E.nil)))))
def p__law_order_of_2 : SF := (S.set 4 (E.lc [6] (I.rng1 (E.var 3)) (G.name 6) T.yes (E.call [true, false] c__law_draw (E.cons (E.var 0) (E.cons (E.var 2) E.nil)))))
def p__law_order_of_3 : SF := (S.ite (T.ofE (E.bin oEq (E.call [true, false] c__law_draw (E.cons (E.var 0) (E.cons (E.c (.int 3)) E.nil))) (E.c (.int 0))))
    (S.seq p__law_order_of_4
    p__law_order_of_5)
    S.nil)
def p__law_order_of_6 : SF := (S.ret (E.var 4))
def b__law_order_of : SF := (S.seq p__law_order_of_1
    (S.seq p__law_order_of_2
    (S.seq p__law_order_of_3
    p__law_order_of_6)))
def c__law_order_of : CF := run 3 7 b__law_order_of
theorem d__law_order_of {fa : Addr} {fd : FuncData} (F : Fun K "_law_order_of" "_law_order_of" s__law_order_of fa fd) (gf : mg "_law_order_of" = some (.ref fa)) (Z : Blt mg)
    (D__law_draw : Df P w K mg base "_law_draw" ["pool", "limit"] 3 c__law_draw) :
    Df P w K mg base "_law_order_of" ["pool", "most", "colours"] 4 c__law_order_of := by
  obtain ⟨_, _, G__law_draw, b__law_draw, k__law_draw, g__law_draw⟩ := D__law_draw
  have b__law_order_of : Binds K fd ["pool", "most", "colours"] [] := F.binds fun _ _ _ _ _ _ us hl => match us, hl with | [_, _, _], _ => rfl
  refine ⟨fa, fd, def_ok F sc__law_order_of rfl rfl (by decide) fun cdv A outer s H E hr => ?_, b__law_order_of, F.kp, gf⟩
  exact ⟨_, (pss_cons (ps_set (i := 3) sc__law_order_of.nd rfl (by first | exact Or.inl rfl | exact Or.inr rfl) (pe_op or_add pe_int (pe_call G__law_draw (hr.mono (by decide)) (by rfl) g__law_draw k__law_draw b__law_draw .nil pass0 (pa_cons (pv 0) (pa_cons (pv 1) pa_nil)))))
    (pss_cons (ps_setLc (i := 4) (own := [("k", 6)]) (by rfl) sc__law_order_of.nd rfl rfl (sw_true rfl rfl rfl (by decide +kernel)) (pi_range1 (by rfl) Z.z_range (pa_cons (pv 3) pa_nil)) (blkOk_by (N := n__law_order_of) (sc := defScope s__law_order_of) (by decide +kernel)) (fun _ _ _ _ _ => (pg_name (i := 6) sc__law_order_of.nd rfl (by first | exact Or.inl rfl | exact Or.inr rfl))) (fun _ _ _ _ _ => pts_nil) (fun _ _ _ _ _ => (pe_call G__law_draw (hr.mono (by decide)) (by rfl) g__law_draw k__law_draw b__law_draw .nil pass0 (pa_cons (pv 0) (pa_cons (pv 2) pa_nil)))))
    (pss_cons (ps_if (pt_cmpR (op_eqD (hu64 hr)) (pe_call G__law_draw (hr.mono (by decide)) (by rfl) g__law_draw k__law_draw b__law_draw .nil pass0 (pa_cons (pv 0) (pa_cons pe_int pa_nil))) pe_int (nomark _))
    (pss_cons (ps_set (i := 5) sc__law_order_of.nd rfl (by first | exact Or.inl rfl | exact Or.inr rfl) (pe_slice sl_all (pv 4) po_none (po_some (pe_op or_add pe_int (pe_call G__law_draw (hr.mono (by decide)) (by rfl) g__law_draw k__law_draw b__law_draw .nil pass0 (pa_cons (pv 0) (pa_cons (pv 3) pa_nil)))))))
    (pss_one (ps_set (i := 4) sc__law_order_of.nd rfl (by first | exact Or.inl rfl | exact Or.inr rfl) (pe_slice sl_all (pe_op or_mul (pv 5) (pv 3)) po_none (po_some (pe_op op_sub (pv 3) (pe_op op_modN (pe_callTy cr_int (by rfl) Z.z_int (by decide +kernel) (pa_cons (pv 3) pa_nil)) (pe_callB cr_len (by rfl) Z.z_len (by decide +kernel) (pa_cons (pv 5) pa_nil)))))))))
    pss_nil)
    (pss_one (ps_ret (pv 4)))))),
    (snds_seq (snds_set (i := 3) (snd_op sop_add snd_int (snd_call (ms := [true, false]) (snd_cons snd_var (snd_cons snd_var snd_nil)))))
    (snds_seq (snds_set (i := 4) (snd_lc (is := [6]) (sndi_rng1 snd_var) (sndg_name (i := 6)) sndt_yes (snd_call (ms := [true, false]) (snd_cons snd_var (snd_cons snd_var snd_nil))) (by decide)))
    (snds_seq (snds_ite (snd_tT (snd_op sop_eq (snd_call (ms := [true, false]) (snd_cons snd_var (snd_cons snd_int snd_nil))) snd_int))
    (snds_seq (snds_set (i := 5) (snd_slice (@ssl_all _) snd_var snd_noPart (snd_part (snd_op sop_add snd_int (snd_call (ms := [true, false]) (snd_cons snd_var (snd_cons snd_var snd_nil)))))))
    (snds_set (i := 4) (snd_slice (@ssl_all _) (snd_op sop_mul snd_var snd_var) snd_noPart (snd_part (snd_op sop_sub snd_var (snd_op sop_mod (snd_cb scb_int (snd_cons snd_var snd_nil)) (snd_cb scb_len (snd_cons snd_var snd_nil))))))))
    snds_nil)
    (snds_ret snd_var))))⟩
/-! ### _law_same -/
abbrev s__law_same : Stmt := topS 23
abbrev n__law_same : List Str := ["actual", "due", "k", "key"]
theorem sc__law_same : FnScope n__law_same ["actual", "due"] (defScope s__law_same) := ⟨rfl, rfl, rfl, by decide +kernel, rfl, by decide +kernel, by decide +kernel⟩
def p__law_same_2 (c__law_same' : CF) : SF := (S.ret (E.bin oIsN (E.var 0) (E.c .non)))
def p__law_same_4 (c__law_same' : CF) : SF := (S.ret (E.bin oIsB (E.var 0) (E.c (.bl true))))
def p__law_same_6 (c__law_same' : CF) : SF := (S.ret (E.bin oIsB (E.var 0) (E.c (.bl false))))
def p__law_same_8 (c__law_same' : CF) : SF := (S.ret (E.and (E.isi .int (E.var 0)) (E.and (E.not (E.isi .bool (E.var 0))) (E.bin oEq (E.var 0) (E.var 1)))))
def p__law_same_10 (c__law_same' : CF) : SF := (S.ret (E.and (E.isi .str (E.var 0)) (E.bin oEq (E.var 0) (E.var 1))))
def p__law_same_13 (c__law_same' : CF) : SF := (S.ret (E.c (.bl false)))
def p__law_same_12 (c__law_same' : CF) : SF := (S.ite (T.or (T.not (T.tru (E.isi .dict (E.var 0)))) (T.ofE (E.bin oNe (E.cb oLen (E.cons (E.var 0) E.nil)) (E.cb oLen (E.cons (E.var 1) E.nil)))))
    (p__law_same_13 c__law_same')
    S.nil)
def p__law_same_14 (c__law_same' : CF) : SF := S.never
def p__law_same_17 (c__law_same' : CF) : SF := (S.ret (E.c (.bl true)))
def p__law_same_19 (c__law_same' : CF) : SF := (S.ret (E.c (.bl false)))
def p__law_same_21 (c__law_same' : CF) : SF := (S.ret (E.c (.bl false)))
def p__law_same_24 (c__law_same' : CF) : SF := (S.ret (E.c (.bl false)))
def p__law_same_23 (c__law_same' : CF) : SF := (S.ite (T.not (T.tru (E.call [false, false] c__law_same' (E.cons (E.bin oIx (E.var 0) (E.var 2)) (E.cons (E.bin oIx (E.var 1) (E.var 2)) E.nil)))))
    (p__law_same_24 c__law_same')
    S.nil)
def p__law_same_1 (c__law_same' : CF) : SF := (S.ite (T.ofE (E.bin oIsN (E.var 1) (E.c .non)))
    (p__law_same_2 c__law_same')
    S.nil)
def p__law_same_3 (c__law_same' : CF) : SF := (S.ite (T.ofE (E.bin oIsB (E.var 1) (E.c (.bl true))))
    (p__law_same_4 c__law_same')
    S.nil)
def p__law_same_5 (c__law_same' : CF) : SF := (S.ite (T.ofE (E.bin oIsB (E.var 1) (E.c (.bl false))))
    (p__law_same_6 c__law_same')
    S.nil)
def p__law_same_7 (c__law_same' : CF) : SF := (S.ite (T.tru (E.isi .int (E.var 1)))
    (p__law_same_8 c__law_same')
    S.nil)
def p__law_same_9 (c__law_same' : CF) : SF := (S.ite (T.tru (E.isi .str (E.var 1)))
    (p__law_same_10 c__law_same')
    S.nil)
def p__law_same_11 (c__law_same' : CF) : SF := (S.ite (T.tru (E.isi .dict (E.var 1)))
    (S.seq (p__law_same_12 c__law_same')
    (S.seq (p__law_same_14 c__law_same')
    (p__law_same_17 c__law_same')))
    S.nil)
def p__law_same_18 (c__law_same' : CF) : SF := (S.ite (T.or (T.ofE (E.bin oNe (E.isi .tuple (E.var 0)) (E.isi .tuple (E.var 1)))) (T.ofE (E.bin oNe (E.isi .list (E.var 0)) (E.isi .list (E.var 1)))))
    (p__law_same_19 c__law_same')
    S.nil)
def p__law_same_20 (c__law_same' : CF) : SF := (S.ite (T.ofE (E.bin oNe (E.cb oLen (E.cons (E.var 0) E.nil)) (E.cb oLen (E.cons (E.var 1) E.nil))))
    (p__law_same_21 c__law_same')
    S.nil)
def p__law_same_22 (c__law_same' : CF) : SF := (S.for_ (I.rng1 (E.cb oLen (E.cons (E.var 1) E.nil))) (G.name 2) [2]
    (p__law_same_23 c__law_same'))
def p__law_same_25 (c__law_same' : CF) : SF := (S.ret (E.c (.bl true)))
def b__law_same (c__law_same' : CF) : SF := (S.seq (p__law_same_1 c__law_same')
    (S.seq (p__law_same_3 c__law_same')
    (S.seq (p__law_same_5 c__law_same')
    (S.seq (p__law_same_7 c__law_same')
    (S.seq (p__law_same_9 c__law_same')
    (S.seq (p__law_same_11 c__law_same')
    (S.seq (p__law_same_18 c__law_same')
    (S.seq (p__law_same_20 c__law_same')
    (S.seq (p__law_same_22 c__law_same')
    (p__law_same_25 c__law_same'))))))))))
def c__law_same : Nat → CF
  | 0 => fun _ => none
  | n + 1 => run 2 4 (b__law_same (c__law_same n))
theorem d__law_same {fa : Addr} {fd : FuncData} (F : Fun K "_law_same" "_law_same" s__law_same fa fd) (gf : mg "_law_same" = some (.ref fa)) (Z : Blt mg) :
    Df P w K mg base "_law_same" ["actual", "due"] 6 (c__law_same 6) := by
  have b__law_same : Binds K fd ["actual", "due"] [] := F.binds fun _ _ _ _ _ _ us hl => match us, hl with | [_, _], _ => rfl
  have k__law_same := F.kp
  have g__law_same := gf
  refine ⟨fa, fd, (rec_ok (L := 0) (fun _ => rfl) (fun n G__law_same => ?_) 6).mono (by decide), b__law_same, F.kp, gf⟩
  refine def_ok F sc__law_same rfl rfl (by decide) fun cdv A outer s H E hr => ?_
  exact ⟨_, (pss_cons (ps_if (pt_cmpR op_isN (pv 1) pe_non (nomark _))
    (pss_one (ps_ret (pe_cmpR op_isN (pv 0) pe_non (nomark _))))
    pss_nil)
    (pss_cons (ps_if (pt_cmpR or_isB (pv 1) pe_bl (nomark _))
    (pss_one (ps_ret (pe_cmpR or_isB (pv 0) pe_bl (nomark _))))
    pss_nil)
    (pss_cons (ps_if (pt_cmpR or_isB (pv 1) pe_bl (nomark _))
    (pss_one (ps_ret (pe_cmpR or_isB (pv 0) pe_bl (nomark _))))
    pss_nil)
    (pss_cons (ps_if (pt_truth (pe_callB cr_isi (by rfl) Z.z_isinstance (by decide +kernel) (pa_cons (pv 1) (pa_cons (pe_bltn (v := .ty "int") (by rfl) Z.z_int (by decide +kernel) rfl) pa_nil))) (by intro _; rfl))
    (pss_one (ps_ret (pe_and (pe_callB cr_isi (by rfl) Z.z_isinstance (by decide +kernel) (pa_cons (pv 0) (pa_cons (pe_bltn (v := .ty "int") (by rfl) Z.z_int (by decide +kernel) rfl) pa_nil))) (pe_and (pe_not (pe_callB cr_isi (by rfl) Z.z_isinstance (by decide +kernel) (pa_cons (pv 0) (pa_cons (pe_bltn (v := .ty "bool") (by rfl) Z.z_bool (by decide +kernel) rfl) pa_nil)))) (pe_one (pe_cmpR (op_eqD (hu64 hr)) (pv 0) (pv 1) (nomark _)))))))
    pss_nil)
    (pss_cons (ps_if (pt_truth (pe_callB cr_isi (by rfl) Z.z_isinstance (by decide +kernel) (pa_cons (pv 1) (pa_cons (pe_bltn (v := .ty "str") (by rfl) Z.z_str (by decide +kernel) rfl) pa_nil))) (by intro _; rfl))
    (pss_one (ps_ret (pe_and (pe_callB cr_isi (by rfl) Z.z_isinstance (by decide +kernel) (pa_cons (pv 0) (pa_cons (pe_bltn (v := .ty "str") (by rfl) Z.z_str (by decide +kernel) rfl) pa_nil))) (pe_one (pe_cmpR (op_eqD (hu64 hr)) (pv 0) (pv 1) (nomark _))))))
    pss_nil)
    (pss_cons (ps_if (pt_truth (pe_callB cr_isi (by rfl) Z.z_isinstance (by decide +kernel) (pa_cons (pv 1) (pa_cons (pe_bltn (v := .ty "dict") (by rfl) Z.z_dict (by decide +kernel) rfl) pa_nil))) (by intro _; rfl))
    (pss_cons (ps_if (PW.pt (pw_or (pt_not (pt_truth (pe_callB cr_isi (by rfl) Z.z_isinstance (by decide +kernel) (pa_cons (pv 0) (pa_cons (pe_bltn (v := .ty "dict") (by rfl) Z.z_dict (by decide +kernel) rfl) pa_nil))) (by intro _; rfl))) (pw_or1 (pt_cmpR (op_neD (hu64 hr)) (pe_callB cr_len (by rfl) Z.z_len (by decide +kernel) (pa_cons (pv 0) pa_nil)) (pe_callB cr_len (by rfl) Z.z_len (by decide +kernel) (pa_cons (pv 1) pa_nil)) (nomark _)))))
    (pss_one (ps_ret pe_bl))
    pss_nil)
    (pss_cons ps_never
    (pss_one (ps_ret pe_bl))))
    pss_nil)
    (pss_cons (ps_if (PW.pt (pw_or (pt_cmpR (op_neD (hu64 hr)) (pe_callB cr_isi (by rfl) Z.z_isinstance (by decide +kernel) (pa_cons (pv 0) (pa_cons (pe_bltn (v := .ty "tuple") (by rfl) Z.z_tuple (by decide +kernel) rfl) pa_nil))) (pe_callB cr_isi (by rfl) Z.z_isinstance (by decide +kernel) (pa_cons (pv 1) (pa_cons (pe_bltn (v := .ty "tuple") (by rfl) Z.z_tuple (by decide +kernel) rfl) pa_nil))) (nomark _)) (pw_or1 (pt_cmpR (op_neD (hu64 hr)) (pe_callB cr_isi (by rfl) Z.z_isinstance (by decide +kernel) (pa_cons (pv 0) (pa_cons (pe_bltn (v := .ty "list") (by rfl) Z.z_list (by decide +kernel) rfl) pa_nil))) (pe_callB cr_isi (by rfl) Z.z_isinstance (by decide +kernel) (pa_cons (pv 1) (pa_cons (pe_bltn (v := .ty "list") (by rfl) Z.z_list (by decide +kernel) rfl) pa_nil))) (nomark _)))))
    (pss_one (ps_ret pe_bl))
    pss_nil)
    (pss_cons (ps_if (pt_cmpR (op_neD (hu64 hr)) (pe_callB cr_len (by rfl) Z.z_len (by decide +kernel) (pa_cons (pv 0) pa_nil)) (pe_callB cr_len (by rfl) Z.z_len (by decide +kernel) (pa_cons (pv 1) pa_nil)) (nomark _))
    (pss_one (ps_ret pe_bl))
    pss_nil)
    (pss_cons (ps_for PassesOwn.never (by rfl) (pi_range1 (by rfl) Z.z_range (pa_cons (pe_callB cr_len (by rfl) Z.z_len (by decide +kernel) (pa_cons (pv 1) pa_nil)) pa_nil)) (pg_name (i := 2) sc__law_same.nd rfl (by first | exact Or.inl rfl | exact Or.inr rfl))
    (pss_one (ps_if (pt_not (pt_truth (pe_call G__law_same hr (by rfl) g__law_same k__law_same b__law_same .nil pass0 (pa_cons (pe_ix (or_ix (hu1 hr)) (pv 0) (pv 2) (fun _ _ => rfl)) (pa_cons (pe_ix (or_ix (hu1 hr)) (pv 1) (pv 2) (fun _ _ => rfl)) pa_nil))) (by intro _; rfl)))
    (pss_one (ps_ret pe_bl))
    pss_nil)))
    (pss_one (ps_ret pe_bl))))))))))),
    (snds_seq (snds_ite (snd_tT (snd_op sop_isN snd_var snd_non))
    (snds_ret (snd_op sop_isN snd_var snd_non))
    snds_nil)
    (snds_seq (snds_ite (snd_tT (snd_op sop_isB snd_var snd_bl))
    (snds_ret (snd_op sop_isB snd_var snd_bl))
    snds_nil)
    (snds_seq (snds_ite (snd_tT (snd_op sop_isB snd_var snd_bl))
    (snds_ret (snd_op sop_isB snd_var snd_bl))
    snds_nil)
    (snds_seq (snds_ite (snd_tru (snd_isi (T := .int) snd_var))
    (snds_ret (snd_and (snd_isi (T := .int) snd_var) (snd_and (snd_not (snd_isi (T := .bool) snd_var)) (snd_op sop_eq snd_var snd_var))))
    snds_nil)
    (snds_seq (snds_ite (snd_tru (snd_isi (T := .str) snd_var))
    (snds_ret (snd_and (snd_isi (T := .str) snd_var) (snd_op sop_eq snd_var snd_var)))
    snds_nil)
    (snds_seq (snds_ite (snd_tru (snd_isi (T := .dict) snd_var))
    (snds_seq (snds_ite (snd_tor (snd_tnot (snd_tru (snd_isi (T := .dict) snd_var))) (snd_tT (snd_op sop_ne (snd_cb scb_len (snd_cons snd_var snd_nil)) (snd_cb scb_len (snd_cons snd_var snd_nil)))))
    (snds_ret snd_bl)
    snds_nil)
    (snds_seq snds_never
    (snds_ret snd_bl)))
    snds_nil)
    (snds_seq (snds_ite (snd_tor (snd_tT (snd_op sop_ne (snd_isi (T := .tuple) snd_var) (snd_isi (T := .tuple) snd_var))) (snd_tT (snd_op sop_ne (snd_isi (T := .list) snd_var) (snd_isi (T := .list) snd_var))))
    (snds_ret snd_bl)
    snds_nil)
    (snds_seq (snds_ite (snd_tT (snd_op sop_ne (snd_cb scb_len (snd_cons snd_var snd_nil)) (snd_cb scb_len (snd_cons snd_var snd_nil))))
    (snds_ret snd_bl)
    snds_nil)
    (snds_seq (snds_for (ks := [2]) (sndi_rng1 (snd_cb scb_len (snd_cons snd_var snd_nil))) (sndg_name (i := 2))
    (snds_ite (snd_tnot (snd_tru (snd_call (ms := [false, false]) (snd_cons (snd_op sop_ix snd_var snd_var) (snd_cons (snd_op sop_ix snd_var snd_var) snd_nil)))))
    (snds_ret snd_bl)
    snds_nil))
    (snds_ret snd_bl))))))))))⟩
/-! ### _law_first_move -/
abbrev s__law_first_move : Stmt := topS 24
abbrev n__law_first_move : List Str := ["one", "other", "kind", "place", "back"]
theorem sc__law_first_move : FnScope n__law_first_move ["one", "other", "kind"] (defScope s__law_first_move) := ⟨rfl, rfl, rfl, by decide +kernel, rfl, by decide +kernel, by decide +kernel⟩
def p__law_first_move_4 : SF := (S.ret (E.tup (E.cons (E.var 3) (E.cons (E.var 4) E.nil))))
def p__law_first_move_3 : SF := (S.ite (T.ofE (E.bin oEq (E.call [false, false, false] c__law_begun (E.cons (E.var 0) (E.cons (E.var 3) (E.cons (E.var 4) E.nil)))) (E.var 1)))
    p__law_first_move_4
    S.nil)
def p__law_first_move_2 : SF := (S.for_ (I.any (E.ite (T.ofE (E.bin oEq (E.var 2) (E.c (.str "turned")))) (E.lst (E.cons (E.c (.bl false)) (E.cons (E.c (.bl true)) E.nil))) (E.lst (E.cons (E.c (.bl false)) E.nil)))) (G.name 4) [4]
    p__law_first_move_3)
def p__law_first_move_1 : SF := (S.for_ (I.rng1 (E.cb oLen (E.cons (E.var 0) E.nil))) (G.name 3) [3, 4]
    p__law_first_move_2)
def p__law_first_move_5 : SF := (S.ret (E.c .non))
def b__law_first_move : SF := (S.seq p__law_first_move_1
    p__law_first_move_5)
def c__law_first_move : CF := run 3 5 b__law_first_move
theorem d__law_first_move {fa : Addr} {fd : FuncData} (F : Fun K "_law_first_move" "_law_first_move" s__law_first_move fa fd) (gf : mg "_law_first_move" = some (.ref fa)) (Z : Blt mg)
    (D__law_begun : Df P w K mg base "_law_begun" ["order", "place", "back"] 1 c__law_begun) :
    Df P w K mg base "_law_first_move" ["one", "other", "kind"] 2 c__law_first_move := by
  obtain ⟨_, _, G__law_begun, b__law_begun, k__law_begun, g__law_begun⟩ := D__law_begun
  have b__law_first_move : Binds K fd ["one", "other", "kind"] [] := F.binds fun _ _ _ _ _ _ us hl => match us, hl with | [_, _, _], _ => rfl
  refine ⟨fa, fd, def_ok F sc__law_first_move rfl rfl (by decide) fun cdv A outer s H E hr => ?_, b__law_first_move, F.kp, gf⟩
  exact ⟨_, (pss_cons (ps_for PassesOwn.never (by rfl) (pi_range1 (by rfl) Z.z_range (pa_cons (pe_callB cr_len (by rfl) Z.z_len (by decide +kernel) (pa_cons (pv 0) pa_nil)) pa_nil)) (pg_name (i := 3) sc__law_first_move.nd rfl (by first | exact Or.inl rfl | exact Or.inr rfl))
    (pss_one (ps_for PassesOwn.never (by rfl) (pi_any (pe_ifExp (pt_cmpR (op_eqD (hu64 hr)) (pv 2) pe_str (nomark _)) (pe_lst (pa_cons pe_bl (pa_cons pe_bl pa_nil))) (pe_lst (pa_cons pe_bl pa_nil)))) (pg_name (i := 4) sc__law_first_move.nd rfl (by first | exact Or.inl rfl | exact Or.inr rfl))
    (pss_one (ps_if (pt_cmpR (op_eqD (hu64 hr)) (pe_call G__law_begun (hr.mono (by decide)) (by rfl) g__law_begun k__law_begun b__law_begun .nil pass0 (pa_cons (pv 0) (pa_cons (pv 3) (pa_cons (pv 4) pa_nil)))) (pv 1) (nomark _))
    (pss_one (ps_ret (pe_tup (pa_cons (pv 3) (pa_cons (pv 4) pa_nil)))))
    pss_nil)))))
    (pss_one (ps_ret pe_non))),
    (snds_seq (snds_for (ks := [3, 4]) (sndi_rng1 (snd_cb scb_len (snd_cons snd_var snd_nil))) (sndg_name (i := 3))
    (snds_for (ks := [4]) (sndi_any (snd_ite (snd_tT (snd_op sop_eq snd_var snd_str)) (snd_lst (snd_cons snd_bl (snd_cons snd_bl snd_nil))) (snd_lst (snd_cons snd_bl snd_nil)))) (sndg_name (i := 4))
    (snds_ite (snd_tT (snd_op sop_eq (snd_call (ms := [false, false, false]) (snd_cons snd_var (snd_cons snd_var (snd_cons snd_var snd_nil)))) snd_var))
    (snds_ret (snd_tup (snd_cons snd_var (snd_cons snd_var snd_nil))))
    snds_nil)))
    (snds_ret snd_non))⟩
/-! ### _law_some_naming -/
abbrev s__law_some_naming : Stmt := topS 25
abbrev n__law_some_naming : List Str := ["one", "other", "kind", "image"]
theorem sc__law_some_naming : FnScope n__law_some_naming ["one", "other", "kind"] (defScope s__law_some_naming) := ⟨rfl, rfl, rfl, by decide +kernel, rfl, by decide +kernel, by decide +kernel⟩
def p__law_some_naming_3 : SF := (S.ret (E.c (.bl true)))
def p__law_some_naming_2 : SF := (S.ite (T.and (T.ofE (E.bin oEq (E.cb oLen (E.cons (E.var 3) E.nil)) (E.cb oLen (E.cons (E.var 1) E.nil)))) (T.ofE (E.bin oEq (E.call [false] c__law_named (E.cons (E.var 3) E.nil)) (E.call [false] c__law_named (E.cons (E.var 1) E.nil)))))
    p__law_some_naming_3
    S.nil)
def p__law_some_naming_1 : SF := (S.for_ (I.any (E.call [false, false] c__law_images (E.cons (E.var 0) (E.cons (E.var 2) E.nil)))) (G.name 3) [3]
    p__law_some_naming_2)
def p__law_some_naming_4 : SF := (S.ret (E.c (.bl false)))
def b__law_some_naming : SF := (S.seq p__law_some_naming_1
    p__law_some_naming_4)
def c__law_some_naming : CF := run 3 4 b__law_some_naming
theorem d__law_some_naming {fa : Addr} {fd : FuncData} (F : Fun K "_law_some_naming" "_law_some_naming" s__law_some_naming fa fd) (gf : mg "_law_some_naming" = some (.ref fa)) (Z : Blt mg)
    (D__law_images : Df P w K mg base "_law_images" ["order", "kind"] 2 c__law_images)
    (D__law_named : Df P w K mg base "_law_named" ["order"] 1 c__law_named) :
    Df P w K mg base "_law_some_naming" ["one", "other", "kind"] 3 c__law_some_naming := by
  obtain ⟨_, _, G__law_images, b__law_images, k__law_images, g__law_images⟩ := D__law_images
  obtain ⟨_, _, G__law_named, b__law_named, k__law_named, g__law_named⟩ := D__law_named
  have b__law_some_naming : Binds K fd ["one", "other", "kind"] [] := F.binds fun _ _ _ _ _ _ us hl => match us, hl with | [_, _, _], _ => rfl
  refine ⟨fa, fd, def_ok F sc__law_some_naming rfl rfl (by decide) fun cdv A outer s H E hr => ?_, b__law_some_naming, F.kp, gf⟩
  exact ⟨_, (pss_cons (ps_for PassesOwn.never (by rfl) (pi_any (pe_call G__law_images (hr.mono (by decide)) (by rfl) g__law_images k__law_images b__law_images .nil pass0 (pa_cons (pv 0) (pa_cons (pv 2) pa_nil)))) (pg_name (i := 3) sc__law_some_naming.nd rfl (by first | exact Or.inl rfl | exact Or.inr rfl))
    (pss_one (ps_if (PW.pt (pw_and (pt_cmpR (op_eqD (hu64 hr)) (pe_callB cr_len (by rfl) Z.z_len (by decide +kernel) (pa_cons (pv 3) pa_nil)) (pe_callB cr_len (by rfl) Z.z_len (by decide +kernel) (pa_cons (pv 1) pa_nil)) (nomark _)) (pw_and1 (pt_cmpR (op_eqD (hu64 hr)) (pe_call G__law_named (hr.mono (by decide)) (by rfl) g__law_named k__law_named b__law_named .nil pass0 (pa_cons (pv 3) pa_nil)) (pe_call G__law_named (hr.mono (by decide)) (by rfl) g__law_named k__law_named b__law_named .nil pass0 (pa_cons (pv 1) pa_nil)) (nomark _)))))
    (pss_one (ps_ret pe_bl))
    pss_nil)))
    (pss_one (ps_ret pe_bl))),
    (snds_seq (snds_for (ks := [3]) (sndi_any (snd_call (ms := [false, false]) (snd_cons snd_var (snd_cons snd_var snd_nil)))) (sndg_name (i := 3))
    (snds_ite (snd_tand (snd_tT (snd_op sop_eq (snd_cb scb_len (snd_cons snd_var snd_nil)) (snd_cb scb_len (snd_cons snd_var snd_nil)))) (snd_tT (snd_op sop_eq (snd_call (ms := [false]) (snd_cons snd_var snd_nil)) (snd_call (ms := [false]) (snd_cons snd_var snd_nil)))))
    (snds_ret snd_bl)
    snds_nil))
    (snds_ret snd_bl))⟩
/-! ### law -/
abbrev s_law : Stmt := topS 26
abbrev n_law : List Str := ["script", "pool", "turn", "kind", "order", "handed", "due", "p", "other", "told", "place", "back", "right", "names", "renamed", "colour", "image"]
theorem sc_law : FnScope n_law ["script"] (defScope s_law) := ⟨rfl, rfl, rfl, by decide +kernel, rfl, by decide +kernel, by decide +kernel⟩
def p_law_9 : SF := (S.ret (E.c (.bl false)))
def p_law_11 : SF := (S.ret (E.c (.bl false)))
def p_law_14 : SF := (S.ret (E.c (.bl false)))
def p_law_17 : SF := (S.asg (G.sub 8 (E.call [true, false] c__law_draw (E.cons (E.var 1) (E.cons (E.cb oLen (E.cons (E.var 8) E.nil)) E.nil)))) (E.call [true, false] c__law_draw (E.cons (E.var 1) (E.cons (E.c (.int 3)) E.nil))))
def p_law_20 : SF := (S.ret (E.c (.bl false)))
def p_law_25 : SF := (S.ret (E.c (.bl false)))
def p_law_29 : SF := (S.ret (E.c (.bl false)))
def p_law_31 : SF := (S.ret (E.c (.bl false)))
def p_law_33 : SF := (S.ret (E.c (.bl false)))
def p_law_3 : SF := (S.drop (E.call [true] c__law_next (E.cons (E.var 1) E.nil)))
def p_law_4 : SF := (S.set 3 (E.call [true, false] c__law_pick (E.cons (E.var 1) (E.cons (E.lst (E.cons (E.c (.str "shifted")) (E.cons (E.c (.str "turned")) E.nil))) E.nil))))
def p_law_5 : SF := (S.set 4 (E.call [true, false, false] c__law_order_of (E.cons (E.var 1) (E.cons (E.c (.int 9)) (E.cons (E.c (.int 3)) E.nil)))))
def p_law_6 : SF := (S.set 5 (E.cb oList (E.cons (E.var 4) E.nil)))
def p_law_7 : SF := (S.set 6 (E.call [false, false] c__law_images (E.cons (E.var 4) (E.cons (E.var 3) E.nil))))
def p_law_8 : SF := (S.ite (T.or (T.not (T.tru (E.call [false, false] (c__law_same 6) (E.cons (E.call [false, false] c_images (E.cons (E.var 5) (E.cons (E.var 3) E.nil))) (E.cons (E.var 6) E.nil))))) (T.not (T.tru (E.call [false, false] (c__law_same 6) (E.cons (E.call [false, false] c_form (E.cons (E.var 5) (E.cons (E.var 3) E.nil))) (E.cons (E.bin oIx (E.var 6) (E.c (.int 0))) E.nil))))))
    p_law_9
    S.nil)
def p_law_10 : SF := (S.ite (T.or (T.not (T.tru (E.call [false, false] (c__law_same 6) (E.cons (E.call [false, false] c_is_form (E.cons (E.var 5) (E.cons (E.var 3) E.nil))) (E.cons (E.bin oEq (E.var 4) (E.bin oIx (E.var 6) (E.c (.int 0)))) E.nil))))) (T.ofE (E.bin oIsNotB (E.call [false, false] c_is_form (E.cons (E.bin oIx (E.var 6) (E.c (.int 0))) (E.cons (E.var 3) E.nil))) (E.c (.bl true)))))
    p_law_11
    S.nil)
def p_law_12 : SF := (S.set 7 (E.call [false] c_repeat (E.cons (E.var 5) E.nil)))
def p_law_13 : SF := (S.ite (T.or (T.ofE (E.bin oNe (E.bin oMod (E.cb oInt (E.cons (E.cb oLen (E.cons (E.var 4) E.nil)) E.nil)) (E.var 7)) (E.c (.int 0)))) (T.or (T.ofE (E.bin oNe (E.call [false, false, false] c__law_begun (E.cons (E.var 4) (E.cons (E.var 7) (E.cons (E.c (.bl false)) E.nil)))) (E.var 4))) (T.ofE (E.bin oNe (E.cb oLen (E.cons (E.call [false, false] c__law_images (E.cons (E.var 4) (E.cons (E.c (.str "shifted")) E.nil))) E.nil)) (E.var 7)))))
    p_law_14
    S.nil)
def p_law_15 : SF := (S.own 8 (E.call [false, false, false] c__law_begun (E.cons (E.var 4) (E.cons (E.call [true, false] c__law_draw (E.cons (E.var 1) (E.cons (E.cb oLen (E.cons (E.var 4) E.nil)) E.nil))) (E.cons (E.bin oEq (E.call [true, false] c__law_draw (E.cons (E.var 1) (E.cons (E.c (.int 2)) E.nil))) (E.c (.int 0))) E.nil)))))
def p_law_16 : SF := (S.ite (T.ofE (E.bin oEq (E.call [true, false] c__law_draw (E.cons (E.var 1) (E.cons (E.c (.int 2)) E.nil))) (E.c (.int 0))))
    p_law_17
    S.nil)
def p_law_18 : SF := (S.set 9 (E.call [false, false, false] c_move_to (E.cons (E.var 5) (E.cons (E.var 8) (E.cons (E.var 3) E.nil)))))
def p_law_19 : SF := (S.ite (T.or (T.not (T.tru (E.call [false, false] (c__law_same 6) (E.cons (E.var 9) (E.cons (E.call [false, false, false] c__law_first_move (E.cons (E.var 4) (E.cons (E.var 8) (E.cons (E.var 3) E.nil)))) E.nil))))) (T.ofE (E.bin oNe (E.bin oIsNotN (E.var 9) (E.c .non)) (E.bin oEq (E.call [false, false] c_form (E.cons (E.var 8) (E.cons (E.var 3) E.nil))) (E.bin oIx (E.var 6) (E.c (.int 0)))))))
    p_law_20
    S.nil)
def p_law_21 : SF := (S.set 10 (E.bin oSub (E.call [true, false] c__law_draw (E.cons (E.var 1) (E.cons (E.bin oAdd (E.cb oLen (E.cons (E.var 4) E.nil)) (E.c (.int 2))) E.nil))) (E.c (.int 1))))
def p_law_22 : SF := (S.set 11 (E.bin oEq (E.call [true, false] c__law_draw (E.cons (E.var 1) (E.cons (E.c (.int 2)) E.nil))) (E.c (.int 0))))
def p_law_23 : SF := (S.set 12 (E.and (E.chain oLe oLt (E.c (.int 0)) (E.var 10) (E.cb oLen (E.cons (E.var 4) E.nil))) (E.and (E.or (E.bin oEq (E.var 3) (E.c (.str "turned"))) (E.not (E.var 11))) (E.bin oEq (E.call [false, false, false] c__law_begun (E.cons (E.var 4) (E.cons (E.var 10) (E.cons (E.var 11) E.nil)))) (E.var 8)))))
def p_law_24 : SF := (S.ite (T.or (T.not (T.tru (E.call [false, false] (c__law_same 6) (E.cons (E.call [false, false, false, false, false] c_judge_move (E.cons (E.var 5) (E.cons (E.var 8) (E.cons (E.var 3) (E.cons (E.var 10) (E.cons (E.var 11) E.nil)))))) (E.cons (E.var 12) E.nil))))) (T.ofE (E.bin oNe (E.var 5) (E.var 4))))
    p_law_25
    S.nil)
def p_law_26 : SF := (S.set 13 (E.call [true, false] c__law_pick (E.cons (E.var 1) (E.cons (E.lst (E.cons (E.lst (E.cons (E.c (.int 2)) (E.cons (E.c (.int 0)) (E.cons (E.c (.int 1)) E.nil)))) (E.cons (E.lst (E.cons (E.c (.int 1)) (E.cons (E.c (.int 2)) (E.cons (E.c (.int 0)) E.nil)))) (E.cons (E.lst (E.cons (E.c (.int 0)) (E.cons (E.c (.int 2)) (E.cons (E.c (.int 1)) E.nil)))) E.nil)))) E.nil))))
def p_law_27 : SF := (S.set 14 (E.lc [15] (I.any (E.var 8)) (G.name 15) T.yes (E.bin oIx (E.var 13) (E.var 15))))
def p_law_28 : SF := (S.ite (T.not (T.tru (E.call [false, false] (c__law_same 6) (E.cons (E.call [false] c_named_alike (E.cons (E.var 5) E.nil)) (E.cons (E.call [false] c__law_named (E.cons (E.var 4) E.nil)) E.nil)))))
    p_law_29
    S.nil)
def p_law_30 : SF := (S.ite (T.not (T.tru (E.call [false, false] (c__law_same 6) (E.cons (E.call [false, false] c_plain_stripes (E.cons (E.var 5) (E.cons (E.var 3) E.nil))) (E.cons (E.bin oIx (E.cb oSorted (E.cons (E.lc [16] (I.any (E.var 6)) (G.name 16) T.yes (E.call [false] c__law_named (E.cons (E.var 16) E.nil))) E.nil)) (E.c (.int 0))) E.nil)))))
    p_law_31
    S.nil)
def p_law_32 : SF := (S.ite (T.ofE (E.bin oNe (E.bin oEq (E.call [false, false] c_plain_stripes (E.cons (E.var 14) (E.cons (E.var 3) E.nil))) (E.call [false, false] c_plain_stripes (E.cons (E.var 4) (E.cons (E.var 3) E.nil)))) (E.call [false, false, false] c__law_some_naming (E.cons (E.var 4) (E.cons (E.var 14) (E.cons (E.var 3) E.nil))))))
    p_law_33
    S.nil)
def q_law_2 : SF := (S.seq p_law_3
    (S.seq p_law_4
    (S.seq p_law_5
    (S.seq p_law_6
    (S.seq p_law_7
    (S.seq p_law_8
    (S.seq p_law_10
    (S.seq p_law_12
    (S.seq p_law_13
    (S.seq p_law_15
    (S.seq p_law_16
    (S.seq p_law_18
    (S.seq p_law_19
    (S.seq p_law_21
    (S.seq p_law_22
    (S.seq p_law_23
    (S.seq p_law_24
    (S.seq p_law_26
    (S.seq p_law_27
    (S.seq p_law_28
    (S.seq p_law_30
    p_law_32)))))))))))))))))))))
def p_law_1 : SF := (S.own 1 (E.call [false] c__law_pool (E.cons (E.var 0) E.nil)))
def p_law_2 : SF := (S.for_ (I.rng1 (E.c (.int 4))) (G.name 2) [2, 3, 4, 5, 6, 7, 8, 9, 10, 11, 12, 13, 14]
    q_law_2)
def p_law_34 : SF := (S.ret (E.c (.bl true)))
def b_law : SF := (S.seq p_law_1
    (S.seq p_law_2
    p_law_34))
def c_law : CF := run 1 17 b_law
theorem ok_law {fa : Addr} {fd : FuncData} (F : Fun K "law" "law" s_law fa fd) (gf : mg "law" = some (.ref fa)) (Z : Blt mg)
    (D_images : Df P w K mg base "images" ["order", "kind"] 2 c_images)
    (D_form : Df P w K mg base "form" ["order", "kind"] 3 c_form)
    (D_is_form : Df P w K mg base "is_form" ["order", "kind"] 4 c_is_form)
    (D_repeat : Df P w K mg base "repeat" ["order"] 1 c_repeat)
    (D_move_to : Df P w K mg base "move_to" ["one", "other", "kind"] 2 c_move_to)
    (D_named_alike : Df P w K mg base "named_alike" ["order"] 1 c_named_alike)
    (D_plain_stripes : Df P w K mg base "plain_stripes" ["order", "kind"] 3 c_plain_stripes)
    (D_judge_move : Df P w K mg base "judge_move" ["one", "other", "kind", "place", "back"] 2 c_judge_move)
    (D__law_begun : Df P w K mg base "_law_begun" ["order", "place", "back"] 1 c__law_begun)
    (D__law_images : Df P w K mg base "_law_images" ["order", "kind"] 2 c__law_images)
    (D__law_named : Df P w K mg base "_law_named" ["order"] 1 c__law_named)
    (D__law_pool : Df P w K mg base "_law_pool" ["script"] 3 c__law_pool)
    (D__law_next : Df P w K mg base "_law_next" ["pool"] 3 c__law_next)
    (D__law_draw : Df P w K mg base "_law_draw" ["pool", "limit"] 3 c__law_draw)
    (D__law_pick : Df P w K mg base "_law_pick" ["pool", "options"] 4 c__law_pick)
    (D__law_order_of : Df P w K mg base "_law_order_of" ["pool", "most", "colours"] 4 c__law_order_of)
    (D__law_same : Df P w K mg base "_law_same" ["actual", "due"] 6 (c__law_same 6))
    (D__law_first_move : Df P w K mg base "_law_first_move" ["one", "other", "kind"] 2 c__law_first_move)
    (D__law_some_naming : Df P w K mg base "_law_some_naming" ["one", "other", "kind"] 3 c__law_some_naming) :
    FnOk P w K mg base CX0 7 fa fd ["script"] (SpD K c_law) := by
  obtain ⟨_, _, G_images, b_images, k_images, g_images⟩ := D_images
  obtain ⟨_, _, G_form, b_form, k_form, g_form⟩ := D_form
  obtain ⟨_, _, G_is_form, b_is_form, k_is_form, g_is_form⟩ := D_is_form
  obtain ⟨_, _, G_repeat, b_repeat, k_repeat, g_repeat⟩ := D_repeat
  obtain ⟨_, _, G_move_to, b_move_to, k_move_to, g_move_to⟩ := D_move_to
  obtain ⟨_, _, G_named_alike, b_named_alike, k_named_alike, g_named_alike⟩ := D_named_alike
  obtain ⟨_, _, G_plain_stripes, b_plain_stripes, k_plain_stripes, g_plain_stripes⟩ := D_plain_stripes
  obtain ⟨_, _, G_judge_move, b_judge_move, k_judge_move, g_judge_move⟩ := D_judge_move
  obtain ⟨_, _, G__law_begun, b__law_begun, k__law_begun, g__law_begun⟩ := D__law_begun
  obtain ⟨_, _, G__law_images, b__law_images, k__law_images, g__law_images⟩ := D__law_images
  obtain ⟨_, _, G__law_named, b__law_named, k__law_named, g__law_named⟩ := D__law_named
  obtain ⟨_, _, G__law_pool, b__law_pool, k__law_pool, g__law_pool⟩ := D__law_pool
  obtain ⟨_, _, G__law_next, b__law_next, k__law_next, g__law_next⟩ := D__law_next
  obtain ⟨_, _, G__law_draw, b__law_draw, k__law_draw, g__law_draw⟩ := D__law_draw
  obtain ⟨_, _, G__law_pick, b__law_pick, k__law_pick, g__law_pick⟩ := D__law_pick
  obtain ⟨_, _, G__law_order_of, b__law_order_of, k__law_order_of, g__law_order_of⟩ := D__law_order_of
  obtain ⟨_, _, G__law_same, b__law_same, k__law_same, g__law_same⟩ := D__law_same
  obtain ⟨_, _, G__law_first_move, b__law_first_move, k__law_first_move, g__law_first_move⟩ := D__law_first_move
  obtain ⟨_, _, G__law_some_naming, b__law_some_naming, k__law_some_naming, g__law_some_naming⟩ := D__law_some_naming
  refine def_ok F sc_law rfl rfl (by decide) fun cdv A outer s H E hr => ?_
  exact ⟨_, (pss_cons (ps_set (i := 1) sc_law.nd rfl (by first | exact Or.inl rfl | exact Or.inr rfl) (pe_call G__law_pool (hr.mono (by decide)) (by rfl) g__law_pool k__law_pool b__law_pool .nil pass0 (pa_cons (pv 0) pa_nil)))
    (pss_cons (ps_for PassesOwn.never (by rfl) (pi_range1 (by rfl) Z.z_range (pa_cons pe_int pa_nil)) (pg_name (i := 2) sc_law.nd rfl (by first | exact Or.inl rfl | exact Or.inr rfl))
    (pss_cons (ps_expr (pe_call G__law_next (hr.mono (by decide)) (by rfl) g__law_next k__law_next b__law_next .nil pass0 (pa_cons (pv 1) pa_nil)))
    (pss_cons (ps_set (i := 3) sc_law.nd rfl (by first | exact Or.inl rfl | exact Or.inr rfl) (pe_call G__law_pick (hr.mono (by decide)) (by rfl) g__law_pick k__law_pick b__law_pick .nil pass0 (pa_cons (pv 1) (pa_cons (pe_lst (pa_cons pe_str (pa_cons pe_str pa_nil))) pa_nil))))
    (pss_cons (ps_set (i := 4) sc_law.nd rfl (by first | exact Or.inl rfl | exact Or.inr rfl) (pe_call G__law_order_of (hr.mono (by decide)) (by rfl) g__law_order_of k__law_order_of b__law_order_of .nil pass0 (pa_cons (pv 1) (pa_cons pe_int (pa_cons pe_int pa_nil)))))
    (pss_cons (ps_set (i := 5) sc_law.nd rfl (by first | exact Or.inl rfl | exact Or.inr rfl) (pe_callTy call_list_of (by rfl) Z.z_list (by decide +kernel) (pa_cons (pv 4) pa_nil)))
    (pss_cons (ps_set (i := 6) sc_law.nd rfl (by first | exact Or.inl rfl | exact Or.inr rfl) (pe_call G__law_images (hr.mono (by decide)) (by rfl) g__law_images k__law_images b__law_images .nil pass0 (pa_cons (pv 4) (pa_cons (pv 3) pa_nil))))
    (pss_cons (ps_if (PW.pt (pw_or (pt_not (pt_truth (pe_call G__law_same (hr.mono (by decide)) (by rfl) g__law_same k__law_same b__law_same .nil pass0 (pa_cons (pe_call G_images (hr.mono (by decide)) (by rfl) g_images k_images b_images .nil pass0 (pa_cons (pv 5) (pa_cons (pv 3) pa_nil))) (pa_cons (pv 6) pa_nil))) (by intro _; rfl))) (pw_or1 (pt_not (pt_truth (pe_call G__law_same (hr.mono (by decide)) (by rfl) g__law_same k__law_same b__law_same .nil pass0 (pa_cons (pe_call G_form (hr.mono (by decide)) (by rfl) g_form k_form b_form .nil pass0 (pa_cons (pv 5) (pa_cons (pv 3) pa_nil))) (pa_cons (pe_ix (or_ix (hu1 hr)) (pv 6) pe_int (fun _ _ => rfl)) pa_nil))) (by intro _; rfl))))))
    (pss_one (ps_ret pe_bl))
    pss_nil)
    (pss_cons (ps_if (PW.pt (pw_or (pt_not (pt_truth (pe_call G__law_same (hr.mono (by decide)) (by rfl) g__law_same k__law_same b__law_same .nil pass0 (pa_cons (pe_call G_is_form (hr.mono (by decide)) (by rfl) g_is_form k_is_form b_is_form .nil pass0 (pa_cons (pv 5) (pa_cons (pv 3) pa_nil))) (pa_cons (pe_cmpR (op_eqD (hu64 hr)) (pv 4) (pe_ix (or_ix (hu1 hr)) (pv 6) pe_int (fun _ _ => rfl)) (nomark _)) pa_nil))) (by intro _; rfl))) (pw_or1 (pt_cmpR or_isNotB (pe_call G_is_form (hr.mono (by decide)) (by rfl) g_is_form k_is_form b_is_form .nil pass0 (pa_cons (pe_ix (or_ix (hu1 hr)) (pv 6) pe_int (fun _ _ => rfl)) (pa_cons (pv 3) pa_nil))) pe_bl (nomark _)))))
    (pss_one (ps_ret pe_bl))
    pss_nil)
    (pss_cons (ps_set (i := 7) sc_law.nd rfl (by first | exact Or.inl rfl | exact Or.inr rfl) (pe_call G_repeat (hr.mono (by decide)) (by rfl) g_repeat k_repeat b_repeat .nil pass0 (pa_cons (pv 5) pa_nil)))
    (pss_cons (ps_if (PW.pt (pw_or (pt_cmpR (op_neD (hu64 hr)) (pe_op op_modN (pe_callTy cr_int (by rfl) Z.z_int (by decide +kernel) (pa_cons (pe_callB cr_len (by rfl) Z.z_len (by decide +kernel) (pa_cons (pv 4) pa_nil)) pa_nil)) (pv 7)) pe_int (nomark _)) (pw_or (pt_cmpR (op_neD (hu64 hr)) (pe_call G__law_begun (hr.mono (by decide)) (by rfl) g__law_begun k__law_begun b__law_begun .nil pass0 (pa_cons (pv 4) (pa_cons (pv 7) (pa_cons pe_bl pa_nil)))) (pv 4) (nomark _)) (pw_or1 (pt_cmpR (op_neD (hu64 hr)) (pe_callB cr_len (by rfl) Z.z_len (by decide +kernel) (pa_cons (pe_call G__law_images (hr.mono (by decide)) (by rfl) g__law_images k__law_images b__law_images .nil pass0 (pa_cons (pv 4) (pa_cons pe_str pa_nil))) pa_nil)) (pv 7) (nomark _))))))
    (pss_one (ps_ret pe_bl))
    pss_nil)
    (pss_cons (ps_set (i := 8) sc_law.nd rfl (by first | exact Or.inl rfl | exact Or.inr rfl) (pe_call G__law_begun (hr.mono (by decide)) (by rfl) g__law_begun k__law_begun b__law_begun .nil pass0 (pa_cons (pv 4) (pa_cons (pe_call G__law_draw (hr.mono (by decide)) (by rfl) g__law_draw k__law_draw b__law_draw .nil pass0 (pa_cons (pv 1) (pa_cons (pe_callB cr_len (by rfl) Z.z_len (by decide +kernel) (pa_cons (pv 4) pa_nil)) pa_nil))) (pa_cons (pe_cmpR (op_eqD (hu64 hr)) (pe_call G__law_draw (hr.mono (by decide)) (by rfl) g__law_draw k__law_draw b__law_draw .nil pass0 (pa_cons (pv 1) (pa_cons pe_int pa_nil))) pe_int (nomark _)) pa_nil)))))
    (pss_cons (ps_if (pt_cmpR (op_eqD (hu64 hr)) (pe_call G__law_draw (hr.mono (by decide)) (by rfl) g__law_draw k__law_draw b__law_draw .nil pass0 (pa_cons (pv 1) (pa_cons pe_int pa_nil))) pe_int (nomark _))
    (pss_one (ps_asg (pe_call G__law_draw (hr.mono (by decide)) (by rfl) g__law_draw k__law_draw b__law_draw .nil pass0 (pa_cons (pv 1) (pa_cons pe_int pa_nil))) (pg_sub (pv 8) (pe_call G__law_draw (hr.mono (by decide)) (by rfl) g__law_draw k__law_draw b__law_draw .nil pass0 (pa_cons (pv 1) (pa_cons (pe_callB cr_len (by rfl) Z.z_len (by decide +kernel) (pa_cons (pv 8) pa_nil)) pa_nil))) (set_any (hu1 hr)))))
    pss_nil)
    (pss_cons (ps_set (i := 9) sc_law.nd rfl (by first | exact Or.inl rfl | exact Or.inr rfl) (pe_call G_move_to (hr.mono (by decide)) (by rfl) g_move_to k_move_to b_move_to .nil pass0 (pa_cons (pv 5) (pa_cons (pv 8) (pa_cons (pv 3) pa_nil)))))
    (pss_cons (ps_if (PW.pt (pw_or (pt_not (pt_truth (pe_call G__law_same (hr.mono (by decide)) (by rfl) g__law_same k__law_same b__law_same .nil pass0 (pa_cons (pv 9) (pa_cons (pe_call G__law_first_move (hr.mono (by decide)) (by rfl) g__law_first_move k__law_first_move b__law_first_move .nil pass0 (pa_cons (pv 4) (pa_cons (pv 8) (pa_cons (pv 3) pa_nil)))) pa_nil))) (by intro _; rfl))) (pw_or1 (pt_cmpR (op_neD (hu64 hr)) (pe_cmpR op_notN (pv 9) pe_non (nomark _)) (pe_cmpR (op_eqD (hu64 hr)) (pe_call G_form (hr.mono (by decide)) (by rfl) g_form k_form b_form .nil pass0 (pa_cons (pv 8) (pa_cons (pv 3) pa_nil))) (pe_ix (or_ix (hu1 hr)) (pv 6) pe_int (fun _ _ => rfl)) (nomark _)) (nomark _)))))
    (pss_one (ps_ret pe_bl))
    pss_nil)
    (pss_cons (ps_set (i := 10) sc_law.nd rfl (by first | exact Or.inl rfl | exact Or.inr rfl) (pe_op op_sub (pe_call G__law_draw (hr.mono (by decide)) (by rfl) g__law_draw k__law_draw b__law_draw .nil pass0 (pa_cons (pv 1) (pa_cons (pe_op or_add (pe_callB cr_len (by rfl) Z.z_len (by decide +kernel) (pa_cons (pv 4) pa_nil)) pe_int) pa_nil))) pe_int))
    (pss_cons (ps_set (i := 11) sc_law.nd rfl (by first | exact Or.inl rfl | exact Or.inr rfl) (pe_cmpR (op_eqD (hu64 hr)) (pe_call G__law_draw (hr.mono (by decide)) (by rfl) g__law_draw k__law_draw b__law_draw .nil pass0 (pa_cons (pv 1) (pa_cons pe_int pa_nil))) pe_int (nomark _)))
    (pss_cons (ps_set (i := 12) sc_law.nd rfl (by first | exact Or.inl rfl | exact Or.inr rfl) (pe_and (pe_chain op_le or_lt pe_int (pv 10) (pe_callB cr_len (by rfl) Z.z_len (by decide +kernel) (pa_cons (pv 4) pa_nil))) (pe_and (pe_or (pe_cmpR (op_eqD (hu64 hr)) (pv 3) pe_str (nomark _)) (pe_one (pe_not (pv 11)))) (pe_one (pe_cmpR (op_eqD (hu64 hr)) (pe_call G__law_begun (hr.mono (by decide)) (by rfl) g__law_begun k__law_begun b__law_begun .nil pass0 (pa_cons (pv 4) (pa_cons (pv 10) (pa_cons (pv 11) pa_nil)))) (pv 8) (nomark _))))))
    (pss_cons (ps_if (PW.pt (pw_or (pt_not (pt_truth (pe_call G__law_same (hr.mono (by decide)) (by rfl) g__law_same k__law_same b__law_same .nil pass0 (pa_cons (pe_call G_judge_move (hr.mono (by decide)) (by rfl) g_judge_move k_judge_move b_judge_move .nil pass0 (pa_cons (pv 5) (pa_cons (pv 8) (pa_cons (pv 3) (pa_cons (pv 10) (pa_cons (pv 11) pa_nil)))))) (pa_cons (pv 12) pa_nil))) (by intro _; rfl))) (pw_or1 (pt_cmpR (op_neD (hu64 hr)) (pv 5) (pv 4) (nomark _)))))
    (pss_one (ps_ret pe_bl))
    pss_nil)
    (pss_cons (ps_set (i := 13) sc_law.nd rfl (by first | exact Or.inl rfl | exact Or.inr rfl) (pe_call G__law_pick (hr.mono (by decide)) (by rfl) g__law_pick k__law_pick b__law_pick .nil pass0 (pa_cons (pv 1) (pa_cons (pe_lst (pa_cons (pe_lst (pa_cons pe_int (pa_cons pe_int (pa_cons pe_int pa_nil)))) (pa_cons (pe_lst (pa_cons pe_int (pa_cons pe_int (pa_cons pe_int pa_nil)))) (pa_cons (pe_lst (pa_cons pe_int (pa_cons pe_int (pa_cons pe_int pa_nil)))) pa_nil)))) pa_nil))))
    (pss_cons (ps_setLc (i := 14) (own := [("colour", 15)]) (by rfl) sc_law.nd rfl rfl (sw_true rfl rfl rfl (by decide +kernel)) (pi_any (pv 8)) (blkOk_by (N := n_law) (sc := defScope s_law) (by decide +kernel)) (fun _ _ _ _ _ => (pg_name (i := 15) sc_law.nd rfl (by first | exact Or.inl rfl | exact Or.inr rfl))) (fun _ _ _ _ _ => pts_nil) (fun _ _ _ _ _ => (pe_ix (or_ix (hu1 hr)) (pv 13) (pv 15) (fun _ _ => rfl))))
    (pss_cons (ps_if (pt_not (pt_truth (pe_call G__law_same (hr.mono (by decide)) (by rfl) g__law_same k__law_same b__law_same .nil pass0 (pa_cons (pe_call G_named_alike (hr.mono (by decide)) (by rfl) g_named_alike k_named_alike b_named_alike .nil pass0 (pa_cons (pv 5) pa_nil)) (pa_cons (pe_call G__law_named (hr.mono (by decide)) (by rfl) g__law_named k__law_named b__law_named .nil pass0 (pa_cons (pv 4) pa_nil)) pa_nil))) (by intro _; rfl)))
    (pss_one (ps_ret pe_bl))
    pss_nil)
    (pss_cons (ps_if (pt_not (pt_truth (pe_call G__law_same (hr.mono (by decide)) (by rfl) g__law_same k__law_same b__law_same .nil pass0 (pa_cons (pe_call G_plain_stripes (hr.mono (by decide)) (by rfl) g_plain_stripes k_plain_stripes b_plain_stripes .nil pass0 (pa_cons (pv 5) (pa_cons (pv 3) pa_nil))) (pa_cons (pe_ix (or_ix (hu1 hr)) (pe_callB (cr_sorted rfl (hu65 hr)) (by rfl) Z.z_sorted (by decide +kernel) (pa_cons (pe_lc (own := [("image", 16)]) (by rfl) sc_law.nd (pi_any (pv 6)) (blkOk_by (N := n_law) (sc := defScope s_law) (by decide +kernel)) (fun _ _ _ _ _ => (pg_name (i := 16) sc_law.nd rfl (by first | exact Or.inl rfl | exact Or.inr rfl))) (fun _ _ _ _ _ => pts_nil) (fun _ _ _ _ _ => (pe_call G__law_named (hr.mono (by decide)) (by rfl) g__law_named k__law_named b__law_named .nil pass0 (pa_cons (pv 16) pa_nil)))) pa_nil)) pe_int (fun _ _ => rfl)) pa_nil))) (by intro _; rfl)))
    (pss_one (ps_ret pe_bl))
    pss_nil)
    (pss_one (ps_if (pt_cmpR (op_neD (hu64 hr)) (pe_cmpR (op_eqD (hu64 hr)) (pe_call G_plain_stripes (hr.mono (by decide)) (by rfl) g_plain_stripes k_plain_stripes b_plain_stripes .nil pass0 (pa_cons (pv 14) (pa_cons (pv 3) pa_nil))) (pe_call G_plain_stripes (hr.mono (by decide)) (by rfl) g_plain_stripes k_plain_stripes b_plain_stripes .nil pass0 (pa_cons (pv 4) (pa_cons (pv 3) pa_nil))) (nomark _)) (pe_call G__law_some_naming (hr.mono (by decide)) (by rfl) g__law_some_naming k__law_some_naming b__law_some_naming .nil pass0 (pa_cons (pv 4) (pa_cons (pv 14) (pa_cons (pv 3) pa_nil)))) (nomark _))
    (pss_one (ps_ret pe_bl))
    pss_nil))))))))))))))))))))))))
    (pss_one (ps_ret pe_bl)))),
    (snds_seq (snds_own (i := 1) (snd_call (ms := [false]) (snd_cons snd_var snd_nil)))
    (snds_seq (snds_for (ks := [2, 3, 4, 5, 6, 7, 8, 9, 10, 11, 12, 13, 14]) (sndi_rng1 snd_int) (sndg_name (i := 2))
    (snds_seq (snds_drop (snd_call (ms := [true]) (snd_cons snd_var snd_nil)))
    (snds_seq (snds_set (i := 3) (snd_call (ms := [true, false]) (snd_cons snd_var (snd_cons (snd_lst (snd_cons snd_str (snd_cons snd_str snd_nil))) snd_nil))))
    (snds_seq (snds_set (i := 4) (snd_call (ms := [true, false, false]) (snd_cons snd_var (snd_cons snd_int (snd_cons snd_int snd_nil)))))
    (snds_seq (snds_set (i := 5) (snd_cb scb_list (snd_cons snd_var snd_nil)))
    (snds_seq (snds_set (i := 6) (snd_call (ms := [false, false]) (snd_cons snd_var (snd_cons snd_var snd_nil))))
    (snds_seq (snds_ite (snd_tor (snd_tnot (snd_tru (snd_call (ms := [false, false]) (snd_cons (snd_call (ms := [false, false]) (snd_cons snd_var (snd_cons snd_var snd_nil))) (snd_cons snd_var snd_nil))))) (snd_tnot (snd_tru (snd_call (ms := [false, false]) (snd_cons (snd_call (ms := [false, false]) (snd_cons snd_var (snd_cons snd_var snd_nil))) (snd_cons (snd_op sop_ix snd_var snd_int) snd_nil))))))
    (snds_ret snd_bl)
    snds_nil)
    (snds_seq (snds_ite (snd_tor (snd_tnot (snd_tru (snd_call (ms := [false, false]) (snd_cons (snd_call (ms := [false, false]) (snd_cons snd_var (snd_cons snd_var snd_nil))) (snd_cons (snd_op sop_eq snd_var (snd_op sop_ix snd_var snd_int)) snd_nil))))) (snd_tT (snd_op sop_isNotB (snd_call (ms := [false, false]) (snd_cons (snd_op sop_ix snd_var snd_int) (snd_cons snd_var snd_nil))) snd_bl)))
    (snds_ret snd_bl)
    snds_nil)
    (snds_seq (snds_set (i := 7) (snd_call (ms := [false]) (snd_cons snd_var snd_nil)))
    (snds_seq (snds_ite (snd_tor (snd_tT (snd_op sop_ne (snd_op sop_mod (snd_cb scb_int (snd_cons (snd_cb scb_len (snd_cons snd_var snd_nil)) snd_nil)) snd_var) snd_int)) (snd_tor (snd_tT (snd_op sop_ne (snd_call (ms := [false, false, false]) (snd_cons snd_var (snd_cons snd_var (snd_cons snd_bl snd_nil)))) snd_var)) (snd_tT (snd_op sop_ne (snd_cb scb_len (snd_cons (snd_call (ms := [false, false]) (snd_cons snd_var (snd_cons snd_str snd_nil))) snd_nil)) snd_var))))
    (snds_ret snd_bl)
    snds_nil)
    (snds_seq (snds_own (i := 8) (snd_call (ms := [false, false, false]) (snd_cons snd_var (snd_cons (snd_call (ms := [true, false]) (snd_cons snd_var (snd_cons (snd_cb scb_len (snd_cons snd_var snd_nil)) snd_nil))) (snd_cons (snd_op sop_eq (snd_call (ms := [true, false]) (snd_cons snd_var (snd_cons snd_int snd_nil))) snd_int) snd_nil)))))
    (snds_seq (snds_ite (snd_tT (snd_op sop_eq (snd_call (ms := [true, false]) (snd_cons snd_var (snd_cons snd_int snd_nil))) snd_int))
    (snds_asg (sndg_sub (j := 8) (snd_call (ms := [true, false]) (snd_cons snd_var (snd_cons (snd_cb scb_len (snd_cons snd_var snd_nil)) snd_nil)))) (snd_call (ms := [true, false]) (snd_cons snd_var (snd_cons snd_int snd_nil))))
    snds_nil)
    (snds_seq (snds_set (i := 9) (snd_call (ms := [false, false, false]) (snd_cons snd_var (snd_cons snd_var (snd_cons snd_var snd_nil)))))
    (snds_seq (snds_ite (snd_tor (snd_tnot (snd_tru (snd_call (ms := [false, false]) (snd_cons snd_var (snd_cons (snd_call (ms := [false, false, false]) (snd_cons snd_var (snd_cons snd_var (snd_cons snd_var snd_nil)))) snd_nil))))) (snd_tT (snd_op sop_ne (snd_op sop_isNotN snd_var snd_non) (snd_op sop_eq (snd_call (ms := [false, false]) (snd_cons snd_var (snd_cons snd_var snd_nil))) (snd_op sop_ix snd_var snd_int)))))
    (snds_ret snd_bl)
    snds_nil)
    (snds_seq (snds_set (i := 10) (snd_op sop_sub (snd_call (ms := [true, false]) (snd_cons snd_var (snd_cons (snd_op sop_add (snd_cb scb_len (snd_cons snd_var snd_nil)) snd_int) snd_nil))) snd_int))
    (snds_seq (snds_set (i := 11) (snd_op sop_eq (snd_call (ms := [true, false]) (snd_cons snd_var (snd_cons snd_int snd_nil))) snd_int))
    (snds_seq (snds_set (i := 12) (snd_and (snd_chain sop_le sop_lt snd_int snd_var (snd_cb scb_len (snd_cons snd_var snd_nil))) (snd_and (snd_or (snd_op sop_eq snd_var snd_str) (snd_not snd_var)) (snd_op sop_eq (snd_call (ms := [false, false, false]) (snd_cons snd_var (snd_cons snd_var (snd_cons snd_var snd_nil)))) snd_var))))
    (snds_seq (snds_ite (snd_tor (snd_tnot (snd_tru (snd_call (ms := [false, false]) (snd_cons (snd_call (ms := [false, false, false, false, false]) (snd_cons snd_var (snd_cons snd_var (snd_cons snd_var (snd_cons snd_var (snd_cons snd_var snd_nil)))))) (snd_cons snd_var snd_nil))))) (snd_tT (snd_op sop_ne snd_var snd_var)))
    (snds_ret snd_bl)
    snds_nil)
    (snds_seq (snds_set (i := 13) (snd_call (ms := [true, false]) (snd_cons snd_var (snd_cons (snd_lst (snd_cons (snd_lst (snd_cons snd_int (snd_cons snd_int (snd_cons snd_int snd_nil)))) (snd_cons (snd_lst (snd_cons snd_int (snd_cons snd_int (snd_cons snd_int snd_nil)))) (snd_cons (snd_lst (snd_cons snd_int (snd_cons snd_int (snd_cons snd_int snd_nil)))) snd_nil)))) snd_nil))))
    (snds_seq (snds_set (i := 14) (snd_lc (is := [15]) (sndi_any snd_var) (sndg_name (i := 15)) sndt_yes (snd_op sop_ix snd_var snd_var) (by decide)))
    (snds_seq (snds_ite (snd_tnot (snd_tru (snd_call (ms := [false, false]) (snd_cons (snd_call (ms := [false]) (snd_cons snd_var snd_nil)) (snd_cons (snd_call (ms := [false]) (snd_cons snd_var snd_nil)) snd_nil)))))
    (snds_ret snd_bl)
    snds_nil)
    (snds_seq (snds_ite (snd_tnot (snd_tru (snd_call (ms := [false, false]) (snd_cons (snd_call (ms := [false, false]) (snd_cons snd_var (snd_cons snd_var snd_nil))) (snd_cons (snd_op sop_ix (snd_cb scb_sorted (snd_cons (snd_lc (is := [16]) (sndi_any snd_var) (sndg_name (i := 16)) sndt_yes (snd_call (ms := [false]) (snd_cons snd_var snd_nil)) (by decide)) snd_nil)) snd_int) snd_nil)))))
    (snds_ret snd_bl)
    snds_nil)
    (snds_ite (snd_tT (snd_op sop_ne (snd_op sop_eq (snd_call (ms := [false, false]) (snd_cons snd_var (snd_cons snd_var snd_nil))) (snd_call (ms := [false, false]) (snd_cons snd_var (snd_cons snd_var snd_nil)))) (snd_call (ms := [false, false, false]) (snd_cons snd_var (snd_cons snd_var (snd_cons snd_var snd_nil))))))
    (snds_ret snd_bl)
    snds_nil)))))))))))))))))))))))
    (snds_ret snd_bl)))⟩
end
theorem all_mk {l : PySem.W.OpenLaw} {w : World} {K : PySem.W.Frag} {h : Heap} {mg : Str → Option Value} {fa f1 f2 f3 f4 f5 f6 f7 f8 f9 f10 f11 f12 f13 f14 f15 f16 f17 f18 f19 f20 f21 f22 f23 f24 : Addr} (X : K.In h) (G : h.Ns mainGlobals mg) (hfa : mg "law" = some (.ref fa))
    {od1 an1 od2 an2 od3 an3 od4 an4 od5 an5 od6 an6 od7 an7 od8 an8 od9 an9 od10 an10 od11 an11 od12 an12 od13 an13 od14 an14 od15 an15 od16 an16 od17 an17 od18 an18 od19 an19 od20 an20 od21 an21 od22 an22 od23 an23 od24 an24 : Option Addr} {sl1 sl2 sl3 sl4 sl5 sl6 sl7 sl8 sl9 sl10 sl11 sl12 sl13 sl14 sl15 sl16 sl17 sl18 sl19 sl20 sl21 sl22 sl23 sl24 : Array (Option Value)} {oc1 kV1 dc1 pm1 cd1 ct1 oc2 kV2 dc2 pm2 cd2 ct2 oc3 kV3 dc3 pm3 cd3 ct3 oc4 kV4 dc4 pm4 cd4 ct4 oc5 kV5 dc5 pm5 cd5 ct5 oc6 kV6 dc6 pm6 cd6 ct6 oc7 kV7 dc7 pm7 cd7 ct7 oc8 kV8 dc8 pm8 cd8 ct8 oc9 kV9 dc9 pm9 cd9 ct9 oc10 kV10 dc10 pm10 cd10 ct10 oc11 kV11 dc11 pm11 cd11 ct11 oc12 kV12 dc12 pm12 cd12 ct12 oc13 kV13 dc13 pm13 cd13 ct13 oc14 kV14 dc14 pm14 cd14 ct14 oc15 kV15 dc15 pm15 cd15 ct15 oc16 kV16 dc16 pm16 cd16 ct16 oc17 kV17 dc17 pm17 cd17 ct17 oc18 kV18 dc18 pm18 cd18 ct18 oc19 kV19 dc19 pm19 cd19 ct19 oc20 kV20 dc20 pm20 cd20 ct20 oc21 kV21 dc21 pm21 cd21 ct21 oc22 kV22 dc22 pm22 cd22 ct22 oc23 kV23 dc23 pm23 cd23 ct23 oc24 kV24 dc24 pm24 cd24 ct24 : Value}
    (a1 : PySem.W.nsIn K mainGlobals "begun_at" = some (some (.ref f1))) (l1 : K.lookup f1 = some ⟨oc1, od1, .func (PySem.W.fnOf "begun_at" "begun_at" (defArgs s_begun_at) (defBody s_begun_at) (defScope s_begun_at) .none kV1 dc1 pm1 an1 cd1 ct1), sl1⟩) (c1 : PySem.W.codeIn K cd1 "begun_at" = true) (k1 : PySem.W.keepIn K (.ref f1) = true)
    (a2 : PySem.W.nsIn K mainGlobals "ways_round" = some (some (.ref f2))) (l2 : K.lookup f2 = some ⟨oc2, od2, .func (PySem.W.fnOf "ways_round" "ways_round" (defArgs s_ways_round) (defBody s_ways_round) (defScope s_ways_round) .none kV2 dc2 pm2 an2 cd2 ct2), sl2⟩) (c2 : PySem.W.codeIn K cd2 "ways_round" = true) (k2 : PySem.W.keepIn K (.ref f2) = true)
    (a3 : PySem.W.nsIn K mainGlobals "images" = some (some (.ref f3))) (l3 : K.lookup f3 = some ⟨oc3, od3, .func (PySem.W.fnOf "images" "images" (defArgs s_images) (defBody s_images) (defScope s_images) .none kV3 dc3 pm3 an3 cd3 ct3), sl3⟩) (c3 : PySem.W.codeIn K cd3 "images" = true) (k3 : PySem.W.keepIn K (.ref f3) = true)
    (a4 : PySem.W.nsIn K mainGlobals "form" = some (some (.ref f4))) (l4 : K.lookup f4 = some ⟨oc4, od4, .func (PySem.W.fnOf "form" "form" (defArgs s_form) (defBody s_form) (defScope s_form) .none kV4 dc4 pm4 an4 cd4 ct4), sl4⟩) (c4 : PySem.W.codeIn K cd4 "form" = true) (k4 : PySem.W.keepIn K (.ref f4) = true)
    (a5 : PySem.W.nsIn K mainGlobals "is_form" = some (some (.ref f5))) (l5 : K.lookup f5 = some ⟨oc5, od5, .func (PySem.W.fnOf "is_form" "is_form" (defArgs s_is_form) (defBody s_is_form) (defScope s_is_form) .none kV5 dc5 pm5 an5 cd5 ct5), sl5⟩) (c5 : PySem.W.codeIn K cd5 "is_form" = true) (k5 : PySem.W.keepIn K (.ref f5) = true)
    (a6 : PySem.W.nsIn K mainGlobals "repeat" = some (some (.ref f6))) (l6 : K.lookup f6 = some ⟨oc6, od6, .func (PySem.W.fnOf "repeat" "repeat" (defArgs s_repeat) (defBody s_repeat) (defScope s_repeat) .none kV6 dc6 pm6 an6 cd6 ct6), sl6⟩) (c6 : PySem.W.codeIn K cd6 "repeat" = true) (k6 : PySem.W.keepIn K (.ref f6) = true)
    (a7 : PySem.W.nsIn K mainGlobals "move_to" = some (some (.ref f7))) (l7 : K.lookup f7 = some ⟨oc7, od7, .func (PySem.W.fnOf "move_to" "move_to" (defArgs s_move_to) (defBody s_move_to) (defScope s_move_to) .none kV7 dc7 pm7 an7 cd7 ct7), sl7⟩) (c7 : PySem.W.codeIn K cd7 "move_to" = true) (k7 : PySem.W.keepIn K (.ref f7) = true)
    (a8 : PySem.W.nsIn K mainGlobals "named_alike" = some (some (.ref f8))) (l8 : K.lookup f8 = some ⟨oc8, od8, .func (PySem.W.fnOf "named_alike" "named_alike" (defArgs s_named_alike) (defBody s_named_alike) (defScope s_named_alike) .none kV8 dc8 pm8 an8 cd8 ct8), sl8⟩) (c8 : PySem.W.codeIn K cd8 "named_alike" = true) (k8 : PySem.W.keepIn K (.ref f8) = true)
    (a9 : PySem.W.nsIn K mainGlobals "plain_stripes" = some (some (.ref f9))) (l9 : K.lookup f9 = some ⟨oc9, od9, .func (PySem.W.fnOf "plain_stripes" "plain_stripes" (defArgs s_plain_stripes) (defBody s_plain_stripes) (defScope s_plain_stripes) .none kV9 dc9 pm9 an9 cd9 ct9), sl9⟩) (c9 : PySem.W.codeIn K cd9 "plain_stripes" = true) (k9 : PySem.W.keepIn K (.ref f9) = true)
    (a10 : PySem.W.nsIn K mainGlobals "judge_move" = some (some (.ref f10))) (l10 : K.lookup f10 = some ⟨oc10, od10, .func (PySem.W.fnOf "judge_move" "judge_move" (defArgs s_judge_move) (defBody s_judge_move) (defScope s_judge_move) .none kV10 dc10 pm10 an10 cd10 ct10), sl10⟩) (c10 : PySem.W.codeIn K cd10 "judge_move" = true) (k10 : PySem.W.keepIn K (.ref f10) = true)
    (a11 : PySem.W.nsIn K mainGlobals "_law_begun" = some (some (.ref f11))) (l11 : K.lookup f11 = some ⟨oc11, od11, .func (PySem.W.fnOf "_law_begun" "_law_begun" (defArgs s__law_begun) (defBody s__law_begun) (defScope s__law_begun) .none kV11 dc11 pm11 an11 cd11 ct11), sl11⟩) (c11 : PySem.W.codeIn K cd11 "_law_begun" = true) (k11 : PySem.W.keepIn K (.ref f11) = true)
    (a12 : PySem.W.nsIn K mainGlobals "_law_images" = some (some (.ref f12))) (l12 : K.lookup f12 = some ⟨oc12, od12, .func (PySem.W.fnOf "_law_images" "_law_images" (defArgs s__law_images) (defBody s__law_images) (defScope s__law_images) .none kV12 dc12 pm12 an12 cd12 ct12), sl12⟩) (c12 : PySem.W.codeIn K cd12 "_law_images" = true) (k12 : PySem.W.keepIn K (.ref f12) = true)
    (a13 : PySem.W.nsIn K mainGlobals "_law_named" = some (some (.ref f13))) (l13 : K.lookup f13 = some ⟨oc13, od13, .func (PySem.W.fnOf "_law_named" "_law_named" (defArgs s__law_named) (defBody s__law_named) (defScope s__law_named) .none kV13 dc13 pm13 an13 cd13 ct13), sl13⟩) (c13 : PySem.W.codeIn K cd13 "_law_named" = true) (k13 : PySem.W.keepIn K (.ref f13) = true)
    (a14 : PySem.W.nsIn K mainGlobals "_law_mixed" = some (some (.ref f14))) (l14 : K.lookup f14 = some ⟨oc14, od14, .func (PySem.W.fnOf "_law_mixed" "_law_mixed" (defArgs s__law_mixed) (defBody s__law_mixed) (defScope s__law_mixed) .none kV14 dc14 pm14 an14 cd14 ct14), sl14⟩) (c14 : PySem.W.codeIn K cd14 "_law_mixed" = true) (k14 : PySem.W.keepIn K (.ref f14) = true)
    (a15 : PySem.W.nsIn K mainGlobals "_law_rest" = some (some (.ref f15))) (l15 : K.lookup f15 = some ⟨oc15, od15, .func (PySem.W.fnOf "_law_rest" "_law_rest" (defArgs s__law_rest) (defBody s__law_rest) (defScope s__law_rest) .none kV15 dc15 pm15 an15 cd15 ct15), sl15⟩) (c15 : PySem.W.codeIn K cd15 "_law_rest" = true) (k15 : PySem.W.keepIn K (.ref f15) = true)
    (a16 : PySem.W.nsIn K mainGlobals "_law_pool" = some (some (.ref f16))) (l16 : K.lookup f16 = some ⟨oc16, od16, .func (PySem.W.fnOf "_law_pool" "_law_pool" (defArgs s__law_pool) (defBody s__law_pool) (defScope s__law_pool) .none kV16 dc16 pm16 an16 cd16 ct16), sl16⟩) (c16 : PySem.W.codeIn K cd16 "_law_pool" = true) (k16 : PySem.W.keepIn K (.ref f16) = true)
    (a17 : PySem.W.nsIn K mainGlobals "_law_next" = some (some (.ref f17))) (l17 : K.lookup f17 = some ⟨oc17, od17, .func (PySem.W.fnOf "_law_next" "_law_next" (defArgs s__law_next) (defBody s__law_next) (defScope s__law_next) .none kV17 dc17 pm17 an17 cd17 ct17), sl17⟩) (c17 : PySem.W.codeIn K cd17 "_law_next" = true) (k17 : PySem.W.keepIn K (.ref f17) = true)
    (a18 : PySem.W.nsIn K mainGlobals "_law_draw" = some (some (.ref f18))) (l18 : K.lookup f18 = some ⟨oc18, od18, .func (PySem.W.fnOf "_law_draw" "_law_draw" (defArgs s__law_draw) (defBody s__law_draw) (defScope s__law_draw) .none kV18 dc18 pm18 an18 cd18 ct18), sl18⟩) (c18 : PySem.W.codeIn K cd18 "_law_draw" = true) (k18 : PySem.W.keepIn K (.ref f18) = true)
    (a19 : PySem.W.nsIn K mainGlobals "_law_pick" = some (some (.ref f19))) (l19 : K.lookup f19 = some ⟨oc19, od19, .func (PySem.W.fnOf "_law_pick" "_law_pick" (defArgs s__law_pick) (defBody s__law_pick) (defScope s__law_pick) .none kV19 dc19 pm19 an19 cd19 ct19), sl19⟩) (c19 : PySem.W.codeIn K cd19 "_law_pick" = true) (k19 : PySem.W.keepIn K (.ref f19) = true)
    (a20 : PySem.W.nsIn K mainGlobals "_law_order_of" = some (some (.ref f20))) (l20 : K.lookup f20 = some ⟨oc20, od20, .func (PySem.W.fnOf "_law_order_of" "_law_order_of" (defArgs s__law_order_of) (defBody s__law_order_of) (defScope s__law_order_of) .none kV20 dc20 pm20 an20 cd20 ct20), sl20⟩) (c20 : PySem.W.codeIn K cd20 "_law_order_of" = true) (k20 : PySem.W.keepIn K (.ref f20) = true)
    (a21 : PySem.W.nsIn K mainGlobals "_law_same" = some (some (.ref f21))) (l21 : K.lookup f21 = some ⟨oc21, od21, .func (PySem.W.fnOf "_law_same" "_law_same" (defArgs s__law_same) (defBody s__law_same) (defScope s__law_same) .none kV21 dc21 pm21 an21 cd21 ct21), sl21⟩) (c21 : PySem.W.codeIn K cd21 "_law_same" = true) (k21 : PySem.W.keepIn K (.ref f21) = true)
    (a22 : PySem.W.nsIn K mainGlobals "_law_first_move" = some (some (.ref f22))) (l22 : K.lookup f22 = some ⟨oc22, od22, .func (PySem.W.fnOf "_law_first_move" "_law_first_move" (defArgs s__law_first_move) (defBody s__law_first_move) (defScope s__law_first_move) .none kV22 dc22 pm22 an22 cd22 ct22), sl22⟩) (c22 : PySem.W.codeIn K cd22 "_law_first_move" = true) (k22 : PySem.W.keepIn K (.ref f22) = true)
    (a23 : PySem.W.nsIn K mainGlobals "_law_some_naming" = some (some (.ref f23))) (l23 : K.lookup f23 = some ⟨oc23, od23, .func (PySem.W.fnOf "_law_some_naming" "_law_some_naming" (defArgs s__law_some_naming) (defBody s__law_some_naming) (defScope s__law_some_naming) .none kV23 dc23 pm23 an23 cd23 ct23), sl23⟩) (c23 : PySem.W.codeIn K cd23 "_law_some_naming" = true) (k23 : PySem.W.keepIn K (.ref f23) = true)
    (a24 : PySem.W.nsIn K mainGlobals "law" = some (some (.ref f24))) (l24 : K.lookup f24 = some ⟨oc24, od24, .func (PySem.W.fnOf "law" "law" (defArgs s_law) (defBody s_law) (defScope s_law) .none kV24 dc24 pm24 an24 cd24 ct24), sl24⟩) (c24 : PySem.W.codeIn K cd24 "law" = true) (k24 : PySem.W.keepIn K (.ref f24) = true)
    (z0 : PySem.W.nsIn K mainGlobals "all" = some none)
    (z1 : PySem.W.nsIn K mainGlobals "bool" = some none)
    (z2 : PySem.W.nsIn K mainGlobals "dict" = some none)
    (z3 : PySem.W.nsIn K mainGlobals "int" = some none)
    (z4 : PySem.W.nsIn K mainGlobals "isinstance" = some none)
    (z5 : PySem.W.nsIn K mainGlobals "len" = some none)
    (z6 : PySem.W.nsIn K mainGlobals "list" = some none)
    (z7 : PySem.W.nsIn K mainGlobals "range" = some none)
    (z8 : PySem.W.nsIn K mainGlobals "sorted" = some none)
    (z9 : PySem.W.nsIn K mainGlobals "str" = some none)
    (z10 : PySem.W.nsIn K mainGlobals "tuple" = some none)
    (hm : ∀ ns : List Int, ns.length ≤ 63 → ∃ outs, c_law [.im (.sq (ns.map D.int))] = some (.v (.bl true), outs)) :
    ∃ fd : FuncData, (∀ (s : Shared) (v : Value), BindsTo s fd ⟨[v], []⟩ [("script", v)]) ∧ ∀ base : Heap, K.In base → base.Ns mainGlobals mg → FnOk l.prog w K mg base CX0 7 fa fd ["script"] (spLaw K) := by
  have e := hfa.symm.trans (PySem.W.mg_of X G a24)
  cases e
  have Z : Blt mg := ⟨PySem.W.mg_none_of X G z0, PySem.W.mg_none_of X G z1, PySem.W.mg_none_of X G z2, PySem.W.mg_none_of X G z3, PySem.W.mg_none_of X G z4, PySem.W.mg_none_of X G z5, PySem.W.mg_none_of X G z6, PySem.W.mg_none_of X G z7, PySem.W.mg_none_of X G z8, PySem.W.mg_none_of X G z9, PySem.W.mg_none_of X G z10⟩
  refine ⟨PySem.W.fnOf "law" "law" (defArgs s_law) (defBody s_law) (defScope s_law) .none kV24 dc24 pm24 an24 cd24 ct24, fun s v => .of_eq rfl, fun base _ _ => ?_⟩
  have D_begun_at := d_begun_at (P := l.prog) (w := w) (base := base) (fun_mk (st := s_begun_at) l1 c1 k1) (PySem.W.mg_of X G a1) Z 
  have D_ways_round := d_ways_round (P := l.prog) (w := w) (base := base) (fun_mk (st := s_ways_round) l2 c2 k2) (PySem.W.mg_of X G a2) Z 
  have D_images := d_images (P := l.prog) (w := w) (base := base) (fun_mk (st := s_images) l3 c3 k3) (PySem.W.mg_of X G a3) Z D_begun_at D_ways_round
  have D_form := d_form (P := l.prog) (w := w) (base := base) (fun_mk (st := s_form) l4 c4 k4) (PySem.W.mg_of X G a4) Z D_images
  have D_is_form := d_is_form (P := l.prog) (w := w) (base := base) (fun_mk (st := s_is_form) l5 c5 k5) (PySem.W.mg_of X G a5) Z D_form
  have D_repeat := d_repeat (P := l.prog) (w := w) (base := base) (fun_mk (st := s_repeat) l6 c6 k6) (PySem.W.mg_of X G a6) Z 
  have D_move_to := d_move_to (P := l.prog) (w := w) (base := base) (fun_mk (st := s_move_to) l7 c7 k7) (PySem.W.mg_of X G a7) Z D_begun_at D_ways_round
  have D_named_alike := d_named_alike (P := l.prog) (w := w) (base := base) (fun_mk (st := s_named_alike) l8 c8 k8) (PySem.W.mg_of X G a8) Z 
  have D_plain_stripes := d_plain_stripes (P := l.prog) (w := w) (base := base) (fun_mk (st := s_plain_stripes) l9 c9 k9) (PySem.W.mg_of X G a9) Z D_images D_named_alike
  have D_judge_move := d_judge_move (P := l.prog) (w := w) (base := base) (fun_mk (st := s_judge_move) l10 c10 k10) (PySem.W.mg_of X G a10) Z D_begun_at D_ways_round
  have D__law_begun := d__law_begun (P := l.prog) (w := w) (base := base) (fun_mk (st := s__law_begun) l11 c11 k11) (PySem.W.mg_of X G a11) Z 
  have D__law_images := d__law_images (P := l.prog) (w := w) (base := base) (fun_mk (st := s__law_images) l12 c12 k12) (PySem.W.mg_of X G a12) Z D__law_begun
  have D__law_named := d__law_named (P := l.prog) (w := w) (base := base) (fun_mk (st := s__law_named) l13 c13 k13) (PySem.W.mg_of X G a13) Z 
  have D__law_mixed := d__law_mixed (P := l.prog) (w := w) (base := base) (fun_mk (st := s__law_mixed) l14 c14 k14) (PySem.W.mg_of X G a14) Z 
  have D__law_rest := d__law_rest (P := l.prog) (w := w) (base := base) (fun_mk (st := s__law_rest) l15 c15 k15) (PySem.W.mg_of X G a15) Z D__law_mixed
  have D__law_pool := d__law_pool (P := l.prog) (w := w) (base := base) (fun_mk (st := s__law_pool) l16 c16 k16) (PySem.W.mg_of X G a16) Z D__law_rest
  have D__law_next := d__law_next (P := l.prog) (w := w) (base := base) (fun_mk (st := s__law_next) l17 c17 k17) (PySem.W.mg_of X G a17) Z D__law_rest
  have D__law_draw := d__law_draw (P := l.prog) (w := w) (base := base) (fun_mk (st := s__law_draw) l18 c18 k18) (PySem.W.mg_of X G a18) Z D__law_rest
  have D__law_pick := d__law_pick (P := l.prog) (w := w) (base := base) (fun_mk (st := s__law_pick) l19 c19 k19) (PySem.W.mg_of X G a19) Z D__law_draw
  have D__law_order_of := d__law_order_of (P := l.prog) (w := w) (base := base) (fun_mk (st := s__law_order_of) l20 c20 k20) (PySem.W.mg_of X G a20) Z D__law_draw
  have D__law_same := d__law_same (P := l.prog) (w := w) (base := base) (fun_mk (st := s__law_same) l21 c21 k21) (PySem.W.mg_of X G a21) Z 
  have D__law_first_move := d__law_first_move (P := l.prog) (w := w) (base := base) (fun_mk (st := s__law_first_move) l22 c22 k22) (PySem.W.mg_of X G a22) Z D__law_begun
  have D__law_some_naming := d__law_some_naming (P := l.prog) (w := w) (base := base) (fun_mk (st := s__law_some_naming) l23 c23 k23) (PySem.W.mg_of X G a23) Z D__law_images D__law_named
  exact law_of (ok_law (fun_mk (st := s_law) l24 c24 k24) (PySem.W.mg_of X G a24) Z D_images D_form D_is_form D_repeat D_move_to D_named_alike D_plain_stripes D_judge_move D__law_begun D__law_images D__law_named D__law_pool D__law_next D__law_draw D__law_pick D__law_order_of D__law_same D__law_first_move D__law_some_naming) hm
end K94

set_option Elab.async false
set_option linter.all false
set_option maxRecDepth 10000
set_option maxHeartbeats 4000000
set_option autoImplicit false
namespace K94
open PySem L2 Dv
/-! ### the draws -/
section draws
@[reducible] def PoolD (ns : List Int) (a b c : Int) : D := .lst [.sq (ns.map D.int), .int a, .int b, .int c]
theorem mixed_ok (n p : Int) : ∃ v, 0 ≤ v ∧ c__law_mixed [.im (.int n), .im (.int p)] = some (.v (.int v), [.no, .no]) := by
  unfold c__law_mixed
  rw [run_eq 2 5 _ _ rfl]
  have m1 : mulOk n 48271 = true := mulOk_r (by decide)
  have m2 : mulOk p 69621 = true := mulOk_r (by decide)
  obtain ⟨f, hf⟩ : ∃ f, (n * 48271 + p * 69621 + 11).fmod 618970019642690137449562111 = f := ⟨_, rfl⟩
  have f1 : 0 ≤ f := by rw [← hf]; exact Int.fmod_nonneg_of_pos _ (by decide)
  have f2 : f < 618970019642690137449562111 := by rw [← hf]; exact Int.fmod_lt_of_pos _ (by decide)
  have m3 : mulOk f f = true := mulOk_n (by omega) (by omega)
  have m4 : mulOk 7 f = true := mulOk_l (by decide)
  obtain ⟨g, hg⟩ : ∃ g, (f * f + 7 * f + p).fmod 162259276829213363391578010288127 = g := ⟨_, rfl⟩
  have g1 : 0 ≤ g := by rw [← hg]; exact Int.fmod_nonneg_of_pos _ (by decide)
  have g2 : g < 162259276829213363391578010288127 := by rw [← hg]; exact Int.fmod_lt_of_pos _ (by decide)
  have m5 : mulOk g g = true := mulOk_n (by omega) (by omega)
  have m6 : mulOk g 618970019642690137449562111 = true := mulOk_n (by omega) (by decide)
  have z1 : (618970019642690137449562111 : Int) ≠ 0 := by decide
  have z2 : (162259276829213363391578010288127 : Int) ≠ 0 := by decide
  have h1 : 0 ≤ (g * g + f).fmod 618970019642690137449562111 := Int.fmod_nonneg_of_pos _ (by decide)
  refine ⟨g * 618970019642690137449562111 + (g * g + f).fmod 618970019642690137449562111, by omega, ?_⟩
  simp -implicitDefEqProofs only [b__law_mixed, p__law_mixed_1, p__law_mixed_2, p__law_mixed_3, p__law_mixed_4, done, m1, m2, m3, m4, m5, m6, hf, hg, z1, z2, ne_eq, List.cons_append, List.nil_append, List.replicate, Nat.reduceSub, S.seq, S.set, S.asg, S.own, S.ite, S.nil, S.ret, S.retN, S.drop, S.par, S.brk, S.cont, E.cb, E.var, E.c, E.cons, E.nil, E.rds, E.fzs, E.bin, E.un, E.and, E.or, E.not, E.bool, E.ite, E.lst, E.tup, E.call, E.callB, E.slice, E.part, E.noPart, E.chain, E.dK, E.dT, E.isi, isi, E.mt, E.tyD, E.chg,
    T.ofE, T.tru, T.truth, T.and, T.or, T.not, T.yes, rd, fz, nf, G.name, G.sub, G.setIx, setIm, setOw, putOw, own, kill, argsOf, iosOf, putBack, scalD, rOk, oLen, oInt, oAdd, oSub, oMul, oMod, oDiv, oPow, oNeg, oLt, oLe, oGt, oGe, oIx, oIsN, oIsNotN, oIsB, oIsNotB, isN, isB, oEq, oNe, oIn, oNotIn, oSl, oList, oTuple, muAppend, muExtend, muPop, retOf, keepIo, giveE, wipeE, freeE, turnS, turnL, I.any,
    List.getElem?_cons_succ, List.getElem?_cons_zero, List.set_cons_succ, List.set_cons_zero, Option.bind_some, Option.map_some, Option.getD_some, List.map_cons, List.map_nil, List.take_succ_cons, List.take_zero, List.length_cons, List.length_nil, List.length_map, List.nodup_cons, List.not_mem_nil, List.mem_cons, not_false_eq_true, and_self, or_self, List.nodup_nil, List.all_cons, List.all_nil, Bool.and_self, Bool.and_true, Bool.true_and, Bool.false_and, Bool.and_false, Bool.or_true, Bool.true_or, Bool.or_false, Bool.false_or, Bool.not_true, Bool.not_false, if_true, if_false, ↓reduceIte, Bool.false_eq_true, beq_self_eq_true, reduceCtorEq, String.reduceBEq, Nat.reduceEqDiff, Nat.reduceAdd, Nat.zero_add, Nat.reduceLeDiff, beq_true, beq_false, Int.zero_add]
theorem rest_ok (ns : List Int) (p f : Int) : ∃ v, 0 ≤ v ∧ c__law_rest [.im (.sq (ns.map D.int)), .im (.int p), .im (.int f)] = some (.v (.int v), [.no, .no, .no]) := by
  unfold c__law_rest
  rw [run_eq 3 4 _ _ rfl]
  have e18 : ((0 : Int) ≤ 18 ∧ (18 : Int) ≤ 1000000 ∧ Int.natAbs 10 < 2 ^ 64) := by decide
  have p18 : (10 : Int) ^ Int.toNat 18 = 1000000000000000000 := by decide
  have m3 : mulOk f 1000003 = true := mulOk_r (by decide)
  obtain ⟨x, hx⟩ : ∃ x, p__law_rest_2 [.im (.sq (ns.map D.int)), .im (.int p), .im (.int f), .im (.int 0)] = some (.nx [.im (.sq (ns.map D.int)), .im (.int p), .im (.int f), .im (.int x)]) := by
    by_cases c : 0 < ns.length
    · have c1 : ((0 : Int) < (ns.length : Int)) := by omega
      have c2 : ¬ ((ns.length : Int) = 0) := by omega
      obtain ⟨x, hx⟩ := atI_in (xs := ns) (i := p.fmod (ns.length : Int)) (Int.fmod_nonneg_of_pos _ c1) (Int.fmod_lt_of_pos _ c1)
      refine ⟨x, ?_⟩
      simp -implicitDefEqProofs only [p__law_rest_2, p__law_rest_3, List.cons_append, List.nil_append, List.replicate, Nat.reduceSub, S.seq, S.set, S.asg, S.own, S.ite, S.nil, S.ret, S.retN, S.drop, S.par, S.brk, S.cont, E.cb, E.var, E.c, E.cons, E.nil, E.rds, E.fzs, E.bin, E.un, E.and, E.or, E.not, E.bool, E.ite, E.lst, E.tup, E.call, E.callB, E.slice, E.part, E.noPart, E.chain, E.dK, E.dT, E.isi, isi, E.mt, E.tyD, E.chg,
    T.ofE, T.tru, T.truth, T.and, T.or, T.not, T.yes, rd, fz, nf, G.name, G.sub, G.setIx, setIm, setOw, putOw, own, kill, argsOf, iosOf, putBack, scalD, rOk, oLen, oInt, oAdd, oSub, oMul, oMod, oDiv, oPow, oNeg, oLt, oLe, oGt, oGe, oIx, oIsN, oIsNotN, oIsB, oIsNotB, isN, isB, oEq, oNe, oIn, oNotIn, oSl, oList, oTuple, muAppend, muExtend, muPop, retOf, keepIo, giveE, wipeE, freeE, turnS, turnL, I.any,
    List.getElem?_cons_succ, List.getElem?_cons_zero, List.set_cons_succ, List.set_cons_zero, Option.bind_some, Option.map_some, Option.getD_some, List.map_cons, List.map_nil, List.take_succ_cons, List.take_zero, List.length_cons, List.length_nil, List.length_map, List.nodup_cons, List.not_mem_nil, List.mem_cons, not_false_eq_true, and_self, or_self, List.nodup_nil, List.all_cons, List.all_nil, Bool.and_self, Bool.and_true, Bool.true_and, Bool.false_and, Bool.and_false, Bool.or_true, Bool.true_or, Bool.or_false, Bool.false_or, Bool.not_true, Bool.not_false, if_true, if_false, ↓reduceIte, Bool.false_eq_true, beq_self_eq_true, reduceCtorEq, String.reduceBEq, Nat.reduceEqDiff, Nat.reduceAdd, Nat.zero_add, Nat.reduceLeDiff, beq_true, beq_false, Int.zero_add, c1, c2, decide_true, ne_eq, atI_map, hx]
    · have c1 : ¬ ((0 : Int) < (ns.length : Int)) := by omega
      refine ⟨0, ?_⟩
      simp -implicitDefEqProofs only [p__law_rest_2, List.cons_append, List.nil_append, List.replicate, Nat.reduceSub, S.seq, S.set, S.asg, S.own, S.ite, S.nil, S.ret, S.retN, S.drop, S.par, S.brk, S.cont, E.cb, E.var, E.c, E.cons, E.nil, E.rds, E.fzs, E.bin, E.un, E.and, E.or, E.not, E.bool, E.ite, E.lst, E.tup, E.call, E.callB, E.slice, E.part, E.noPart, E.chain, E.dK, E.dT, E.isi, isi, E.mt, E.tyD, E.chg,
    T.ofE, T.tru, T.truth, T.and, T.or, T.not, T.yes, rd, fz, nf, G.name, G.sub, G.setIx, setIm, setOw, putOw, own, kill, argsOf, iosOf, putBack, scalD, rOk, oLen, oInt, oAdd, oSub, oMul, oMod, oDiv, oPow, oNeg, oLt, oLe, oGt, oGe, oIx, oIsN, oIsNotN, oIsB, oIsNotB, isN, isB, oEq, oNe, oIn, oNotIn, oSl, oList, oTuple, muAppend, muExtend, muPop, retOf, keepIo, giveE, wipeE, freeE, turnS, turnL, I.any,
    List.getElem?_cons_succ, List.getElem?_cons_zero, List.set_cons_succ, List.set_cons_zero, Option.bind_some, Option.map_some, Option.getD_some, List.map_cons, List.map_nil, List.take_succ_cons, List.take_zero, List.length_cons, List.length_nil, List.length_map, List.nodup_cons, List.not_mem_nil, List.mem_cons, not_false_eq_true, and_self, or_self, List.nodup_nil, List.all_cons, List.all_nil, Bool.and_self, Bool.and_true, Bool.true_and, Bool.false_and, Bool.and_false, Bool.or_true, Bool.true_or, Bool.or_false, Bool.false_or, Bool.not_true, Bool.not_false, if_true, if_false, ↓reduceIte, Bool.false_eq_true, beq_self_eq_true, reduceCtorEq, String.reduceBEq, Nat.reduceEqDiff, Nat.reduceAdd, Nat.zero_add, Nat.reduceLeDiff, beq_true, beq_false, Int.zero_add, c1, decide_false]
  have e0 : p__law_rest_1 [.im (.sq (ns.map D.int)), .im (.int p), .im (.int f), .no] = some (.nx [.im (.sq (ns.map D.int)), .im (.int p), .im (.int f), .im (.int 0)]) := rfl
  show ∃ v, 0 ≤ v ∧ done 3 4 (S.seq _ _ [.im (.sq (ns.map D.int)), .im (.int p), .im (.int f), .no]) = _
  rw [seq_nx e0, seq_nx hx]
  obtain ⟨y, hy0, hy⟩ : ∃ y, 0 ≤ y ∧ p__law_rest_4 [.im (.sq (ns.map D.int)), .im (.int p), .im (.int f), .im (.int x)] = some (.nx [.im (.sq (ns.map D.int)), .im (.int p), .im (.int f), .im (.int y)]) := by
    by_cases c : x < 0
    · refine ⟨1 - 2 * x, by omega, ?_⟩
      have m : mulOk 2 x = true := mulOk_l (by decide)
      simp -implicitDefEqProofs only [p__law_rest_4, p__law_rest_5, List.cons_append, List.nil_append, List.replicate, Nat.reduceSub, S.seq, S.set, S.asg, S.own, S.ite, S.nil, S.ret, S.retN, S.drop, S.par, S.brk, S.cont, E.cb, E.var, E.c, E.cons, E.nil, E.rds, E.fzs, E.bin, E.un, E.and, E.or, E.not, E.bool, E.ite, E.lst, E.tup, E.call, E.callB, E.slice, E.part, E.noPart, E.chain, E.dK, E.dT, E.isi, isi, E.mt, E.tyD, E.chg,
    T.ofE, T.tru, T.truth, T.and, T.or, T.not, T.yes, rd, fz, nf, G.name, G.sub, G.setIx, setIm, setOw, putOw, own, kill, argsOf, iosOf, putBack, scalD, rOk, oLen, oInt, oAdd, oSub, oMul, oMod, oDiv, oPow, oNeg, oLt, oLe, oGt, oGe, oIx, oIsN, oIsNotN, oIsB, oIsNotB, isN, isB, oEq, oNe, oIn, oNotIn, oSl, oList, oTuple, muAppend, muExtend, muPop, retOf, keepIo, giveE, wipeE, freeE, turnS, turnL, I.any,
    List.getElem?_cons_succ, List.getElem?_cons_zero, List.set_cons_succ, List.set_cons_zero, Option.bind_some, Option.map_some, Option.getD_some, List.map_cons, List.map_nil, List.take_succ_cons, List.take_zero, List.length_cons, List.length_nil, List.length_map, List.nodup_cons, List.not_mem_nil, List.mem_cons, not_false_eq_true, and_self, or_self, List.nodup_nil, List.all_cons, List.all_nil, Bool.and_self, Bool.and_true, Bool.true_and, Bool.false_and, Bool.and_false, Bool.or_true, Bool.true_or, Bool.or_false, Bool.false_or, Bool.not_true, Bool.not_false, if_true, if_false, ↓reduceIte, Bool.false_eq_true, beq_self_eq_true, reduceCtorEq, String.reduceBEq, Nat.reduceEqDiff, Nat.reduceAdd, Nat.zero_add, Nat.reduceLeDiff, beq_true, beq_false, Int.zero_add, c, decide_true, m]
    · refine ⟨x, by omega, ?_⟩
      simp -implicitDefEqProofs only [p__law_rest_4, List.cons_append, List.nil_append, List.replicate, Nat.reduceSub, S.seq, S.set, S.asg, S.own, S.ite, S.nil, S.ret, S.retN, S.drop, S.par, S.brk, S.cont, E.cb, E.var, E.c, E.cons, E.nil, E.rds, E.fzs, E.bin, E.un, E.and, E.or, E.not, E.bool, E.ite, E.lst, E.tup, E.call, E.callB, E.slice, E.part, E.noPart, E.chain, E.dK, E.dT, E.isi, isi, E.mt, E.tyD, E.chg,
    T.ofE, T.tru, T.truth, T.and, T.or, T.not, T.yes, rd, fz, nf, G.name, G.sub, G.setIx, setIm, setOw, putOw, own, kill, argsOf, iosOf, putBack, scalD, rOk, oLen, oInt, oAdd, oSub, oMul, oMod, oDiv, oPow, oNeg, oLt, oLe, oGt, oGe, oIx, oIsN, oIsNotN, oIsB, oIsNotB, isN, isB, oEq, oNe, oIn, oNotIn, oSl, oList, oTuple, muAppend, muExtend, muPop, retOf, keepIo, giveE, wipeE, freeE, turnS, turnL, I.any,
    List.getElem?_cons_succ, List.getElem?_cons_zero, List.set_cons_succ, List.set_cons_zero, Option.bind_some, Option.map_some, Option.getD_some, List.map_cons, List.map_nil, List.take_succ_cons, List.take_zero, List.length_cons, List.length_nil, List.length_map, List.nodup_cons, List.not_mem_nil, List.mem_cons, not_false_eq_true, and_self, or_self, List.nodup_nil, List.all_cons, List.all_nil, Bool.and_self, Bool.and_true, Bool.true_and, Bool.false_and, Bool.and_false, Bool.or_true, Bool.true_or, Bool.or_false, Bool.false_or, Bool.not_true, Bool.not_false, if_true, if_false, ↓reduceIte, Bool.false_eq_true, beq_self_eq_true, reduceCtorEq, String.reduceBEq, Nat.reduceEqDiff, Nat.reduceAdd, Nat.zero_add, Nat.reduceLeDiff, beq_true, beq_false, Int.zero_add, c, decide_false]
  rw [seq_nx hy]
  by_cases c : (f = 0 ∧ p < (ns.length : Int)) ∧ 1000000000000000000 ≤ y
  · obtain ⟨⟨c1, c2⟩, c3⟩ := c
    subst c1
    refine ⟨y - 1000000000000000000, by omega, ?_⟩
    simp -implicitDefEqProofs only [p__law_rest_6, p__law_rest_7, done, List.cons_append, List.nil_append, List.replicate, Nat.reduceSub, S.seq, S.set, S.asg, S.own, S.ite, S.nil, S.ret, S.retN, S.drop, S.par, S.brk, S.cont, E.cb, E.var, E.c, E.cons, E.nil, E.rds, E.fzs, E.bin, E.un, E.and, E.or, E.not, E.bool, E.ite, E.lst, E.tup, E.call, E.callB, E.slice, E.part, E.noPart, E.chain, E.dK, E.dT, E.isi, isi, E.mt, E.tyD, E.chg,
    T.ofE, T.tru, T.truth, T.and, T.or, T.not, T.yes, rd, fz, nf, G.name, G.sub, G.setIx, setIm, setOw, putOw, own, kill, argsOf, iosOf, putBack, scalD, rOk, oLen, oInt, oAdd, oSub, oMul, oMod, oDiv, oPow, oNeg, oLt, oLe, oGt, oGe, oIx, oIsN, oIsNotN, oIsB, oIsNotB, isN, isB, oEq, oNe, oIn, oNotIn, oSl, oList, oTuple, muAppend, muExtend, muPop, retOf, keepIo, giveE, wipeE, freeE, turnS, turnL, I.any,
    List.getElem?_cons_succ, List.getElem?_cons_zero, List.set_cons_succ, List.set_cons_zero, Option.bind_some, Option.map_some, Option.getD_some, List.map_cons, List.map_nil, List.take_succ_cons, List.take_zero, List.length_cons, List.length_nil, List.length_map, List.nodup_cons, List.not_mem_nil, List.mem_cons, not_false_eq_true, and_self, or_self, List.nodup_nil, List.all_cons, List.all_nil, Bool.and_self, Bool.and_true, Bool.true_and, Bool.false_and, Bool.and_false, Bool.or_true, Bool.true_or, Bool.or_false, Bool.false_or, Bool.not_true, Bool.not_false, if_true, if_false, ↓reduceIte, Bool.false_eq_true, beq_self_eq_true, reduceCtorEq, String.reduceBEq, Nat.reduceEqDiff, Nat.reduceAdd, Nat.zero_add, Nat.reduceLeDiff, beq_true, beq_false, Int.zero_add, eqD_int, c2, c3, decide_true, e18, p18]
  · obtain ⟨v, v0, hv⟩ := mixed_ok (y + f * 1000003) p
    refine ⟨v, v0, ?_⟩
    have e : p__law_rest_6 [.im (.sq (ns.map D.int)), .im (.int p), .im (.int f), .im (.int y)] = some (.nx [.im (.sq (ns.map D.int)), .im (.int p), .im (.int f), .im (.int y)]) := by
      by_cases c1 : f = 0
      · by_cases c2 : p < (ns.length : Int)
        · have c3 : ¬ 1000000000000000000 ≤ y := fun q => c ⟨⟨c1, c2⟩, q⟩
          simp -implicitDefEqProofs only [p__law_rest_6, List.cons_append, List.nil_append, List.replicate, Nat.reduceSub, S.seq, S.set, S.asg, S.own, S.ite, S.nil, S.ret, S.retN, S.drop, S.par, S.brk, S.cont, E.cb, E.var, E.c, E.cons, E.nil, E.rds, E.fzs, E.bin, E.un, E.and, E.or, E.not, E.bool, E.ite, E.lst, E.tup, E.call, E.callB, E.slice, E.part, E.noPart, E.chain, E.dK, E.dT, E.isi, isi, E.mt, E.tyD, E.chg,
    T.ofE, T.tru, T.truth, T.and, T.or, T.not, T.yes, rd, fz, nf, G.name, G.sub, G.setIx, setIm, setOw, putOw, own, kill, argsOf, iosOf, putBack, scalD, rOk, oLen, oInt, oAdd, oSub, oMul, oMod, oDiv, oPow, oNeg, oLt, oLe, oGt, oGe, oIx, oIsN, oIsNotN, oIsB, oIsNotB, isN, isB, oEq, oNe, oIn, oNotIn, oSl, oList, oTuple, muAppend, muExtend, muPop, retOf, keepIo, giveE, wipeE, freeE, turnS, turnL, I.any,
    List.getElem?_cons_succ, List.getElem?_cons_zero, List.set_cons_succ, List.set_cons_zero, Option.bind_some, Option.map_some, Option.getD_some, List.map_cons, List.map_nil, List.take_succ_cons, List.take_zero, List.length_cons, List.length_nil, List.length_map, List.nodup_cons, List.not_mem_nil, List.mem_cons, not_false_eq_true, and_self, or_self, List.nodup_nil, List.all_cons, List.all_nil, Bool.and_self, Bool.and_true, Bool.true_and, Bool.false_and, Bool.and_false, Bool.or_true, Bool.true_or, Bool.or_false, Bool.false_or, Bool.not_true, Bool.not_false, if_true, if_false, ↓reduceIte, Bool.false_eq_true, beq_self_eq_true, reduceCtorEq, String.reduceBEq, Nat.reduceEqDiff, Nat.reduceAdd, Nat.zero_add, Nat.reduceLeDiff, beq_true, beq_false, Int.zero_add, eqD_int, c1, c2, c3, decide_true, decide_false, e18, p18]
        · simp -implicitDefEqProofs only [p__law_rest_6, List.cons_append, List.nil_append, List.replicate, Nat.reduceSub, S.seq, S.set, S.asg, S.own, S.ite, S.nil, S.ret, S.retN, S.drop, S.par, S.brk, S.cont, E.cb, E.var, E.c, E.cons, E.nil, E.rds, E.fzs, E.bin, E.un, E.and, E.or, E.not, E.bool, E.ite, E.lst, E.tup, E.call, E.callB, E.slice, E.part, E.noPart, E.chain, E.dK, E.dT, E.isi, isi, E.mt, E.tyD, E.chg,
    T.ofE, T.tru, T.truth, T.and, T.or, T.not, T.yes, rd, fz, nf, G.name, G.sub, G.setIx, setIm, setOw, putOw, own, kill, argsOf, iosOf, putBack, scalD, rOk, oLen, oInt, oAdd, oSub, oMul, oMod, oDiv, oPow, oNeg, oLt, oLe, oGt, oGe, oIx, oIsN, oIsNotN, oIsB, oIsNotB, isN, isB, oEq, oNe, oIn, oNotIn, oSl, oList, oTuple, muAppend, muExtend, muPop, retOf, keepIo, giveE, wipeE, freeE, turnS, turnL, I.any,
    List.getElem?_cons_succ, List.getElem?_cons_zero, List.set_cons_succ, List.set_cons_zero, Option.bind_some, Option.map_some, Option.getD_some, List.map_cons, List.map_nil, List.take_succ_cons, List.take_zero, List.length_cons, List.length_nil, List.length_map, List.nodup_cons, List.not_mem_nil, List.mem_cons, not_false_eq_true, and_self, or_self, List.nodup_nil, List.all_cons, List.all_nil, Bool.and_self, Bool.and_true, Bool.true_and, Bool.false_and, Bool.and_false, Bool.or_true, Bool.true_or, Bool.or_false, Bool.false_or, Bool.not_true, Bool.not_false, if_true, if_false, ↓reduceIte, Bool.false_eq_true, beq_self_eq_true, reduceCtorEq, String.reduceBEq, Nat.reduceEqDiff, Nat.reduceAdd, Nat.zero_add, Nat.reduceLeDiff, beq_true, beq_false, Int.zero_add, eqD_int, c1, c2, decide_true, decide_false]
      · simp -implicitDefEqProofs only [p__law_rest_6, List.cons_append, List.nil_append, List.replicate, Nat.reduceSub, S.seq, S.set, S.asg, S.own, S.ite, S.nil, S.ret, S.retN, S.drop, S.par, S.brk, S.cont, E.cb, E.var, E.c, E.cons, E.nil, E.rds, E.fzs, E.bin, E.un, E.and, E.or, E.not, E.bool, E.ite, E.lst, E.tup, E.call, E.callB, E.slice, E.part, E.noPart, E.chain, E.dK, E.dT, E.isi, isi, E.mt, E.tyD, E.chg,
    T.ofE, T.tru, T.truth, T.and, T.or, T.not, T.yes, rd, fz, nf, G.name, G.sub, G.setIx, setIm, setOw, putOw, own, kill, argsOf, iosOf, putBack, scalD, rOk, oLen, oInt, oAdd, oSub, oMul, oMod, oDiv, oPow, oNeg, oLt, oLe, oGt, oGe, oIx, oIsN, oIsNotN, oIsB, oIsNotB, isN, isB, oEq, oNe, oIn, oNotIn, oSl, oList, oTuple, muAppend, muExtend, muPop, retOf, keepIo, giveE, wipeE, freeE, turnS, turnL, I.any,
    List.getElem?_cons_succ, List.getElem?_cons_zero, List.set_cons_succ, List.set_cons_zero, Option.bind_some, Option.map_some, Option.getD_some, List.map_cons, List.map_nil, List.take_succ_cons, List.take_zero, List.length_cons, List.length_nil, List.length_map, List.nodup_cons, List.not_mem_nil, List.mem_cons, not_false_eq_true, and_self, or_self, List.nodup_nil, List.all_cons, List.all_nil, Bool.and_self, Bool.and_true, Bool.true_and, Bool.false_and, Bool.and_false, Bool.or_true, Bool.true_or, Bool.or_false, Bool.false_or, Bool.not_true, Bool.not_false, if_true, if_false, ↓reduceIte, Bool.false_eq_true, beq_self_eq_true, reduceCtorEq, String.reduceBEq, Nat.reduceEqDiff, Nat.reduceAdd, Nat.zero_add, Nat.reduceLeDiff, beq_true, beq_false, Int.zero_add, eqD_int, c1, decide_false]
    rw [seq_nx e]
    simp -implicitDefEqProofs only [p__law_rest_8, done, List.cons_append, List.nil_append, List.replicate, Nat.reduceSub, S.seq, S.set, S.asg, S.own, S.ite, S.nil, S.ret, S.retN, S.drop, S.par, S.brk, S.cont, E.cb, E.var, E.c, E.cons, E.nil, E.rds, E.fzs, E.bin, E.un, E.and, E.or, E.not, E.bool, E.ite, E.lst, E.tup, E.call, E.callB, E.slice, E.part, E.noPart, E.chain, E.dK, E.dT, E.isi, isi, E.mt, E.tyD, E.chg,
    T.ofE, T.tru, T.truth, T.and, T.or, T.not, T.yes, rd, fz, nf, G.name, G.sub, G.setIx, setIm, setOw, putOw, own, kill, argsOf, iosOf, putBack, scalD, rOk, oLen, oInt, oAdd, oSub, oMul, oMod, oDiv, oPow, oNeg, oLt, oLe, oGt, oGe, oIx, oIsN, oIsNotN, oIsB, oIsNotB, isN, isB, oEq, oNe, oIn, oNotIn, oSl, oList, oTuple, muAppend, muExtend, muPop, retOf, keepIo, giveE, wipeE, freeE, turnS, turnL, I.any,
    List.getElem?_cons_succ, List.getElem?_cons_zero, List.set_cons_succ, List.set_cons_zero, Option.bind_some, Option.map_some, Option.getD_some, List.map_cons, List.map_nil, List.take_succ_cons, List.take_zero, List.length_cons, List.length_nil, List.length_map, List.nodup_cons, List.not_mem_nil, List.mem_cons, not_false_eq_true, and_self, or_self, List.nodup_nil, List.all_cons, List.all_nil, Bool.and_self, Bool.and_true, Bool.true_and, Bool.false_and, Bool.and_false, Bool.or_true, Bool.true_or, Bool.or_false, Bool.false_or, Bool.not_true, Bool.not_false, if_true, if_false, ↓reduceIte, Bool.false_eq_true, beq_self_eq_true, reduceCtorEq, String.reduceBEq, Nat.reduceEqDiff, Nat.reduceAdd, Nat.zero_add, Nat.reduceLeDiff, beq_true, beq_false, Int.zero_add, m3, hv]
theorem pool_ok (ns : List Int) : ∃ b, 0 ≤ b ∧ c__law_pool [.im (.sq (ns.map D.int))] = some (.f (PoolD ns 0 b 0), [.no]) := by
  obtain ⟨v, v0, hv⟩ := rest_ok ns 0 0
  refine ⟨v, v0, ?_⟩
  unfold c__law_pool
  rw [run_eq 1 1 _ _ rfl]
  simp -implicitDefEqProofs only [b__law_pool, p__law_pool_1, done, List.cons_append, List.nil_append, List.replicate, Nat.reduceSub, S.seq, S.set, S.asg, S.own, S.ite, S.nil, S.ret, S.retN, S.drop, S.par, S.brk, S.cont, E.cb, E.var, E.c, E.cons, E.nil, E.rds, E.fzs, E.bin, E.un, E.and, E.or, E.not, E.bool, E.ite, E.lst, E.tup, E.call, E.callB, E.slice, E.part, E.noPart, E.chain, E.dK, E.dT, E.isi, isi, E.mt, E.tyD, E.chg,
    T.ofE, T.tru, T.truth, T.and, T.or, T.not, T.yes, rd, fz, nf, G.name, G.sub, G.setIx, setIm, setOw, putOw, own, kill, argsOf, iosOf, putBack, scalD, rOk, oLen, oInt, oAdd, oSub, oMul, oMod, oDiv, oPow, oNeg, oLt, oLe, oGt, oGe, oIx, oIsN, oIsNotN, oIsB, oIsNotB, isN, isB, oEq, oNe, oIn, oNotIn, oSl, oList, oTuple, muAppend, muExtend, muPop, retOf, keepIo, giveE, wipeE, freeE, turnS, turnL, I.any,
    List.getElem?_cons_succ, List.getElem?_cons_zero, List.set_cons_succ, List.set_cons_zero, Option.bind_some, Option.map_some, Option.getD_some, List.map_cons, List.map_nil, List.take_succ_cons, List.take_zero, List.length_cons, List.length_nil, List.length_map, List.nodup_cons, List.not_mem_nil, List.mem_cons, not_false_eq_true, and_self, or_self, List.nodup_nil, List.all_cons, List.all_nil, Bool.and_self, Bool.and_true, Bool.true_and, Bool.false_and, Bool.and_false, Bool.or_true, Bool.true_or, Bool.or_false, Bool.false_or, Bool.not_true, Bool.not_false, if_true, if_false, ↓reduceIte, Bool.false_eq_true, beq_self_eq_true, reduceCtorEq, String.reduceBEq, Nat.reduceEqDiff, Nat.reduceAdd, Nat.zero_add, Nat.reduceLeDiff, beq_true, beq_false, Int.zero_add, hv]
theorem next_ok (ns : List Int) (a b c : Int) : ∃ a' b' c', 0 ≤ b' ∧ c__law_next [.io (PoolD ns a b c)] = some (.v .non, [.io (PoolD ns a' b' c')]) := by
  obtain ⟨v, v0, hv⟩ := rest_ok ns (a + 1) 0
  refine ⟨a + 1, v, 0, v0, ?_⟩
  unfold c__law_next
  rw [run_eq 1 1 _ _ rfl]
  simp -implicitDefEqProofs only [b__law_next, p__law_next_1, p__law_next_2, p__law_next_3, done, List.cons_append, List.nil_append, List.replicate, Nat.reduceSub, S.seq, S.set, S.asg, S.own, S.ite, S.nil, S.ret, S.retN, S.drop, S.par, S.brk, S.cont, E.cb, E.var, E.c, E.cons, E.nil, E.rds, E.fzs, E.bin, E.un, E.and, E.or, E.not, E.bool, E.ite, E.lst, E.tup, E.call, E.callB, E.slice, E.part, E.noPart, E.chain, E.dK, E.dT, E.isi, isi, E.mt, E.tyD, E.chg,
    T.ofE, T.tru, T.truth, T.and, T.or, T.not, T.yes, rd, fz, nf, G.name, G.sub, G.setIx, setIm, setOw, putOw, own, kill, argsOf, iosOf, putBack, scalD, rOk, oLen, oInt, oAdd, oSub, oMul, oMod, oDiv, oPow, oNeg, oLt, oLe, oGt, oGe, oIx, oIsN, oIsNotN, oIsB, oIsNotB, isN, isB, oEq, oNe, oIn, oNotIn, oSl, oList, oTuple, muAppend, muExtend, muPop, retOf, keepIo, giveE, wipeE, freeE, turnS, turnL, I.any,
    List.getElem?_cons_succ, List.getElem?_cons_zero, List.set_cons_succ, List.set_cons_zero, Option.bind_some, Option.map_some, Option.getD_some, List.map_cons, List.map_nil, List.take_succ_cons, List.take_zero, List.length_cons, List.length_nil, List.length_map, List.nodup_cons, List.not_mem_nil, List.mem_cons, not_false_eq_true, and_self, or_self, List.nodup_nil, List.all_cons, List.all_nil, Bool.and_self, Bool.and_true, Bool.true_and, Bool.false_and, Bool.and_false, Bool.or_true, Bool.true_or, Bool.or_false, Bool.false_or, Bool.not_true, Bool.not_false, if_true, if_false, ↓reduceIte, Bool.false_eq_true, beq_self_eq_true, reduceCtorEq, String.reduceBEq, Nat.reduceEqDiff, Nat.reduceAdd, Nat.zero_add, Nat.reduceLeDiff, beq_true, beq_false, Int.zero_add, hv, atI_0, atI_1, atI_2, atI_3, ixN4_1, ixN4_2, ixN4_3]
theorem draw_ok (ns : List Int) (a b c l : Int) (hb : 0 ≤ b) (hl : 0 < l) (hl2 : l < 1000000) : ∃ v b' c', 0 ≤ v ∧ v < l ∧ 0 ≤ b' ∧ c__law_draw [.io (PoolD ns a b c), .im (.int l)] = some (.v (.int v), [.io (PoolD ns a b' c'), .no]) := by
  unfold c__law_draw
  rw [run_eq 2 3 _ _ rfl]
  obtain ⟨b1, c1, h0, h1⟩ : ∃ b1 c1, 0 ≤ b1 ∧ p__law_draw_1 [.io (PoolD ns a b c), .im (.int l), .no] = some (.nx [.io (PoolD ns a b1 c1), .im (.int l), .no]) := by
    by_cases q : b ≤ 1
    · obtain ⟨v, v0, hv⟩ := rest_ok ns a (c + 1)
      refine ⟨v, c + 1, v0, ?_⟩
      simp -implicitDefEqProofs only [p__law_draw_1, p__law_draw_2, p__law_draw_3, List.cons_append, List.nil_append, List.replicate, Nat.reduceSub, S.seq, S.set, S.asg, S.own, S.ite, S.nil, S.ret, S.retN, S.drop, S.par, S.brk, S.cont, E.cb, E.var, E.c, E.cons, E.nil, E.rds, E.fzs, E.bin, E.un, E.and, E.or, E.not, E.bool, E.ite, E.lst, E.tup, E.call, E.callB, E.slice, E.part, E.noPart, E.chain, E.dK, E.dT, E.isi, isi, E.mt, E.tyD, E.chg,
    T.ofE, T.tru, T.truth, T.and, T.or, T.not, T.yes, rd, fz, nf, G.name, G.sub, G.setIx, setIm, setOw, putOw, own, kill, argsOf, iosOf, putBack, scalD, rOk, oLen, oInt, oAdd, oSub, oMul, oMod, oDiv, oPow, oNeg, oLt, oLe, oGt, oGe, oIx, oIsN, oIsNotN, oIsB, oIsNotB, isN, isB, oEq, oNe, oIn, oNotIn, oSl, oList, oTuple, muAppend, muExtend, muPop, retOf, keepIo, giveE, wipeE, freeE, turnS, turnL, I.any,
    List.getElem?_cons_succ, List.getElem?_cons_zero, List.set_cons_succ, List.set_cons_zero, Option.bind_some, Option.map_some, Option.getD_some, List.map_cons, List.map_nil, List.take_succ_cons, List.take_zero, List.length_cons, List.length_nil, List.length_map, List.nodup_cons, List.not_mem_nil, List.mem_cons, not_false_eq_true, and_self, or_self, List.nodup_nil, List.all_cons, List.all_nil, Bool.and_self, Bool.and_true, Bool.true_and, Bool.false_and, Bool.and_false, Bool.or_true, Bool.true_or, Bool.or_false, Bool.false_or, Bool.not_true, Bool.not_false, if_true, if_false, ↓reduceIte, Bool.false_eq_true, beq_self_eq_true, reduceCtorEq, String.reduceBEq, Nat.reduceEqDiff, Nat.reduceAdd, Nat.zero_add, Nat.reduceLeDiff, beq_true, beq_false, Int.zero_add, hv, q, decide_true, atI_0, atI_1, atI_2, atI_3, ixN4_1, ixN4_2, ixN4_3]
    · refine ⟨b, c, hb, ?_⟩
      simp -implicitDefEqProofs only [p__law_draw_1, List.cons_append, List.nil_append, List.replicate, Nat.reduceSub, S.seq, S.set, S.asg, S.own, S.ite, S.nil, S.ret, S.retN, S.drop, S.par, S.brk, S.cont, E.cb, E.var, E.c, E.cons, E.nil, E.rds, E.fzs, E.bin, E.un, E.and, E.or, E.not, E.bool, E.ite, E.lst, E.tup, E.call, E.callB, E.slice, E.part, E.noPart, E.chain, E.dK, E.dT, E.isi, isi, E.mt, E.tyD, E.chg,
    T.ofE, T.tru, T.truth, T.and, T.or, T.not, T.yes, rd, fz, nf, G.name, G.sub, G.setIx, setIm, setOw, putOw, own, kill, argsOf, iosOf, putBack, scalD, rOk, oLen, oInt, oAdd, oSub, oMul, oMod, oDiv, oPow, oNeg, oLt, oLe, oGt, oGe, oIx, oIsN, oIsNotN, oIsB, oIsNotB, isN, isB, oEq, oNe, oIn, oNotIn, oSl, oList, oTuple, muAppend, muExtend, muPop, retOf, keepIo, giveE, wipeE, freeE, turnS, turnL, I.any,
    List.getElem?_cons_succ, List.getElem?_cons_zero, List.set_cons_succ, List.set_cons_zero, Option.bind_some, Option.map_some, Option.getD_some, List.map_cons, List.map_nil, List.take_succ_cons, List.take_zero, List.length_cons, List.length_nil, List.length_map, List.nodup_cons, List.not_mem_nil, List.mem_cons, not_false_eq_true, and_self, or_self, List.nodup_nil, List.all_cons, List.all_nil, Bool.and_self, Bool.and_true, Bool.true_and, Bool.false_and, Bool.and_false, Bool.or_true, Bool.true_or, Bool.or_false, Bool.false_or, Bool.not_true, Bool.not_false, if_true, if_false, ↓reduceIte, Bool.false_eq_true, beq_self_eq_true, reduceCtorEq, String.reduceBEq, Nat.reduceEqDiff, Nat.reduceAdd, Nat.zero_add, Nat.reduceLeDiff, beq_true, beq_false, Int.zero_add, q, decide_false, atI_2]
  have z1 : ¬ l = 0 := by omega
  have z2 : ¬ l = 0 ∧ l.natAbs < 1073741824 := ⟨z1, by omega⟩
  refine ⟨b1.fmod l, b1.fdiv l, c1, Int.fmod_nonneg_of_pos _ hl, Int.fmod_lt_of_pos _ hl, ?_, ?_⟩
  · exact Int.fdiv_nonneg h0 (by omega)
  · show done 2 3 (S.seq _ _ [.io (PoolD ns a b c), .im (.int l), .no]) = _
    rw [seq_nx h1]
    simp -implicitDefEqProofs only [p__law_draw_4, p__law_draw_5, p__law_draw_6, done, List.cons_append, List.nil_append, List.replicate, Nat.reduceSub, S.seq, S.set, S.asg, S.own, S.ite, S.nil, S.ret, S.retN, S.drop, S.par, S.brk, S.cont, E.cb, E.var, E.c, E.cons, E.nil, E.rds, E.fzs, E.bin, E.un, E.and, E.or, E.not, E.bool, E.ite, E.lst, E.tup, E.call, E.callB, E.slice, E.part, E.noPart, E.chain, E.dK, E.dT, E.isi, isi, E.mt, E.tyD, E.chg,
    T.ofE, T.tru, T.truth, T.and, T.or, T.not, T.yes, rd, fz, nf, G.name, G.sub, G.setIx, setIm, setOw, putOw, own, kill, argsOf, iosOf, putBack, scalD, rOk, oLen, oInt, oAdd, oSub, oMul, oMod, oDiv, oPow, oNeg, oLt, oLe, oGt, oGe, oIx, oIsN, oIsNotN, oIsB, oIsNotB, isN, isB, oEq, oNe, oIn, oNotIn, oSl, oList, oTuple, muAppend, muExtend, muPop, retOf, keepIo, giveE, wipeE, freeE, turnS, turnL, I.any,
    List.getElem?_cons_succ, List.getElem?_cons_zero, List.set_cons_succ, List.set_cons_zero, Option.bind_some, Option.map_some, Option.getD_some, List.map_cons, List.map_nil, List.take_succ_cons, List.take_zero, List.length_cons, List.length_nil, List.length_map, List.nodup_cons, List.not_mem_nil, List.mem_cons, not_false_eq_true, and_self, or_self, List.nodup_nil, List.all_cons, List.all_nil, Bool.and_self, Bool.and_true, Bool.true_and, Bool.false_and, Bool.and_false, Bool.or_true, Bool.true_or, Bool.or_false, Bool.false_or, Bool.not_true, Bool.not_false, if_true, if_false, ↓reduceIte, Bool.false_eq_true, beq_self_eq_true, reduceCtorEq, String.reduceBEq, Nat.reduceEqDiff, Nat.reduceAdd, Nat.zero_add, Nat.reduceLeDiff, beq_true, beq_false, Int.zero_add, z1, z2, ne_eq, atI_2, ixN4_2]
end draws
end K94

set_option Elab.async false
set_option linter.all false
set_option maxRecDepth 10000
set_option maxHeartbeats 4000000
set_option autoImplicit false
namespace K94
open PySem L2 Dv
/-! ### equal to the last part -/
section same
variable (c' : CF)
theorem sm_1 (x y : D) (h : isN y = false) : p__law_same_1 c' [.im x, .im y, .no, .no] = some (.nx [.im x, .im y, .no, .no]) := by simp -implicitDefEqProofs only [p__law_same_1, List.cons_append, List.nil_append, List.replicate, Nat.reduceSub, S.seq, S.set, S.asg, S.own, S.ite, S.nil, S.ret, S.retN, S.drop, S.par, S.brk, S.cont, E.cb, E.var, E.c, E.cons, E.nil, E.rds, E.fzs, E.bin, E.un, E.and, E.or, E.not, E.bool, E.ite, E.lst, E.tup, E.call, E.callB, E.slice, E.part, E.noPart, E.chain, E.dK, E.dT, E.isi, E.mt, E.tyD, E.chg,
    T.ofE, T.tru, T.truth, T.and, T.or, T.not, T.yes, rd, fz, nf, G.name, G.sub, G.setIx, setIm, setOw, putOw, own, kill, argsOf, iosOf, putBack, scalD, rOk, oInt, oAdd, oSub, oMul, oMod, oDiv, oPow, oNeg, oLt, oLe, oGt, oGe, oIx, oIsN, oIsNotN, oIsB, oIsNotB, oEq, oNe, oIn, oNotIn, oSl, oList, oTuple, muAppend, muExtend, muPop, retOf, keepIo, giveE, wipeE, freeE, turnS, turnL, I.any,
    List.getElem?_cons_succ, List.getElem?_cons_zero, List.set_cons_succ, List.set_cons_zero, Option.bind_some, Option.map_some, Option.getD_some, List.map_cons, List.map_nil, List.take_succ_cons, List.take_zero, List.length_cons, List.length_nil, List.length_map, List.nodup_cons, List.not_mem_nil, List.mem_cons, not_false_eq_true, and_self, or_self, List.nodup_nil, List.all_cons, List.all_nil, Bool.and_self, Bool.and_true, Bool.true_and, Bool.false_and, Bool.and_false, Bool.or_true, Bool.true_or, Bool.or_false, Bool.false_or, Bool.not_true, Bool.not_false, if_true, if_false, ↓reduceIte, Bool.false_eq_true, beq_self_eq_true, reduceCtorEq, String.reduceBEq, Nat.reduceEqDiff, Nat.reduceAdd, Nat.zero_add, Nat.reduceLeDiff, beq_true, beq_false, Int.zero_add, h]
theorem sm_3 (x y : D) (h : isB true y = false) : p__law_same_3 c' [.im x, .im y, .no, .no] = some (.nx [.im x, .im y, .no, .no]) := by simp -implicitDefEqProofs only [p__law_same_3, List.cons_append, List.nil_append, List.replicate, Nat.reduceSub, S.seq, S.set, S.asg, S.own, S.ite, S.nil, S.ret, S.retN, S.drop, S.par, S.brk, S.cont, E.cb, E.var, E.c, E.cons, E.nil, E.rds, E.fzs, E.bin, E.un, E.and, E.or, E.not, E.bool, E.ite, E.lst, E.tup, E.call, E.callB, E.slice, E.part, E.noPart, E.chain, E.dK, E.dT, E.isi, E.mt, E.tyD, E.chg,
    T.ofE, T.tru, T.truth, T.and, T.or, T.not, T.yes, rd, fz, nf, G.name, G.sub, G.setIx, setIm, setOw, putOw, own, kill, argsOf, iosOf, putBack, scalD, rOk, oInt, oAdd, oSub, oMul, oMod, oDiv, oPow, oNeg, oLt, oLe, oGt, oGe, oIx, oIsN, oIsNotN, oIsB, oIsNotB, oEq, oNe, oIn, oNotIn, oSl, oList, oTuple, muAppend, muExtend, muPop, retOf, keepIo, giveE, wipeE, freeE, turnS, turnL, I.any,
    List.getElem?_cons_succ, List.getElem?_cons_zero, List.set_cons_succ, List.set_cons_zero, Option.bind_some, Option.map_some, Option.getD_some, List.map_cons, List.map_nil, List.take_succ_cons, List.take_zero, List.length_cons, List.length_nil, List.length_map, List.nodup_cons, List.not_mem_nil, List.mem_cons, not_false_eq_true, and_self, or_self, List.nodup_nil, List.all_cons, List.all_nil, Bool.and_self, Bool.and_true, Bool.true_and, Bool.false_and, Bool.and_false, Bool.or_true, Bool.true_or, Bool.or_false, Bool.false_or, Bool.not_true, Bool.not_false, if_true, if_false, ↓reduceIte, Bool.false_eq_true, beq_self_eq_true, reduceCtorEq, String.reduceBEq, Nat.reduceEqDiff, Nat.reduceAdd, Nat.zero_add, Nat.reduceLeDiff, beq_true, beq_false, Int.zero_add, h]
theorem sm_5 (x y : D) (h : isB false y = false) : p__law_same_5 c' [.im x, .im y, .no, .no] = some (.nx [.im x, .im y, .no, .no]) := by simp -implicitDefEqProofs only [p__law_same_5, List.cons_append, List.nil_append, List.replicate, Nat.reduceSub, S.seq, S.set, S.asg, S.own, S.ite, S.nil, S.ret, S.retN, S.drop, S.par, S.brk, S.cont, E.cb, E.var, E.c, E.cons, E.nil, E.rds, E.fzs, E.bin, E.un, E.and, E.or, E.not, E.bool, E.ite, E.lst, E.tup, E.call, E.callB, E.slice, E.part, E.noPart, E.chain, E.dK, E.dT, E.isi, E.mt, E.tyD, E.chg,
    T.ofE, T.tru, T.truth, T.and, T.or, T.not, T.yes, rd, fz, nf, G.name, G.sub, G.setIx, setIm, setOw, putOw, own, kill, argsOf, iosOf, putBack, scalD, rOk, oInt, oAdd, oSub, oMul, oMod, oDiv, oPow, oNeg, oLt, oLe, oGt, oGe, oIx, oIsN, oIsNotN, oIsB, oIsNotB, oEq, oNe, oIn, oNotIn, oSl, oList, oTuple, muAppend, muExtend, muPop, retOf, keepIo, giveE, wipeE, freeE, turnS, turnL, I.any,
    List.getElem?_cons_succ, List.getElem?_cons_zero, List.set_cons_succ, List.set_cons_zero, Option.bind_some, Option.map_some, Option.getD_some, List.map_cons, List.map_nil, List.take_succ_cons, List.take_zero, List.length_cons, List.length_nil, List.length_map, List.nodup_cons, List.not_mem_nil, List.mem_cons, not_false_eq_true, and_self, or_self, List.nodup_nil, List.all_cons, List.all_nil, Bool.and_self, Bool.and_true, Bool.true_and, Bool.false_and, Bool.and_false, Bool.or_true, Bool.true_or, Bool.or_false, Bool.false_or, Bool.not_true, Bool.not_false, if_true, if_false, ↓reduceIte, Bool.false_eq_true, beq_self_eq_true, reduceCtorEq, String.reduceBEq, Nat.reduceEqDiff, Nat.reduceAdd, Nat.zero_add, Nat.reduceLeDiff, beq_true, beq_false, Int.zero_add, h]
theorem sm_7 (x y : D) (h : isi .int y = false) : p__law_same_7 c' [.im x, .im y, .no, .no] = some (.nx [.im x, .im y, .no, .no]) := by simp -implicitDefEqProofs only [p__law_same_7, List.cons_append, List.nil_append, List.replicate, Nat.reduceSub, S.seq, S.set, S.asg, S.own, S.ite, S.nil, S.ret, S.retN, S.drop, S.par, S.brk, S.cont, E.cb, E.var, E.c, E.cons, E.nil, E.rds, E.fzs, E.bin, E.un, E.and, E.or, E.not, E.bool, E.ite, E.lst, E.tup, E.call, E.callB, E.slice, E.part, E.noPart, E.chain, E.dK, E.dT, E.isi, E.mt, E.tyD, E.chg,
    T.ofE, T.tru, T.truth, T.and, T.or, T.not, T.yes, rd, fz, nf, G.name, G.sub, G.setIx, setIm, setOw, putOw, own, kill, argsOf, iosOf, putBack, scalD, rOk, oInt, oAdd, oSub, oMul, oMod, oDiv, oPow, oNeg, oLt, oLe, oGt, oGe, oIx, oIsN, oIsNotN, oIsB, oIsNotB, oEq, oNe, oIn, oNotIn, oSl, oList, oTuple, muAppend, muExtend, muPop, retOf, keepIo, giveE, wipeE, freeE, turnS, turnL, I.any,
    List.getElem?_cons_succ, List.getElem?_cons_zero, List.set_cons_succ, List.set_cons_zero, Option.bind_some, Option.map_some, Option.getD_some, List.map_cons, List.map_nil, List.take_succ_cons, List.take_zero, List.length_cons, List.length_nil, List.length_map, List.nodup_cons, List.not_mem_nil, List.mem_cons, not_false_eq_true, and_self, or_self, List.nodup_nil, List.all_cons, List.all_nil, Bool.and_self, Bool.and_true, Bool.true_and, Bool.false_and, Bool.and_false, Bool.or_true, Bool.true_or, Bool.or_false, Bool.false_or, Bool.not_true, Bool.not_false, if_true, if_false, ↓reduceIte, Bool.false_eq_true, beq_self_eq_true, reduceCtorEq, String.reduceBEq, Nat.reduceEqDiff, Nat.reduceAdd, Nat.zero_add, Nat.reduceLeDiff, beq_true, beq_false, Int.zero_add, h]
theorem sm_9 (x y : D) (h : isi .str y = false) : p__law_same_9 c' [.im x, .im y, .no, .no] = some (.nx [.im x, .im y, .no, .no]) := by simp -implicitDefEqProofs only [p__law_same_9, List.cons_append, List.nil_append, List.replicate, Nat.reduceSub, S.seq, S.set, S.asg, S.own, S.ite, S.nil, S.ret, S.retN, S.drop, S.par, S.brk, S.cont, E.cb, E.var, E.c, E.cons, E.nil, E.rds, E.fzs, E.bin, E.un, E.and, E.or, E.not, E.bool, E.ite, E.lst, E.tup, E.call, E.callB, E.slice, E.part, E.noPart, E.chain, E.dK, E.dT, E.isi, E.mt, E.tyD, E.chg,
    T.ofE, T.tru, T.truth, T.and, T.or, T.not, T.yes, rd, fz, nf, G.name, G.sub, G.setIx, setIm, setOw, putOw, own, kill, argsOf, iosOf, putBack, scalD, rOk, oInt, oAdd, oSub, oMul, oMod, oDiv, oPow, oNeg, oLt, oLe, oGt, oGe, oIx, oIsN, oIsNotN, oIsB, oIsNotB, oEq, oNe, oIn, oNotIn, oSl, oList, oTuple, muAppend, muExtend, muPop, retOf, keepIo, giveE, wipeE, freeE, turnS, turnL, I.any,
    List.getElem?_cons_succ, List.getElem?_cons_zero, List.set_cons_succ, List.set_cons_zero, Option.bind_some, Option.map_some, Option.getD_some, List.map_cons, List.map_nil, List.take_succ_cons, List.take_zero, List.length_cons, List.length_nil, List.length_map, List.nodup_cons, List.not_mem_nil, List.mem_cons, not_false_eq_true, and_self, or_self, List.nodup_nil, List.all_cons, List.all_nil, Bool.and_self, Bool.and_true, Bool.true_and, Bool.false_and, Bool.and_false, Bool.or_true, Bool.true_or, Bool.or_false, Bool.false_or, Bool.not_true, Bool.not_false, if_true, if_false, ↓reduceIte, Bool.false_eq_true, beq_self_eq_true, reduceCtorEq, String.reduceBEq, Nat.reduceEqDiff, Nat.reduceAdd, Nat.zero_add, Nat.reduceLeDiff, beq_true, beq_false, Int.zero_add, h]
theorem sm_11 (x y : D) (h : isi .dict y = false) : p__law_same_11 c' [.im x, .im y, .no, .no] = some (.nx [.im x, .im y, .no, .no]) := by simp -implicitDefEqProofs only [p__law_same_11, List.cons_append, List.nil_append, List.replicate, Nat.reduceSub, S.seq, S.set, S.asg, S.own, S.ite, S.nil, S.ret, S.retN, S.drop, S.par, S.brk, S.cont, E.cb, E.var, E.c, E.cons, E.nil, E.rds, E.fzs, E.bin, E.un, E.and, E.or, E.not, E.bool, E.ite, E.lst, E.tup, E.call, E.callB, E.slice, E.part, E.noPart, E.chain, E.dK, E.dT, E.isi, E.mt, E.tyD, E.chg,
    T.ofE, T.tru, T.truth, T.and, T.or, T.not, T.yes, rd, fz, nf, G.name, G.sub, G.setIx, setIm, setOw, putOw, own, kill, argsOf, iosOf, putBack, scalD, rOk, oInt, oAdd, oSub, oMul, oMod, oDiv, oPow, oNeg, oLt, oLe, oGt, oGe, oIx, oIsN, oIsNotN, oIsB, oIsNotB, oEq, oNe, oIn, oNotIn, oSl, oList, oTuple, muAppend, muExtend, muPop, retOf, keepIo, giveE, wipeE, freeE, turnS, turnL, I.any,
    List.getElem?_cons_succ, List.getElem?_cons_zero, List.set_cons_succ, List.set_cons_zero, Option.bind_some, Option.map_some, Option.getD_some, List.map_cons, List.map_nil, List.take_succ_cons, List.take_zero, List.length_cons, List.length_nil, List.length_map, List.nodup_cons, List.not_mem_nil, List.mem_cons, not_false_eq_true, and_self, or_self, List.nodup_nil, List.all_cons, List.all_nil, Bool.and_self, Bool.and_true, Bool.true_and, Bool.false_and, Bool.and_false, Bool.or_true, Bool.true_or, Bool.or_false, Bool.false_or, Bool.not_true, Bool.not_false, if_true, if_false, ↓reduceIte, Bool.false_eq_true, beq_self_eq_true, reduceCtorEq, String.reduceBEq, Nat.reduceEqDiff, Nat.reduceAdd, Nat.zero_add, Nat.reduceLeDiff, beq_true, beq_false, Int.zero_add, h]
theorem sm_18t (x y : D) (h : isi .tuple x = isi .tuple y) (h2 : isi .list x = isi .list y) : p__law_same_18 c' [.im x, .im y, .no, .no] = some (.nx [.im x, .im y, .no, .no]) := by
  simp -implicitDefEqProofs only [p__law_same_18, List.cons_append, List.nil_append, List.replicate, Nat.reduceSub, S.seq, S.set, S.asg, S.own, S.ite, S.nil, S.ret, S.retN, S.drop, S.par, S.brk, S.cont, E.cb, E.var, E.c, E.cons, E.nil, E.rds, E.fzs, E.bin, E.un, E.and, E.or, E.not, E.bool, E.ite, E.lst, E.tup, E.call, E.callB, E.slice, E.part, E.noPart, E.chain, E.dK, E.dT, E.isi, E.mt, E.tyD, E.chg,
    T.ofE, T.tru, T.truth, T.and, T.or, T.not, T.yes, rd, fz, nf, G.name, G.sub, G.setIx, setIm, setOw, putOw, own, kill, argsOf, iosOf, putBack, scalD, rOk, oInt, oAdd, oSub, oMul, oMod, oDiv, oPow, oNeg, oLt, oLe, oGt, oGe, oIx, oIsN, oIsNotN, oIsB, oIsNotB, oEq, oNe, oIn, oNotIn, oSl, oList, oTuple, muAppend, muExtend, muPop, retOf, keepIo, giveE, wipeE, freeE, turnS, turnL, I.any,
    List.getElem?_cons_succ, List.getElem?_cons_zero, List.set_cons_succ, List.set_cons_zero, Option.bind_some, Option.map_some, Option.getD_some, List.map_cons, List.map_nil, List.take_succ_cons, List.take_zero, List.length_cons, List.length_nil, List.length_map, List.nodup_cons, List.not_mem_nil, List.mem_cons, not_false_eq_true, and_self, or_self, List.nodup_nil, List.all_cons, List.all_nil, Bool.and_self, Bool.and_true, Bool.true_and, Bool.false_and, Bool.and_false, Bool.or_true, Bool.true_or, Bool.or_false, Bool.false_or, Bool.not_true, Bool.not_false, if_true, if_false, ↓reduceIte, Bool.false_eq_true, beq_self_eq_true, reduceCtorEq, String.reduceBEq, Nat.reduceEqDiff, Nat.reduceAdd, Nat.zero_add, Nat.reduceLeDiff, beq_true, beq_false, Int.zero_add, h, h2, eqD_bl]
theorem sm_18f (x y : D) (h : ¬ (isi .tuple x = isi .tuple y ∧ isi .list x = isi .list y)) : p__law_same_18 c' [.im x, .im y, .no, .no] = some (.rt (.v (.bl false)) [.im x, .im y, .no, .no]) := by
  cases h1 : isi .tuple x <;> cases h2 : isi .tuple y <;> cases h3 : isi .list x <;> cases h4 : isi .list y <;> first
    | (simp -implicitDefEqProofs only [p__law_same_18, p__law_same_19, List.cons_append, List.nil_append, List.replicate, Nat.reduceSub, S.seq, S.set, S.asg, S.own, S.ite, S.nil, S.ret, S.retN, S.drop, S.par, S.brk, S.cont, E.cb, E.var, E.c, E.cons, E.nil, E.rds, E.fzs, E.bin, E.un, E.and, E.or, E.not, E.bool, E.ite, E.lst, E.tup, E.call, E.callB, E.slice, E.part, E.noPart, E.chain, E.dK, E.dT, E.isi, E.mt, E.tyD, E.chg,
    T.ofE, T.tru, T.truth, T.and, T.or, T.not, T.yes, rd, fz, nf, G.name, G.sub, G.setIx, setIm, setOw, putOw, own, kill, argsOf, iosOf, putBack, scalD, rOk, oInt, oAdd, oSub, oMul, oMod, oDiv, oPow, oNeg, oLt, oLe, oGt, oGe, oIx, oIsN, oIsNotN, oIsB, oIsNotB, oEq, oNe, oIn, oNotIn, oSl, oList, oTuple, muAppend, muExtend, muPop, retOf, keepIo, giveE, wipeE, freeE, turnS, turnL, I.any,
    List.getElem?_cons_succ, List.getElem?_cons_zero, List.set_cons_succ, List.set_cons_zero, Option.bind_some, Option.map_some, Option.getD_some, List.map_cons, List.map_nil, List.take_succ_cons, List.take_zero, List.length_cons, List.length_nil, List.length_map, List.nodup_cons, List.not_mem_nil, List.mem_cons, not_false_eq_true, and_self, or_self, List.nodup_nil, List.all_cons, List.all_nil, Bool.and_self, Bool.and_true, Bool.true_and, Bool.false_and, Bool.and_false, Bool.or_true, Bool.true_or, Bool.or_false, Bool.false_or, Bool.not_true, Bool.not_false, if_true, if_false, ↓reduceIte, Bool.false_eq_true, beq_self_eq_true, reduceCtorEq, String.reduceBEq, Nat.reduceEqDiff, Nat.reduceAdd, Nat.zero_add, Nat.reduceLeDiff, beq_true, beq_false, Int.zero_add, h1, h2, h3, h4, eqD_bl]; done)
    | (rw [h1, h2, h3, h4] at h; exact absurd ⟨rfl, rfl⟩ h)
/-- to where the kinds are told apart -/
theorem sm_skip (x y : D) (h1 : isN y = false) (h3 : isB true y = false) (h5 : isB false y = false) (h7 : isi .int y = false) (h9 : isi .str y = false) (h11 : isi .dict y = false) :
    b__law_same c' [.im x, .im y, .no, .no] = S.seq (p__law_same_18 c') (S.seq (p__law_same_20 c') (S.seq (p__law_same_22 c') (p__law_same_25 c'))) [.im x, .im y, .no, .no] := by
  unfold b__law_same
  rw [seq_nx (sm_1 c' x y h1), seq_nx (sm_3 c' x y h3), seq_nx (sm_5 c' x y h5), seq_nx (sm_7 c' x y h7), seq_nx (sm_9 c' x y h9), seq_nx (sm_11 c' x y h11)]
theorem sm_20t (x y : D) (m n : Nat) (hx : oLen [x] = some (.v (.int m))) (hy : oLen [y] = some (.v (.int n))) (h : m = n) : p__law_same_20 c' [.im x, .im y, .no, .no] = some (.nx [.im x, .im y, .no, .no]) := by
  have q : decide ((m : Int) = (n : Int)) = true := decide_eq_true (by omega)
  simp -implicitDefEqProofs only [p__law_same_20, List.cons_append, List.nil_append, List.replicate, Nat.reduceSub, S.seq, S.set, S.asg, S.own, S.ite, S.nil, S.ret, S.retN, S.drop, S.par, S.brk, S.cont, E.cb, E.var, E.c, E.cons, E.nil, E.rds, E.fzs, E.bin, E.un, E.and, E.or, E.not, E.bool, E.ite, E.lst, E.tup, E.call, E.callB, E.slice, E.part, E.noPart, E.chain, E.dK, E.dT, E.isi, E.mt, E.tyD, E.chg,
    T.ofE, T.tru, T.truth, T.and, T.or, T.not, T.yes, rd, fz, nf, G.name, G.sub, G.setIx, setIm, setOw, putOw, own, kill, argsOf, iosOf, putBack, scalD, rOk, oInt, oAdd, oSub, oMul, oMod, oDiv, oPow, oNeg, oLt, oLe, oGt, oGe, oIx, oIsN, oIsNotN, oIsB, oIsNotB, oEq, oNe, oIn, oNotIn, oSl, oList, oTuple, muAppend, muExtend, muPop, retOf, keepIo, giveE, wipeE, freeE, turnS, turnL, I.any,
    List.getElem?_cons_succ, List.getElem?_cons_zero, List.set_cons_succ, List.set_cons_zero, Option.bind_some, Option.map_some, Option.getD_some, List.map_cons, List.map_nil, List.take_succ_cons, List.take_zero, List.length_cons, List.length_nil, List.length_map, List.nodup_cons, List.not_mem_nil, List.mem_cons, not_false_eq_true, and_self, or_self, List.nodup_nil, List.all_cons, List.all_nil, Bool.and_self, Bool.and_true, Bool.true_and, Bool.false_and, Bool.and_false, Bool.or_true, Bool.true_or, Bool.or_false, Bool.false_or, Bool.not_true, Bool.not_false, if_true, if_false, ↓reduceIte, Bool.false_eq_true, beq_self_eq_true, reduceCtorEq, String.reduceBEq, Nat.reduceEqDiff, Nat.reduceAdd, Nat.zero_add, Nat.reduceLeDiff, beq_true, beq_false, Int.zero_add, hx, hy, eqD_int, q]
theorem sm_20f (x y : D) (m n : Nat) (hx : oLen [x] = some (.v (.int m))) (hy : oLen [y] = some (.v (.int n))) (h : m ≠ n) : p__law_same_20 c' [.im x, .im y, .no, .no] = some (.rt (.v (.bl false)) [.im x, .im y, .no, .no]) := by
  have q : decide ((m : Int) = (n : Int)) = false := decide_eq_false (by omega)
  simp -implicitDefEqProofs only [p__law_same_20, p__law_same_21, List.cons_append, List.nil_append, List.replicate, Nat.reduceSub, S.seq, S.set, S.asg, S.own, S.ite, S.nil, S.ret, S.retN, S.drop, S.par, S.brk, S.cont, E.cb, E.var, E.c, E.cons, E.nil, E.rds, E.fzs, E.bin, E.un, E.and, E.or, E.not, E.bool, E.ite, E.lst, E.tup, E.call, E.callB, E.slice, E.part, E.noPart, E.chain, E.dK, E.dT, E.isi, E.mt, E.tyD, E.chg,
    T.ofE, T.tru, T.truth, T.and, T.or, T.not, T.yes, rd, fz, nf, G.name, G.sub, G.setIx, setIm, setOw, putOw, own, kill, argsOf, iosOf, putBack, scalD, rOk, oInt, oAdd, oSub, oMul, oMod, oDiv, oPow, oNeg, oLt, oLe, oGt, oGe, oIx, oIsN, oIsNotN, oIsB, oIsNotB, oEq, oNe, oIn, oNotIn, oSl, oList, oTuple, muAppend, muExtend, muPop, retOf, keepIo, giveE, wipeE, freeE, turnS, turnL, I.any,
    List.getElem?_cons_succ, List.getElem?_cons_zero, List.set_cons_succ, List.set_cons_zero, Option.bind_some, Option.map_some, Option.getD_some, List.map_cons, List.map_nil, List.take_succ_cons, List.take_zero, List.length_cons, List.length_nil, List.length_map, List.nodup_cons, List.not_mem_nil, List.mem_cons, not_false_eq_true, and_self, or_self, List.nodup_nil, List.all_cons, List.all_nil, Bool.and_self, Bool.and_true, Bool.true_and, Bool.false_and, Bool.and_false, Bool.or_true, Bool.true_or, Bool.or_false, Bool.false_or, Bool.not_true, Bool.not_false, if_true, if_false, ↓reduceIte, Bool.false_eq_true, beq_self_eq_true, reduceCtorEq, String.reduceBEq, Nat.reduceEqDiff, Nat.reduceAdd, Nat.zero_add, Nat.reduceLeDiff, beq_true, beq_false, Int.zero_add, hx, hy, eqD_int, q]
open Classical in
theorem sm_22 (n : Nat) (ih : ∀ x y : D, Pl n x → Pl n y → c' [.im x, .im y] = some (.v (.bl (decide (x = y))), [.no, .no])) (mk : List D → D) (hm : mk = D.lst ∨ mk = D.tup) (xs ys : List D) (hx : ∀ d ∈ xs, Pl n d) (hy : ∀ d ∈ ys, Pl n d) (hl : xs.length = ys.length) (hz : ys.length ≤ 1000000) :
    S.seq (p__law_same_22 c') (p__law_same_25 c') [.im (mk xs), .im (mk ys), .no, .no] = some (.rt (.v (.bl (decide (xs = ys)))) (match (List.range ys.length).find? (fun k => decide (¬ xs[k]? = ys[k]?)) with | some k => [.im (mk xs), .im (mk ys), .im (.int (k : Nat)), .no] | none => [.im (mk xs), .im (mk ys), .no, .no])) := by
  have t : p__law_same_22 c' [.im (mk xs), .im (mk ys), .no, .no] = some (fndO (fun _ => .v (.bl false)) (fun x : Nat => [.im (mk xs), .im (mk ys), .im (.int x), .no]) [.im (mk xs), .im (mk ys), .no, .no] ((List.range ys.length).find? fun k => decide (¬ xs[k]? = ys[k]?))) := by
    have r : E.cb oLen (E.cons (E.var 1) E.nil) [.im (mk xs), .im (mk ys), .no, .no] = some (.v (.int (ys.length : Nat)), [.im (mk xs), .im (mk ys), .no, .no]) := by rcases hm with rfl | rfl <;> rfl
    refine (for_of (rng1_nat r rfl hz)).trans (loop_find (fun k => decide (¬ xs[k]? = ys[k]?)) (fun _ => .v (.bl false)) (fun x : Nat => [.im (mk xs), .im (mk ys), .im (.int x), .no]) fun k hk => ?_)
    have k2 := List.mem_range.mp hk
    have k1 : k < xs.length := by rw [hl]; exact k2
    have q := ih xs[k] ys[k] (hx _ (List.getElem_mem k1)) (hy _ (List.getElem_mem k2))
    by_cases c : xs[k] = ys[k]
    · rw [decide_eq_true c] at q
      have c2 : xs[k]? = ys[k]? := by rw [List.getElem?_eq_getElem k1, List.getElem?_eq_getElem k2, c]
      have c3 : ¬ ¬ xs[k]? = ys[k]? := fun z => z c2
      rcases hm with rfl | rfl <;> simp -implicitDefEqProofs only [p__law_same_23, List.cons_append, List.nil_append, List.replicate, Nat.reduceSub, S.seq, S.set, S.asg, S.own, S.ite, S.nil, S.ret, S.retN, S.drop, S.par, S.brk, S.cont, E.cb, E.var, E.c, E.cons, E.nil, E.rds, E.fzs, E.bin, E.un, E.and, E.or, E.not, E.bool, E.ite, E.lst, E.tup, E.call, E.callB, E.slice, E.part, E.noPart, E.chain, E.dK, E.dT, E.isi, isi, E.mt, E.tyD, E.chg,
    T.ofE, T.tru, T.truth, T.and, T.or, T.not, T.yes, rd, fz, nf, G.name, G.sub, G.setIx, setIm, setOw, putOw, own, kill, argsOf, iosOf, putBack, scalD, rOk, oLen, oInt, oAdd, oSub, oMul, oMod, oDiv, oPow, oNeg, oLt, oLe, oGt, oGe, oIx, oIsN, oIsNotN, oIsB, oIsNotB, isN, isB, oEq, oNe, oIn, oNotIn, oSl, oList, oTuple, muAppend, muExtend, muPop, retOf, keepIo, giveE, wipeE, freeE, turnS, turnL, I.any,
    List.getElem?_cons_succ, List.getElem?_cons_zero, List.set_cons_succ, List.set_cons_zero, Option.bind_some, Option.map_some, Option.getD_some, List.map_cons, List.map_nil, List.take_succ_cons, List.take_zero, List.length_cons, List.length_nil, List.length_map, List.nodup_cons, List.not_mem_nil, List.mem_cons, not_false_eq_true, and_self, or_self, List.nodup_nil, List.all_cons, List.all_nil, Bool.and_self, Bool.and_true, Bool.true_and, Bool.false_and, Bool.and_false, Bool.or_true, Bool.true_or, Bool.or_false, Bool.false_or, Bool.not_true, Bool.not_false, if_true, if_false, ↓reduceIte, Bool.false_eq_true, beq_self_eq_true, reduceCtorEq, String.reduceBEq, Nat.reduceEqDiff, Nat.reduceAdd, Nat.zero_add, Nat.reduceLeDiff, beq_true, beq_false, Int.zero_add, atI_at k1, atI_at k2, q, decide_eq_false c3]
    · rw [decide_eq_false c] at q
      have c2 : ¬ xs[k]? = ys[k]? := by rw [List.getElem?_eq_getElem k1, List.getElem?_eq_getElem k2]; exact fun z => c (Option.some.inj z)
      rcases hm with rfl | rfl <;> simp -implicitDefEqProofs only [p__law_same_23, p__law_same_24, List.cons_append, List.nil_append, List.replicate, Nat.reduceSub, S.seq, S.set, S.asg, S.own, S.ite, S.nil, S.ret, S.retN, S.drop, S.par, S.brk, S.cont, E.cb, E.var, E.c, E.cons, E.nil, E.rds, E.fzs, E.bin, E.un, E.and, E.or, E.not, E.bool, E.ite, E.lst, E.tup, E.call, E.callB, E.slice, E.part, E.noPart, E.chain, E.dK, E.dT, E.isi, isi, E.mt, E.tyD, E.chg,
    T.ofE, T.tru, T.truth, T.and, T.or, T.not, T.yes, rd, fz, nf, G.name, G.sub, G.setIx, setIm, setOw, putOw, own, kill, argsOf, iosOf, putBack, scalD, rOk, oLen, oInt, oAdd, oSub, oMul, oMod, oDiv, oPow, oNeg, oLt, oLe, oGt, oGe, oIx, oIsN, oIsNotN, oIsB, oIsNotB, isN, isB, oEq, oNe, oIn, oNotIn, oSl, oList, oTuple, muAppend, muExtend, muPop, retOf, keepIo, giveE, wipeE, freeE, turnS, turnL, I.any,
    List.getElem?_cons_succ, List.getElem?_cons_zero, List.set_cons_succ, List.set_cons_zero, Option.bind_some, Option.map_some, Option.getD_some, List.map_cons, List.map_nil, List.take_succ_cons, List.take_zero, List.length_cons, List.length_nil, List.length_map, List.nodup_cons, List.not_mem_nil, List.mem_cons, not_false_eq_true, and_self, or_self, List.nodup_nil, List.all_cons, List.all_nil, Bool.and_self, Bool.and_true, Bool.true_and, Bool.false_and, Bool.and_false, Bool.or_true, Bool.true_or, Bool.or_false, Bool.false_or, Bool.not_true, Bool.not_false, if_true, if_false, ↓reduceIte, Bool.false_eq_true, beq_self_eq_true, reduceCtorEq, String.reduceBEq, Nat.reduceEqDiff, Nat.reduceAdd, Nat.zero_add, Nat.reduceLeDiff, beq_true, beq_false, Int.zero_add, atI_at k1, atI_at k2, q, decide_eq_true c2]
  have a : (List.range ys.length).find? (fun k => decide (¬ xs[k]? = ys[k]?)) = none ↔ xs = ys := list_ext_find hl _ fun k h1 h2 => by
    rw [decide_eq_true_iff, List.getElem?_eq_getElem h1, List.getElem?_eq_getElem h2]
    exact not_congr ⟨Option.some.inj, congrArg some⟩
  cases hf : (List.range ys.length).find? (fun k => decide (¬ xs[k]? = ys[k]?)) with
  | none =>
    rw [hf] at t
    rw [decide_eq_true (a.mp hf), seq_nx t]
    rfl
  | some k =>
    rw [hf] at t
    have ne : ¬ xs = ys := fun z => by rw [a.mpr z] at hf; cases hf
    rw [decide_eq_false ne, seq_rt t]
open Classical in
theorem same_step (n : Nat) (ih : ∀ x y : D, Pl n x → Pl n y → c' [.im x, .im y] = some (.v (.bl (decide (x = y))), [.no, .no])) (x y : D) (hx : Pl (n + 1) x) (hy : Pl (n + 1) y) :
    run 2 4 (b__law_same c') [.im x, .im y] = some (.v (.bl (decide (x = y))), [.no, .no]) := by
  rw [run_eq 2 4 _ _ rfl]
  show done 2 4 (b__law_same c' [.im x, .im y, .no, .no]) = _
  have both : ∀ (mk : List D → D) (hm : mk = D.lst ∨ mk = D.tup) (xs ys : List D), (∀ d ∈ xs, Pl n d) → (∀ d ∈ ys, Pl n d) → ys.length ≤ 1000000 → done 2 4 (b__law_same c' [.im (mk xs), .im (mk ys), .no, .no]) = some (.v (.bl (decide (mk xs = mk ys))), [.no, .no]) := by
    intro mk hm xs ys hx hy hz
    have inj : decide (mk xs = mk ys) = decide (xs = ys) := decide_eq_decide.mpr (by rcases hm with rfl | rfl <;> exact ⟨fun z => by cases z; rfl, fun z => by rw [z]⟩)
    have len : ∀ zs, oLen [mk zs] = some (.v (.int zs.length)) := fun zs => by rcases hm with rfl | rfl <;> rfl
    rw [sm_skip c' _ _ (by rcases hm with rfl | rfl <;> rfl) (by rcases hm with rfl | rfl <;> rfl) (by rcases hm with rfl | rfl <;> rfl) (by rcases hm with rfl | rfl <;> rfl) (by rcases hm with rfl | rfl <;> rfl) (by rcases hm with rfl | rfl <;> rfl),
      seq_nx (sm_18t c' _ _ (by rcases hm with rfl | rfl <;> rfl) (by rcases hm with rfl | rfl <;> rfl)), inj]
    by_cases hl : xs.length = ys.length
    · rw [seq_nx (sm_20t c' _ _ _ _ (len xs) (len ys) hl), sm_22 c' n ih mk hm xs ys hx hy hl hz]
      cases (List.range ys.length).find? (fun k => decide (¬ xs[k]? = ys[k]?)) <;> rfl
    · rw [seq_rt (sm_20f c' _ _ _ _ (len xs) (len ys) hl), decide_eq_false (fun z => hl (by rw [z]))]
      rfl
  cases hy with
  | non =>
    cases hx <;> simp -implicitDefEqProofs only [b__law_same, p__law_same_1, p__law_same_2, done, List.cons_append, List.nil_append, List.replicate, Nat.reduceSub, S.seq, S.set, S.asg, S.own, S.ite, S.nil, S.ret, S.retN, S.drop, S.par, S.brk, S.cont, E.cb, E.var, E.c, E.cons, E.nil, E.rds, E.fzs, E.bin, E.un, E.and, E.or, E.not, E.bool, E.ite, E.lst, E.tup, E.call, E.callB, E.slice, E.part, E.noPart, E.chain, E.dK, E.dT, E.isi, E.mt, E.tyD, E.chg,
    T.ofE, T.tru, T.truth, T.and, T.or, T.not, T.yes, rd, fz, nf, G.name, G.sub, G.setIx, setIm, setOw, putOw, own, kill, argsOf, iosOf, putBack, scalD, rOk, oInt, oAdd, oSub, oMul, oMod, oDiv, oPow, oNeg, oLt, oLe, oGt, oGe, oIx, oIsN, oIsNotN, oIsB, oIsNotB, oEq, oNe, oIn, oNotIn, oSl, oList, oTuple, muAppend, muExtend, muPop, retOf, keepIo, giveE, wipeE, freeE, turnS, turnL, I.any,
    List.getElem?_cons_succ, List.getElem?_cons_zero, List.set_cons_succ, List.set_cons_zero, Option.bind_some, Option.map_some, Option.getD_some, List.map_cons, List.map_nil, List.take_succ_cons, List.take_zero, List.length_cons, List.length_nil, List.length_map, List.nodup_cons, List.not_mem_nil, List.mem_cons, not_false_eq_true, and_self, or_self, List.nodup_nil, List.all_cons, List.all_nil, Bool.and_self, Bool.and_true, Bool.true_and, Bool.false_and, Bool.and_false, Bool.or_true, Bool.true_or, Bool.or_false, Bool.false_or, Bool.not_true, Bool.not_false, if_true, if_false, ↓reduceIte, Bool.false_eq_true, beq_self_eq_true, reduceCtorEq, String.reduceBEq, Nat.reduceEqDiff, Nat.reduceAdd, Nat.zero_add, Nat.reduceLeDiff, beq_true, beq_false, Int.zero_add, isN, decide_true, decide_false]
  | bl b =>
    cases b <;> cases hx <;> first
      | (simp -implicitDefEqProofs only [b__law_same, p__law_same_1, p__law_same_3, p__law_same_4, p__law_same_5, p__law_same_6, done, List.cons_append, List.nil_append, List.replicate, Nat.reduceSub, S.seq, S.set, S.asg, S.own, S.ite, S.nil, S.ret, S.retN, S.drop, S.par, S.brk, S.cont, E.cb, E.var, E.c, E.cons, E.nil, E.rds, E.fzs, E.bin, E.un, E.and, E.or, E.not, E.bool, E.ite, E.lst, E.tup, E.call, E.callB, E.slice, E.part, E.noPart, E.chain, E.dK, E.dT, E.isi, E.mt, E.tyD, E.chg,
    T.ofE, T.tru, T.truth, T.and, T.or, T.not, T.yes, rd, fz, nf, G.name, G.sub, G.setIx, setIm, setOw, putOw, own, kill, argsOf, iosOf, putBack, scalD, rOk, oInt, oAdd, oSub, oMul, oMod, oDiv, oPow, oNeg, oLt, oLe, oGt, oGe, oIx, oIsN, oIsNotN, oIsB, oIsNotB, oEq, oNe, oIn, oNotIn, oSl, oList, oTuple, muAppend, muExtend, muPop, retOf, keepIo, giveE, wipeE, freeE, turnS, turnL, I.any,
    List.getElem?_cons_succ, List.getElem?_cons_zero, List.set_cons_succ, List.set_cons_zero, Option.bind_some, Option.map_some, Option.getD_some, List.map_cons, List.map_nil, List.take_succ_cons, List.take_zero, List.length_cons, List.length_nil, List.length_map, List.nodup_cons, List.not_mem_nil, List.mem_cons, not_false_eq_true, and_self, or_self, List.nodup_nil, List.all_cons, List.all_nil, Bool.and_self, Bool.and_true, Bool.true_and, Bool.false_and, Bool.and_false, Bool.or_true, Bool.true_or, Bool.or_false, Bool.false_or, Bool.not_true, Bool.not_false, if_true, if_false, ↓reduceIte, Bool.false_eq_true, beq_self_eq_true, reduceCtorEq, String.reduceBEq, Nat.reduceEqDiff, Nat.reduceAdd, Nat.zero_add, Nat.reduceLeDiff, beq_true, beq_false, Int.zero_add, isN, isB, decide_true, decide_false]; done)
      | (rename_i b; cases b <;> simp -implicitDefEqProofs only [b__law_same, p__law_same_1, p__law_same_3, p__law_same_4, p__law_same_5, p__law_same_6, done, List.cons_append, List.nil_append, List.replicate, Nat.reduceSub, S.seq, S.set, S.asg, S.own, S.ite, S.nil, S.ret, S.retN, S.drop, S.par, S.brk, S.cont, E.cb, E.var, E.c, E.cons, E.nil, E.rds, E.fzs, E.bin, E.un, E.and, E.or, E.not, E.bool, E.ite, E.lst, E.tup, E.call, E.callB, E.slice, E.part, E.noPart, E.chain, E.dK, E.dT, E.isi, E.mt, E.tyD, E.chg,
    T.ofE, T.tru, T.truth, T.and, T.or, T.not, T.yes, rd, fz, nf, G.name, G.sub, G.setIx, setIm, setOw, putOw, own, kill, argsOf, iosOf, putBack, scalD, rOk, oInt, oAdd, oSub, oMul, oMod, oDiv, oPow, oNeg, oLt, oLe, oGt, oGe, oIx, oIsN, oIsNotN, oIsB, oIsNotB, oEq, oNe, oIn, oNotIn, oSl, oList, oTuple, muAppend, muExtend, muPop, retOf, keepIo, giveE, wipeE, freeE, turnS, turnL, I.any,
    List.getElem?_cons_succ, List.getElem?_cons_zero, List.set_cons_succ, List.set_cons_zero, Option.bind_some, Option.map_some, Option.getD_some, List.map_cons, List.map_nil, List.take_succ_cons, List.take_zero, List.length_cons, List.length_nil, List.length_map, List.nodup_cons, List.not_mem_nil, List.mem_cons, not_false_eq_true, and_self, or_self, List.nodup_nil, List.all_cons, List.all_nil, Bool.and_self, Bool.and_true, Bool.true_and, Bool.false_and, Bool.and_false, Bool.or_true, Bool.true_or, Bool.or_false, Bool.false_or, Bool.not_true, Bool.not_false, if_true, if_false, ↓reduceIte, Bool.false_eq_true, beq_self_eq_true, reduceCtorEq, String.reduceBEq, Nat.reduceEqDiff, Nat.reduceAdd, Nat.zero_add, Nat.reduceLeDiff, beq_true, beq_false, Int.zero_add, isN, isB, decide_true, decide_false, D.bl.injEq])
  | int i =>
    unfold b__law_same
    rw [seq_nx (sm_1 c' x _ rfl), seq_nx (sm_3 c' x _ rfl), seq_nx (sm_5 c' x _ rfl)]
    cases hx <;> simp -implicitDefEqProofs only [p__law_same_7, p__law_same_8, done, List.cons_append, List.nil_append, List.replicate, Nat.reduceSub, S.seq, S.set, S.asg, S.own, S.ite, S.nil, S.ret, S.retN, S.drop, S.par, S.brk, S.cont, E.cb, E.var, E.c, E.cons, E.nil, E.rds, E.fzs, E.bin, E.un, E.and, E.or, E.not, E.bool, E.ite, E.lst, E.tup, E.call, E.callB, E.slice, E.part, E.noPart, E.chain, E.dK, E.dT, E.isi, E.mt, E.tyD, E.chg,
    T.ofE, T.tru, T.truth, T.and, T.or, T.not, T.yes, rd, fz, nf, G.name, G.sub, G.setIx, setIm, setOw, putOw, own, kill, argsOf, iosOf, putBack, scalD, rOk, oInt, oAdd, oSub, oMul, oMod, oDiv, oPow, oNeg, oLt, oLe, oGt, oGe, oIx, oIsN, oIsNotN, oIsB, oIsNotB, oEq, oNe, oIn, oNotIn, oSl, oList, oTuple, muAppend, muExtend, muPop, retOf, keepIo, giveE, wipeE, freeE, turnS, turnL, I.any,
    List.getElem?_cons_succ, List.getElem?_cons_zero, List.set_cons_succ, List.set_cons_zero, Option.bind_some, Option.map_some, Option.getD_some, List.map_cons, List.map_nil, List.take_succ_cons, List.take_zero, List.length_cons, List.length_nil, List.length_map, List.nodup_cons, List.not_mem_nil, List.mem_cons, not_false_eq_true, and_self, or_self, List.nodup_nil, List.all_cons, List.all_nil, Bool.and_self, Bool.and_true, Bool.true_and, Bool.false_and, Bool.and_false, Bool.or_true, Bool.true_or, Bool.or_false, Bool.false_or, Bool.not_true, Bool.not_false, if_true, if_false, ↓reduceIte, Bool.false_eq_true, beq_self_eq_true, reduceCtorEq, String.reduceBEq, Nat.reduceEqDiff, Nat.reduceAdd, Nat.zero_add, Nat.reduceLeDiff, beq_true, beq_false, Int.zero_add, isi, eqD_int, decide_true, decide_false, D.int.injEq]
  | str s hs =>
    unfold b__law_same
    rw [seq_nx (sm_1 c' x _ rfl), seq_nx (sm_3 c' x _ rfl), seq_nx (sm_5 c' x _ rfl), seq_nx (sm_7 c' x _ rfl)]
    cases hx with
    | str s' hs' => simp -implicitDefEqProofs only [p__law_same_9, p__law_same_10, done, List.cons_append, List.nil_append, List.replicate, Nat.reduceSub, S.seq, S.set, S.asg, S.own, S.ite, S.nil, S.ret, S.retN, S.drop, S.par, S.brk, S.cont, E.cb, E.var, E.c, E.cons, E.nil, E.rds, E.fzs, E.bin, E.un, E.and, E.or, E.not, E.bool, E.ite, E.lst, E.tup, E.call, E.callB, E.slice, E.part, E.noPart, E.chain, E.dK, E.dT, E.isi, E.mt, E.tyD, E.chg,
    T.ofE, T.tru, T.truth, T.and, T.or, T.not, T.yes, rd, fz, nf, G.name, G.sub, G.setIx, setIm, setOw, putOw, own, kill, argsOf, iosOf, putBack, scalD, rOk, oInt, oAdd, oSub, oMul, oMod, oDiv, oPow, oNeg, oLt, oLe, oGt, oGe, oIx, oIsN, oIsNotN, oIsB, oIsNotB, oEq, oNe, oIn, oNotIn, oSl, oList, oTuple, muAppend, muExtend, muPop, retOf, keepIo, giveE, wipeE, freeE, turnS, turnL, I.any,
    List.getElem?_cons_succ, List.getElem?_cons_zero, List.set_cons_succ, List.set_cons_zero, Option.bind_some, Option.map_some, Option.getD_some, List.map_cons, List.map_nil, List.take_succ_cons, List.take_zero, List.length_cons, List.length_nil, List.length_map, List.nodup_cons, List.not_mem_nil, List.mem_cons, not_false_eq_true, and_self, or_self, List.nodup_nil, List.all_cons, List.all_nil, Bool.and_self, Bool.and_true, Bool.true_and, Bool.false_and, Bool.and_false, Bool.or_true, Bool.true_or, Bool.or_false, Bool.false_or, Bool.not_true, Bool.not_false, if_true, if_false, ↓reduceIte, Bool.false_eq_true, beq_self_eq_true, reduceCtorEq, String.reduceBEq, Nat.reduceEqDiff, Nat.reduceAdd, Nat.zero_add, Nat.reduceLeDiff, beq_true, beq_false, Int.zero_add, isi, eqD_str hs' hs, decide_true, decide_false, D.str.injEq]
    | _ => simp -implicitDefEqProofs only [p__law_same_9, p__law_same_10, done, List.cons_append, List.nil_append, List.replicate, Nat.reduceSub, S.seq, S.set, S.asg, S.own, S.ite, S.nil, S.ret, S.retN, S.drop, S.par, S.brk, S.cont, E.cb, E.var, E.c, E.cons, E.nil, E.rds, E.fzs, E.bin, E.un, E.and, E.or, E.not, E.bool, E.ite, E.lst, E.tup, E.call, E.callB, E.slice, E.part, E.noPart, E.chain, E.dK, E.dT, E.isi, E.mt, E.tyD, E.chg,
    T.ofE, T.tru, T.truth, T.and, T.or, T.not, T.yes, rd, fz, nf, G.name, G.sub, G.setIx, setIm, setOw, putOw, own, kill, argsOf, iosOf, putBack, scalD, rOk, oInt, oAdd, oSub, oMul, oMod, oDiv, oPow, oNeg, oLt, oLe, oGt, oGe, oIx, oIsN, oIsNotN, oIsB, oIsNotB, oEq, oNe, oIn, oNotIn, oSl, oList, oTuple, muAppend, muExtend, muPop, retOf, keepIo, giveE, wipeE, freeE, turnS, turnL, I.any,
    List.getElem?_cons_succ, List.getElem?_cons_zero, List.set_cons_succ, List.set_cons_zero, Option.bind_some, Option.map_some, Option.getD_some, List.map_cons, List.map_nil, List.take_succ_cons, List.take_zero, List.length_cons, List.length_nil, List.length_map, List.nodup_cons, List.not_mem_nil, List.mem_cons, not_false_eq_true, and_self, or_self, List.nodup_nil, List.all_cons, List.all_nil, Bool.and_self, Bool.and_true, Bool.true_and, Bool.false_and, Bool.and_false, Bool.or_true, Bool.true_or, Bool.or_false, Bool.false_or, Bool.not_true, Bool.not_false, if_true, if_false, ↓reduceIte, Bool.false_eq_true, beq_self_eq_true, reduceCtorEq, String.reduceBEq, Nat.reduceEqDiff, Nat.reduceAdd, Nat.zero_add, Nat.reduceLeDiff, beq_true, beq_false, Int.zero_add, isi, decide_true, decide_false]
  | lst ys h2 hl =>
    cases hx with
    | lst xs h1 _ => exact both D.lst (.inl rfl) xs ys h1 h2 hl
    | _ =>
      rw [sm_skip c' _ _ rfl rfl rfl rfl rfl rfl, seq_rt (sm_18f c' _ _ (by simp [isi])), decide_eq_false (fun z => nomatch z)]
      rfl
  | tup ys h2 hl =>
    cases hx with
    | tup xs h1 _ => exact both D.tup (.inr rfl) xs ys h1 h2 hl
    | _ =>
      rw [sm_skip c' _ _ rfl rfl rfl rfl rfl rfl, seq_rt (sm_18f c' _ _ (by simp [isi])), decide_eq_false (fun z => nomatch z)]
      rfl
theorem same_ok : ∀ (n : Nat) (x y : D), Pl n x → Pl n y → c__law_same n [.im x, .im y] = some (.v (.bl (@decide (x = y) (Classical.propDecidable _))), [.no, .no])
  | 0, _, _, h, _ => nomatch h
  | n + 1, x, y, hx, hy => same_step _ n (same_ok n) x y hx hy
end same
end K94

set_option Elab.async false
set_option linter.all false
set_option maxRecDepth 10000
set_option maxHeartbeats 4000000
set_option autoImplicit false
namespace K94
open PySem L2 Dv
/-! ### what the defs compute -/
section ev
def at_ (x : List Int) (i : Int) : Int := x.getD (i % (x.length : Int)).toNat 0
/-- begun at a place, read on or back -/
def begun (x : List Int) (p : Int) (b : Bool) : List Int := (List.range x.length).map fun k : Nat => at_ x (if b then p - k else p + k)
theorem begun_DL (x : List Int) (p : Int) (b : Bool) : DL (begun x p b) = .lst ((List.range x.length).map fun k : Nat => D.int (at_ x (if b then p - k else p + k))) := by
  show D.lst _ = _
  unfold begun
  rw [List.map_map]
  rfl
theorem begun_len (x : List Int) (p : Int) (b : Bool) : (begun x p b).length = x.length := by simp [begun]
theorem atI_fmod {x : List Int} (hx : 0 < x.length) (i : Int) : atI x (i.fmod x.length) = some (at_ x i) := by
  have h0 : (0 : Int) < (x.length : Int) := by omega
  rw [Int.fmod_eq_emod_of_nonneg _ (by omega)]
  have h1 := Int.emod_nonneg i (show (x.length : Int) ≠ 0 by omega)
  have h2 := Int.emod_lt_of_pos i h0
  unfold atI
  rw [ixN_in h1 h2, Option.bind_some]
  unfold at_
  rw [List.getD_eq_getElem?_getD, List.getElem?_eq_getElem (show (i % (x.length : Int)).toNat < x.length by omega)]
  rfl
theorem begun_at_ok {x : List Int} (hx : 0 < x.length) (hl : x.length ≤ 1000000) (p : Int) (b : Bool) : c_begun_at [.im (DL x), .im (.int p), .im (.bl b)] = some (.f (DL (begun x p b)), [.no, .no, .no]) := by
  unfold c_begun_at
  rw [run_eq 3 5 _ _ rfl]
  have n0 : ¬ ((x.length : Int) = 0) := by omega
  have e1 : p_begun_at_1 [.im (DL x), .im (.int p), .im (.bl b), .no, .no] = some (.nx [.im (DL x), .im (.int p), .im (.bl b), .im (.int x.length), .no]) := by
    simp -implicitDefEqProofs only [p_begun_at_1, List.cons_append, List.nil_append, List.replicate, Nat.reduceSub, S.seq, S.set, S.asg, S.own, S.ite, S.nil, S.ret, S.retN, S.drop, S.par, S.brk, S.cont, E.cb, E.var, E.c, E.cons, E.nil, E.rds, E.fzs, E.bin, E.un, E.and, E.or, E.not, E.bool, E.ite, E.lst, E.tup, E.call, E.callB, E.slice, E.part, E.noPart, E.chain, E.dK, E.dT, E.isi, isi, E.mt, E.tyD, E.chg,
    T.ofE, T.tru, T.truth, T.and, T.or, T.not, T.yes, rd, fz, nf, G.name, G.sub, G.setIx, setIm, setOw, putOw, own, kill, argsOf, iosOf, putBack, scalD, rOk, oLen, oInt, oAdd, oSub, oMul, oMod, oDiv, oPow, oNeg, oLt, oLe, oGt, oGe, oIx, oIsN, oIsNotN, oIsB, oIsNotB, isN, isB, oEq, oNe, oIn, oNotIn, oSl, oList, oTuple, muAppend, muExtend, muPop, retOf, keepIo, giveE, wipeE, freeE, turnS, turnL, I.any,
    List.getElem?_cons_succ, List.getElem?_cons_zero, List.set_cons_succ, List.set_cons_zero, Option.bind_some, Option.map_some, Option.getD_some, List.map_cons, List.map_nil, List.take_succ_cons, List.take_zero, List.length_cons, List.length_nil, List.length_map, List.nodup_cons, List.not_mem_nil, List.mem_cons, not_false_eq_true, and_self, or_self, List.nodup_nil, List.all_cons, List.all_nil, Bool.and_self, Bool.and_true, Bool.true_and, Bool.false_and, Bool.and_false, Bool.or_true, Bool.true_or, Bool.or_false, Bool.false_or, Bool.not_true, Bool.not_false, if_true, if_false, ↓reduceIte, Bool.false_eq_true, beq_self_eq_true, reduceCtorEq, String.reduceBEq, Nat.reduceEqDiff, Nat.reduceAdd, Nat.zero_add, Nat.reduceLeDiff, beq_true, beq_false, Int.zero_add]
  show done 3 5 (S.seq _ _ [.im (DL x), .im (.int p), .im (.bl b), .no, .no]) = _
  rw [seq_nx e1]
  cases b with
  | true =>
    have e2 : p_begun_at_2 [.im (DL x), .im (.int p), .im (.bl true), .im (.int x.length), .no] = some (.rt (.f (DL (begun x p true))) [.im (DL x), .im (.int p), .im (.bl true), .im (.int x.length), .no]) := by
      refine (ite_t rfl).trans (ret_of ?_)
      rw [begun_DL]
      refine lc_map (enc := fun k : Nat => D.int (k : Int)) _ (rng1_nat rfl rfl hl) (by rw [List.length_range]; exact hl) rfl rfl rfl fun k hk => ?_
      simp -implicitDefEqProofs only [List.cons_append, List.nil_append, List.replicate, Nat.reduceSub, S.seq, S.set, S.asg, S.own, S.ite, S.nil, S.ret, S.retN, S.drop, S.par, S.brk, S.cont, E.cb, E.var, E.c, E.cons, E.nil, E.rds, E.fzs, E.bin, E.un, E.and, E.or, E.not, E.bool, E.ite, E.lst, E.tup, E.call, E.callB, E.slice, E.part, E.noPart, E.chain, E.dK, E.dT, E.isi, isi, E.mt, E.tyD, E.chg,
    T.ofE, T.tru, T.truth, T.and, T.or, T.not, T.yes, rd, fz, nf, G.name, G.sub, G.setIx, setIm, setOw, putOw, own, kill, argsOf, iosOf, putBack, scalD, rOk, oLen, oInt, oAdd, oSub, oMul, oMod, oDiv, oPow, oNeg, oLt, oLe, oGt, oGe, oIx, oIsN, oIsNotN, oIsB, oIsNotB, isN, isB, oEq, oNe, oIn, oNotIn, oSl, oList, oTuple, muAppend, muExtend, muPop, retOf, keepIo, giveE, wipeE, freeE, turnS, turnL, I.any,
    List.getElem?_cons_succ, List.getElem?_cons_zero, List.set_cons_succ, List.set_cons_zero, Option.bind_some, Option.map_some, Option.getD_some, List.map_cons, List.map_nil, List.take_succ_cons, List.take_zero, List.length_cons, List.length_nil, List.length_map, List.nodup_cons, List.not_mem_nil, List.mem_cons, not_false_eq_true, and_self, or_self, List.nodup_nil, List.all_cons, List.all_nil, Bool.and_self, Bool.and_true, Bool.true_and, Bool.false_and, Bool.and_false, Bool.or_true, Bool.true_or, Bool.or_false, Bool.false_or, Bool.not_true, Bool.not_false, if_true, if_false, ↓reduceIte, Bool.false_eq_true, beq_self_eq_true, reduceCtorEq, String.reduceBEq, Nat.reduceEqDiff, Nat.reduceAdd, Nat.zero_add, Nat.reduceLeDiff, beq_true, beq_false, Int.zero_add, ne_eq, n0, atI_map, atI_fmod hx]
    rw [seq_rt e2]
    rfl
  | false =>
    have e2 : p_begun_at_2 [.im (DL x), .im (.int p), .im (.bl false), .im (.int x.length), .no] = some (.nx [.im (DL x), .im (.int p), .im (.bl false), .im (.int x.length), .no]) := rfl
    have e3 : p_begun_at_4 [.im (DL x), .im (.int p), .im (.bl false), .im (.int x.length), .no] = some (.rt (.f (DL (begun x p false))) [.im (DL x), .im (.int p), .im (.bl false), .im (.int x.length), .no]) := by
      refine ret_of ?_
      rw [begun_DL]
      refine lc_map (enc := fun k : Nat => D.int (k : Int)) _ (rng1_nat rfl rfl hl) (by rw [List.length_range]; exact hl) rfl rfl rfl fun k hk => ?_
      simp -implicitDefEqProofs only [List.cons_append, List.nil_append, List.replicate, Nat.reduceSub, S.seq, S.set, S.asg, S.own, S.ite, S.nil, S.ret, S.retN, S.drop, S.par, S.brk, S.cont, E.cb, E.var, E.c, E.cons, E.nil, E.rds, E.fzs, E.bin, E.un, E.and, E.or, E.not, E.bool, E.ite, E.lst, E.tup, E.call, E.callB, E.slice, E.part, E.noPart, E.chain, E.dK, E.dT, E.isi, isi, E.mt, E.tyD, E.chg,
    T.ofE, T.tru, T.truth, T.and, T.or, T.not, T.yes, rd, fz, nf, G.name, G.sub, G.setIx, setIm, setOw, putOw, own, kill, argsOf, iosOf, putBack, scalD, rOk, oLen, oInt, oAdd, oSub, oMul, oMod, oDiv, oPow, oNeg, oLt, oLe, oGt, oGe, oIx, oIsN, oIsNotN, oIsB, oIsNotB, isN, isB, oEq, oNe, oIn, oNotIn, oSl, oList, oTuple, muAppend, muExtend, muPop, retOf, keepIo, giveE, wipeE, freeE, turnS, turnL, I.any,
    List.getElem?_cons_succ, List.getElem?_cons_zero, List.set_cons_succ, List.set_cons_zero, Option.bind_some, Option.map_some, Option.getD_some, List.map_cons, List.map_nil, List.take_succ_cons, List.take_zero, List.length_cons, List.length_nil, List.length_map, List.nodup_cons, List.not_mem_nil, List.mem_cons, not_false_eq_true, and_self, or_self, List.nodup_nil, List.all_cons, List.all_nil, Bool.and_self, Bool.and_true, Bool.true_and, Bool.false_and, Bool.and_false, Bool.or_true, Bool.true_or, Bool.or_false, Bool.false_or, Bool.not_true, Bool.not_false, if_true, if_false, ↓reduceIte, Bool.false_eq_true, beq_self_eq_true, reduceCtorEq, String.reduceBEq, Nat.reduceEqDiff, Nat.reduceAdd, Nat.zero_add, Nat.reduceLeDiff, beq_true, beq_false, Int.zero_add, ne_eq, n0, atI_map, atI_fmod hx]
    rw [seq_nx e2, e3]
    rfl
theorem law_begun_ok {x : List Int} (hx : 0 < x.length) (hl : x.length ≤ 1000000) (p : Int) (b : Bool) : c__law_begun [.im (DL x), .im (.int p), .im (.bl b)] = some (.f (DL (begun x p b)), [.no, .no, .no]) := by
  unfold c__law_begun
  rw [run_eq 3 6 _ _ rfl]
  have n0 : ¬ ((x.length : Int) = 0) := by omega
  have e1 : p__law_begun_1 [.im (DL x), .im (.int p), .im (.bl b), .no, .no, .no] = some (.nx [.im (DL x), .im (.int p), .im (.bl b), .im (.int x.length), .no, .no]) := by
    simp -implicitDefEqProofs only [p__law_begun_1, List.cons_append, List.nil_append, List.replicate, Nat.reduceSub, S.seq, S.set, S.asg, S.own, S.ite, S.nil, S.ret, S.retN, S.drop, S.par, S.brk, S.cont, E.cb, E.var, E.c, E.cons, E.nil, E.rds, E.fzs, E.bin, E.un, E.and, E.or, E.not, E.bool, E.ite, E.lst, E.tup, E.call, E.callB, E.slice, E.part, E.noPart, E.chain, E.dK, E.dT, E.isi, isi, E.mt, E.tyD, E.chg,
    T.ofE, T.tru, T.truth, T.and, T.or, T.not, T.yes, rd, fz, nf, G.name, G.sub, G.setIx, setIm, setOw, putOw, own, kill, argsOf, iosOf, putBack, scalD, rOk, oLen, oInt, oAdd, oSub, oMul, oMod, oDiv, oPow, oNeg, oLt, oLe, oGt, oGe, oIx, oIsN, oIsNotN, oIsB, oIsNotB, isN, isB, oEq, oNe, oIn, oNotIn, oSl, oList, oTuple, muAppend, muExtend, muPop, retOf, keepIo, giveE, wipeE, freeE, turnS, turnL, I.any,
    List.getElem?_cons_succ, List.getElem?_cons_zero, List.set_cons_succ, List.set_cons_zero, Option.bind_some, Option.map_some, Option.getD_some, List.map_cons, List.map_nil, List.take_succ_cons, List.take_zero, List.length_cons, List.length_nil, List.length_map, List.nodup_cons, List.not_mem_nil, List.mem_cons, not_false_eq_true, and_self, or_self, List.nodup_nil, List.all_cons, List.all_nil, Bool.and_self, Bool.and_true, Bool.true_and, Bool.false_and, Bool.and_false, Bool.or_true, Bool.true_or, Bool.or_false, Bool.false_or, Bool.not_true, Bool.not_false, if_true, if_false, ↓reduceIte, Bool.false_eq_true, beq_self_eq_true, reduceCtorEq, String.reduceBEq, Nat.reduceEqDiff, Nat.reduceAdd, Nat.zero_add, Nat.reduceLeDiff, beq_true, beq_false, Int.zero_add]
  have e2 : p__law_begun_2 [.im (DL x), .im (.int p), .im (.bl b), .im (.int x.length), .no, .no] = some (.nx [.im (DL x), .im (.int p), .im (.bl b), .im (.int x.length), .im (.int (if b then -1 else 1)), .no]) := by
    cases b <;> simp -implicitDefEqProofs only [p__law_begun_2, List.cons_append, List.nil_append, List.replicate, Nat.reduceSub, S.seq, S.set, S.asg, S.own, S.ite, S.nil, S.ret, S.retN, S.drop, S.par, S.brk, S.cont, E.cb, E.var, E.c, E.cons, E.nil, E.rds, E.fzs, E.bin, E.un, E.and, E.or, E.not, E.bool, E.ite, E.lst, E.tup, E.call, E.callB, E.slice, E.part, E.noPart, E.chain, E.dK, E.dT, E.isi, isi, E.mt, E.tyD, E.chg,
    T.ofE, T.tru, T.truth, T.and, T.or, T.not, T.yes, rd, fz, nf, G.name, G.sub, G.setIx, setIm, setOw, putOw, own, kill, argsOf, iosOf, putBack, scalD, rOk, oLen, oInt, oAdd, oSub, oMul, oMod, oDiv, oPow, oNeg, oLt, oLe, oGt, oGe, oIx, oIsN, oIsNotN, oIsB, oIsNotB, isN, isB, oEq, oNe, oIn, oNotIn, oSl, oList, oTuple, muAppend, muExtend, muPop, retOf, keepIo, giveE, wipeE, freeE, turnS, turnL, I.any,
    List.getElem?_cons_succ, List.getElem?_cons_zero, List.set_cons_succ, List.set_cons_zero, Option.bind_some, Option.map_some, Option.getD_some, List.map_cons, List.map_nil, List.take_succ_cons, List.take_zero, List.length_cons, List.length_nil, List.length_map, List.nodup_cons, List.not_mem_nil, List.mem_cons, not_false_eq_true, and_self, or_self, List.nodup_nil, List.all_cons, List.all_nil, Bool.and_self, Bool.and_true, Bool.true_and, Bool.false_and, Bool.and_false, Bool.or_true, Bool.true_or, Bool.or_false, Bool.false_or, Bool.not_true, Bool.not_false, if_true, if_false, ↓reduceIte, Bool.false_eq_true, beq_self_eq_true, reduceCtorEq, String.reduceBEq, Nat.reduceEqDiff, Nat.reduceAdd, Nat.zero_add, Nat.reduceLeDiff, beq_true, beq_false, Int.zero_add]
  have m : ∀ k : Int, mulOk (if b then -1 else 1) k = true := fun k => mulOk_l (by cases b <;> decide)
  have e3 : p__law_begun_3 [.im (DL x), .im (.int p), .im (.bl b), .im (.int x.length), .im (.int (if b then -1 else 1)), .no] = some (.rt (.f (DL (begun x p b))) [.im (DL x), .im (.int p), .im (.bl b), .im (.int x.length), .im (.int (if b then -1 else 1)), .no]) := by
    refine ret_of ?_
    rw [begun_DL]
    refine lc_map (enc := fun k : Nat => D.int (k : Int)) _ (rng1_nat rfl rfl hl) (by rw [List.length_range]; exact hl) rfl rfl rfl fun k hk => ?_
    have q : p + (if b = true then -1 else 1) * (k : Int) = (if b = true then p - (k : Int) else p + (k : Int)) := by cases b <;> simp <;> omega
    simp -implicitDefEqProofs only [List.cons_append, List.nil_append, List.replicate, Nat.reduceSub, S.seq, S.set, S.asg, S.own, S.ite, S.nil, S.ret, S.retN, S.drop, S.par, S.brk, S.cont, E.cb, E.var, E.c, E.cons, E.nil, E.rds, E.fzs, E.bin, E.un, E.and, E.or, E.not, E.bool, E.ite, E.lst, E.tup, E.call, E.callB, E.slice, E.part, E.noPart, E.chain, E.dK, E.dT, E.isi, isi, E.mt, E.tyD, E.chg,
    T.ofE, T.tru, T.truth, T.and, T.or, T.not, T.yes, rd, fz, nf, G.name, G.sub, G.setIx, setIm, setOw, putOw, own, kill, argsOf, iosOf, putBack, scalD, rOk, oLen, oInt, oAdd, oSub, oMul, oMod, oDiv, oPow, oNeg, oLt, oLe, oGt, oGe, oIx, oIsN, oIsNotN, oIsB, oIsNotB, isN, isB, oEq, oNe, oIn, oNotIn, oSl, oList, oTuple, muAppend, muExtend, muPop, retOf, keepIo, giveE, wipeE, freeE, turnS, turnL, I.any,
    List.getElem?_cons_succ, List.getElem?_cons_zero, List.set_cons_succ, List.set_cons_zero, Option.bind_some, Option.map_some, Option.getD_some, List.map_cons, List.map_nil, List.take_succ_cons, List.take_zero, List.length_cons, List.length_nil, List.length_map, List.nodup_cons, List.not_mem_nil, List.mem_cons, not_false_eq_true, and_self, or_self, List.nodup_nil, List.all_cons, List.all_nil, Bool.and_self, Bool.and_true, Bool.true_and, Bool.false_and, Bool.and_false, Bool.or_true, Bool.true_or, Bool.or_false, Bool.false_or, Bool.not_true, Bool.not_false, if_true, if_false, ↓reduceIte, Bool.false_eq_true, beq_self_eq_true, reduceCtorEq, String.reduceBEq, Nat.reduceEqDiff, Nat.reduceAdd, Nat.zero_add, Nat.reduceLeDiff, beq_true, beq_false, Int.zero_add, ne_eq, n0, m, atI_map, q, atI_fmod hx]
  show done 3 6 (S.seq _ _ [.im (DL x), .im (.int p), .im (.bl b), .no, .no, .no]) = _
  rw [seq_nx e1, seq_nx e2, e3]
  rfl
/-- the kind, as a text -/
@[reducible] def KD (t : Bool) : D := .str (if t then "turned" else "shifted")
def ways (t : Bool) : List Bool := if t then [false, true] else [false]
theorem ways_len (t : Bool) : (ways t).length ≤ 2 := by cases t <;> decide
theorem eqD_KD (t : Bool) : eqD (KD t) (.str "turned") = some t := by
  cases t <;> exact eqD_of rfl rfl (by decide +kernel) (by decide +kernel) (by decide +kernel)
theorem ways_ok (t : Bool) : c_ways_round [.im (KD t)] = some (.v (.tup ((ways t).map D.bl)), [.no]) := by
  unfold c_ways_round
  rw [run_eq 1 1 _ _ rfl]
  have q := eqD_KD t
  cases t <;> simp -implicitDefEqProofs only [b_ways_round, p_ways_round_1, ways, done, List.cons_append, List.nil_append, List.replicate, Nat.reduceSub, S.seq, S.set, S.asg, S.own, S.ite, S.nil, S.ret, S.retN, S.drop, S.par, S.brk, S.cont, E.cb, E.var, E.c, E.cons, E.nil, E.rds, E.fzs, E.bin, E.un, E.and, E.or, E.not, E.bool, E.ite, E.lst, E.tup, E.call, E.callB, E.slice, E.part, E.noPart, E.chain, E.dK, E.dT, E.isi, isi, E.mt, E.tyD, E.chg,
    T.ofE, T.tru, T.truth, T.and, T.or, T.not, T.yes, rd, fz, nf, G.name, G.sub, G.setIx, setIm, setOw, putOw, own, kill, argsOf, iosOf, putBack, scalD, rOk, oLen, oInt, oAdd, oSub, oMul, oMod, oDiv, oPow, oNeg, oLt, oLe, oGt, oGe, oIx, oIsN, oIsNotN, oIsB, oIsNotB, isN, isB, oEq, oNe, oIn, oNotIn, oSl, oList, oTuple, muAppend, muExtend, muPop, retOf, keepIo, giveE, wipeE, freeE, turnS, turnL, I.any,
    List.getElem?_cons_succ, List.getElem?_cons_zero, List.set_cons_succ, List.set_cons_zero, Option.bind_some, Option.map_some, Option.getD_some, List.map_cons, List.map_nil, List.take_succ_cons, List.take_zero, List.length_cons, List.length_nil, List.length_map, List.nodup_cons, List.not_mem_nil, List.mem_cons, not_false_eq_true, and_self, or_self, List.nodup_nil, List.all_cons, List.all_nil, Bool.and_self, Bool.and_true, Bool.true_and, Bool.false_and, Bool.and_false, Bool.or_true, Bool.true_or, Bool.or_false, Bool.false_or, Bool.not_true, Bool.not_false, if_true, if_false, ↓reduceIte, Bool.false_eq_true, beq_self_eq_true, reduceCtorEq, String.reduceBEq, Nat.reduceEqDiff, Nat.reduceAdd, Nat.zero_add, Nat.reduceLeDiff, beq_true, beq_false, Int.zero_add, if_true, if_false, Bool.false_eq_true] at q ⊢ <;> simp -implicitDefEqProofs only [q, List.cons_append, List.nil_append, List.replicate, Nat.reduceSub, S.seq, S.set, S.asg, S.own, S.ite, S.nil, S.ret, S.retN, S.drop, S.par, S.brk, S.cont, E.cb, E.var, E.c, E.cons, E.nil, E.rds, E.fzs, E.bin, E.un, E.and, E.or, E.not, E.bool, E.ite, E.lst, E.tup, E.call, E.callB, E.slice, E.part, E.noPart, E.chain, E.dK, E.dT, E.isi, isi, E.mt, E.tyD, E.chg,
    T.ofE, T.tru, T.truth, T.and, T.or, T.not, T.yes, rd, fz, nf, G.name, G.sub, G.setIx, setIm, setOw, putOw, own, kill, argsOf, iosOf, putBack, scalD, rOk, oLen, oInt, oAdd, oSub, oMul, oMod, oDiv, oPow, oNeg, oLt, oLe, oGt, oGe, oIx, oIsN, oIsNotN, oIsB, oIsNotB, isN, isB, oEq, oNe, oIn, oNotIn, oSl, oList, oTuple, muAppend, muExtend, muPop, retOf, keepIo, giveE, wipeE, freeE, turnS, turnL, I.any,
    List.getElem?_cons_succ, List.getElem?_cons_zero, List.set_cons_succ, List.set_cons_zero, Option.bind_some, Option.map_some, Option.getD_some, List.map_cons, List.map_nil, List.take_succ_cons, List.take_zero, List.length_cons, List.length_nil, List.length_map, List.nodup_cons, List.not_mem_nil, List.mem_cons, not_false_eq_true, and_self, or_self, List.nodup_nil, List.all_cons, List.all_nil, Bool.and_self, Bool.and_true, Bool.true_and, Bool.false_and, Bool.and_false, Bool.or_true, Bool.true_or, Bool.or_false, Bool.false_or, Bool.not_true, Bool.not_false, if_true, if_false, ↓reduceIte, Bool.false_eq_true, beq_self_eq_true, reduceCtorEq, String.reduceBEq, Nat.reduceEqDiff, Nat.reduceAdd, Nat.zero_add, Nat.reduceLeDiff, beq_true, beq_false, Int.zero_add]
/-- the images, each once -/
def imgK (x : List Int) (t : Bool) : List (List Int) := (ways t).foldl (fun ks b => (List.range x.length).foldl (fun ks k => addK ks (begun x (k : Nat) b)) ks) []
def imgs (x : List Int) (t : Bool) : List (List Int) := (imgK x t).mergeSort leI
theorem foldl_len {α β : Type} {F : List β → α → List β} {G : Nat} (h : ∀ b x, (F b x).length ≤ b.length + G) : ∀ (xs : List α) (b : List β), (xs.foldl F b).length ≤ b.length + xs.length * G
  | [], b => by simp
  | x :: xs, b => by
    have h1 := foldl_len h xs (F b x)
    have h2 := h b x
    rw [List.foldl_cons, List.length_cons, Nat.succ_mul]
    omega
theorem foldl_keep {α β : Type} {F : β → α → β} {Q : β → Prop} : ∀ {xs : List α} {b : β}, (∀ b, ∀ x ∈ xs, Q b → Q (F b x)) → Q b → Q (xs.foldl F b)
  | [], _, _, hb => hb
  | x :: xs, b, h, hb => by
    rw [List.foldl_cons]
    exact foldl_keep (fun b y hy => h b y (List.mem_cons_of_mem _ hy)) (h b x List.mem_cons_self hb)
theorem imgK_all {x : List Int} {t : Bool} {Q : List Int → Prop} (h : ∀ (k : Nat) b, k < x.length → b ∈ ways t → Q (begun x k b)) : ∀ y ∈ imgK x t, Q y := by
  unfold imgK
  refine foldl_keep (Q := fun ks => ∀ y ∈ ks, Q y) (fun ks b hb hk => ?_) (fun y hy => by cases hy)
  refine foldl_keep (Q := fun ks => ∀ y ∈ ks, Q y) (fun ks k hk2 hk => ?_) hk
  intro y hy
  rcases mem_addK.mp hy with hy | rfl
  · exact hk y hy
  · exact h k b (List.mem_range.mp hk2) hb
theorem mem_fold {α β : Type} {F : List α → β → List α} {P : β → α → Prop} (h : ∀ ks b y, y ∈ F ks b ↔ y ∈ ks ∨ P b y) : ∀ (xs : List β) (ks : List α) (y : α), y ∈ xs.foldl F ks ↔ y ∈ ks ∨ ∃ b ∈ xs, P b y
  | [], ks, y => by simp
  | b :: xs, ks, y => by
    rw [List.foldl_cons, mem_fold h xs, h]
    simp only [List.mem_cons, or_assoc, exists_eq_or_imp]
theorem mem_addF {f : Nat → List Int} (xs : List Nat) (ks : List (List Int)) (y : List Int) : y ∈ xs.foldl (fun ks k => addK ks (f k)) ks ↔ y ∈ ks ∨ ∃ k ∈ xs, y = f k := mem_fold (F := fun ks k => addK ks (f k)) (P := fun k y => y = f k) (fun _ _ _ => mem_addK) xs ks y
theorem mem_addB {f : Bool → List Int} (xs : List Bool) (ks : List (List Int)) (y : List Int) : y ∈ xs.foldl (fun ks k => addK ks (f k)) ks ↔ y ∈ ks ∨ ∃ k ∈ xs, y = f k := mem_fold (F := fun ks k => addK ks (f k)) (P := fun k y => y = f k) (fun _ _ _ => mem_addK) xs ks y
theorem mem_imgK {x : List Int} {t : Bool} {y : List Int} : y ∈ imgK x t ↔ ∃ (k : Nat) (b : Bool), k < x.length ∧ b ∈ ways t ∧ y = begun x k b := by
  unfold imgK
  rw [mem_fold (P := fun b y => ∃ k ∈ List.range x.length, y = begun x (k : Nat) b) fun ks b y => mem_addF (f := fun k => begun x k b) _ ks y]
  simp only [List.not_mem_nil, false_or, List.mem_range]
  exact ⟨fun ⟨b, hb, k, hk, e⟩ => ⟨k, b, hk, hb, e⟩, fun ⟨k, b, hk, hb, e⟩ => ⟨b, hb, k, hk, e⟩⟩
theorem nodup_imgK (x : List Int) (t : Bool) : (imgK x t).Nodup := by
  unfold imgK
  exact foldl_keep (Q := List.Nodup) (fun ks b _ h => foldl_keep (Q := List.Nodup) (fun ks k _ h => nodup_addK h) h) List.nodup_nil
/-- the same, place by place -/
def imgL (x : List Int) (t : Bool) : List (List Int) := (List.range x.length).foldl (fun ks k => (ways t).foldl (fun ks b => addK ks (begun x (k : Nat) b)) ks) []
theorem mem_imgL {x : List Int} {t : Bool} {y : List Int} : y ∈ imgL x t ↔ ∃ (k : Nat) (b : Bool), k < x.length ∧ b ∈ ways t ∧ y = begun x k b := by
  unfold imgL
  rw [mem_fold (P := fun k y => ∃ b ∈ ways t, y = begun x (k : Nat) b) fun ks k y => mem_addB (f := fun b => begun x k b) _ ks y]
  simp only [List.not_mem_nil, false_or, List.mem_range]
  exact ⟨fun ⟨k, hk, b, hb, e⟩ => ⟨k, b, hk, hb, e⟩, fun ⟨k, b, hk, hb, e⟩ => ⟨k, hk, b, hb, e⟩⟩
theorem nodup_imgL (x : List Int) (t : Bool) : (imgL x t).Nodup := by
  unfold imgL
  exact foldl_keep (Q := List.Nodup) (fun ks b _ h => foldl_keep (Q := List.Nodup) (fun ks k _ h => nodup_addK h) h) List.nodup_nil
theorem sort_sorted (l : List (List Int)) : (l.mergeSort leI).Pairwise fun a b => leI a b = true := List.pairwise_mergeSort leI_trans (fun a b => by rcases leI_total a b with h | h <;> rw [h] <;> simp) l
theorem sort_eq {l m : List (List Int)} (h : l.Perm m) : l.mergeSort leI = m.mergeSort leI :=
  List.Perm.eq_of_pairwise (fun a b _ _ h1 h2 => leI_anti h1 h2) (sort_sorted l) (sort_sorted m) ((List.mergeSort_perm l leI).trans (h.trans (List.mergeSort_perm m leI).symm))
theorem sort_imgL (x : List Int) (t : Bool) : (imgL x t).mergeSort leI = imgs x t := sort_eq ((List.perm_ext_iff_of_nodup (nodup_imgL x t) (nodup_imgK x t)).mpr fun y => mem_imgL.trans mem_imgK.symm)
theorem images_in {x : List Int} (hx : 0 < x.length) (hl : x.length ≤ 1000) (t : Bool) (ks : List (List Int)) (b : Bool) (hk : ks.length + x.length ≤ 1000000) : p_images_3 [.im (DL x), .im (KD t), .ow (DKs ks), .im (.bl b), .no, .no] =
      some (.nx [.im (DL x), .im (KD t), .ow (DKs ((List.range x.length).foldl (fun ks k => addK ks (begun x (k : Nat) b)) ks)), .im (.bl b), .no, .no]) := by
  refine (for_of (rng1_nat (n := x.length) rfl (by simp only [rd, List.length_map]) (by omega))).trans ?_
  refine loop_foldN (enc := fun k : Nat => D.int (k : Int)) (fun ks : List (List Int) => [.im (DL x), .im (KD t), .ow (DKs ks), .im (.bl b), .no, .no]) (fun ks k => addK ks (begun x (k : Nat) b)) List.length 1000000 1 (fun k hk ks hn => ?_) (fun k _ ks => addK_len ks _) (by rw [List.length_range]; omega)
  have hn2 : ks.length < 1000000 := by omega
  simp -implicitDefEqProofs only [p_images_4, List.cons_append, List.nil_append, List.replicate, Nat.reduceSub, S.seq, S.set, S.asg, S.own, S.ite, S.nil, S.ret, S.retN, S.drop, S.par, S.brk, S.cont, E.cb, E.var, E.c, E.cons, E.nil, E.rds, E.fzs, E.bin, E.un, E.and, E.or, E.not, E.bool, E.ite, E.lst, E.tup, E.call, E.callB, E.slice, E.part, E.noPart, E.chain, E.dK, E.dT, E.isi, isi, E.mt, E.tyD, E.chg,
    T.ofE, T.tru, T.truth, T.and, T.or, T.not, T.yes, rd, fz, nf, G.name, G.sub, G.setIx, setIm, setOw, putOw, own, kill, argsOf, iosOf, putBack, scalD, rOk, oLen, oInt, oAdd, oSub, oMul, oMod, oDiv, oPow, oNeg, oLt, oLe, oGt, oGe, oIx, oIsN, oIsNotN, oIsB, oIsNotB, isN, isB, oEq, oNe, oIn, oNotIn, oSl, oList, oTuple, muAppend, muExtend, muPop, retOf, keepIo, giveE, wipeE, freeE, turnS, turnL, I.any,
    List.getElem?_cons_succ, List.getElem?_cons_zero, List.set_cons_succ, List.set_cons_zero, Option.bind_some, Option.map_some, Option.getD_some, List.map_cons, List.map_nil, List.take_succ_cons, List.take_zero, List.length_cons, List.length_nil, List.length_map, List.nodup_cons, List.not_mem_nil, List.mem_cons, not_false_eq_true, and_self, or_self, List.nodup_nil, List.all_cons, List.all_nil, Bool.and_self, Bool.and_true, Bool.true_and, Bool.false_and, Bool.and_false, Bool.or_true, Bool.true_or, Bool.or_false, Bool.false_or, Bool.not_true, Bool.not_false, if_true, if_false, ↓reduceIte, Bool.false_eq_true, beq_self_eq_true, reduceCtorEq, String.reduceBEq, Nat.reduceEqDiff, Nat.reduceAdd, Nat.zero_add, Nat.reduceLeDiff, beq_true, beq_false, Int.zero_add, begun_at_ok hx (by omega : x.length ≤ 1000000), keysOf_ints, hn2, dput_DKs]
theorem images_2 {x : List Int} (hx : 0 < x.length) (hl : x.length ≤ 1000) (t : Bool) : p_images_2 [.im (DL x), .im (KD t), .ow (DKs []), .no, .no, .no] = some (.nx [.im (DL x), .im (KD t), .ow (DKs (imgK x t)), .no, .no, .no]) := by
  have it : I.any (E.call [false] c_ways_round (E.cons (E.var 1) E.nil)) [.im (DL x), .im (KD t), .ow (DKs []), .no, .no, .no] = some ((ways t).map D.bl, [.im (DL x), .im (KD t), .ow (DKs []), .no, .no, .no]) := by
    simp -implicitDefEqProofs only [List.cons_append, List.nil_append, List.replicate, Nat.reduceSub, S.seq, S.set, S.asg, S.own, S.ite, S.nil, S.ret, S.retN, S.drop, S.par, S.brk, S.cont, E.cb, E.var, E.c, E.cons, E.nil, E.rds, E.fzs, E.bin, E.un, E.and, E.or, E.not, E.bool, E.ite, E.lst, E.tup, E.call, E.callB, E.slice, E.part, E.noPart, E.chain, E.dK, E.dT, E.isi, isi, E.mt, E.tyD, E.chg,
    T.ofE, T.tru, T.truth, T.and, T.or, T.not, T.yes, rd, fz, nf, G.name, G.sub, G.setIx, setIm, setOw, putOw, own, kill, argsOf, iosOf, putBack, scalD, rOk, oLen, oInt, oAdd, oSub, oMul, oMod, oDiv, oPow, oNeg, oLt, oLe, oGt, oGe, oIx, oIsN, oIsNotN, oIsB, oIsNotB, isN, isB, oEq, oNe, oIn, oNotIn, oSl, oList, oTuple, muAppend, muExtend, muPop, retOf, keepIo, giveE, wipeE, freeE, turnS, turnL, I.any,
    List.getElem?_cons_succ, List.getElem?_cons_zero, List.set_cons_succ, List.set_cons_zero, Option.bind_some, Option.map_some, Option.getD_some, List.map_cons, List.map_nil, List.take_succ_cons, List.take_zero, List.length_cons, List.length_nil, List.length_map, List.nodup_cons, List.not_mem_nil, List.mem_cons, not_false_eq_true, and_self, or_self, List.nodup_nil, List.all_cons, List.all_nil, Bool.and_self, Bool.and_true, Bool.true_and, Bool.false_and, Bool.and_false, Bool.or_true, Bool.true_or, Bool.or_false, Bool.false_or, Bool.not_true, Bool.not_false, if_true, if_false, ↓reduceIte, Bool.false_eq_true, beq_self_eq_true, reduceCtorEq, String.reduceBEq, Nat.reduceEqDiff, Nat.reduceAdd, Nat.zero_add, Nat.reduceLeDiff, beq_true, beq_false, Int.zero_add, ways_ok]
  refine (for_of it).trans ?_
  refine loop_foldN (enc := D.bl) (fun ks : List (List Int) => [.im (DL x), .im (KD t), .ow (DKs ks), .no, .no, .no]) (fun ks b => (List.range x.length).foldl (fun ks k => addK ks (begun x (k : Nat) b)) ks) List.length 1000000 x.length (fun b hb ks hn => ?_) (fun b _ ks => ?_) ?_
  · simp -implicitDefEqProofs only [List.cons_append, List.nil_append, List.replicate, Nat.reduceSub, S.seq, S.set, S.asg, S.own, S.ite, S.nil, S.ret, S.retN, S.drop, S.par, S.brk, S.cont, E.cb, E.var, E.c, E.cons, E.nil, E.rds, E.fzs, E.bin, E.un, E.and, E.or, E.not, E.bool, E.ite, E.lst, E.tup, E.call, E.callB, E.slice, E.part, E.noPart, E.chain, E.dK, E.dT, E.isi, isi, E.mt, E.tyD, E.chg,
    T.ofE, T.tru, T.truth, T.and, T.or, T.not, T.yes, rd, fz, nf, G.name, G.sub, G.setIx, setIm, setOw, putOw, own, kill, argsOf, iosOf, putBack, scalD, rOk, oLen, oInt, oAdd, oSub, oMul, oMod, oDiv, oPow, oNeg, oLt, oLe, oGt, oGe, oIx, oIsN, oIsNotN, oIsB, oIsNotB, isN, isB, oEq, oNe, oIn, oNotIn, oSl, oList, oTuple, muAppend, muExtend, muPop, retOf, keepIo, giveE, wipeE, freeE, turnS, turnL, I.any,
    List.getElem?_cons_succ, List.getElem?_cons_zero, List.set_cons_succ, List.set_cons_zero, Option.bind_some, Option.map_some, Option.getD_some, List.map_cons, List.map_nil, List.take_succ_cons, List.take_zero, List.length_cons, List.length_nil, List.length_map, List.nodup_cons, List.not_mem_nil, List.mem_cons, not_false_eq_true, and_self, or_self, List.nodup_nil, List.all_cons, List.all_nil, Bool.and_self, Bool.and_true, Bool.true_and, Bool.false_and, Bool.and_false, Bool.or_true, Bool.true_or, Bool.or_false, Bool.false_or, Bool.not_true, Bool.not_false, if_true, if_false, ↓reduceIte, Bool.false_eq_true, beq_self_eq_true, reduceCtorEq, String.reduceBEq, Nat.reduceEqDiff, Nat.reduceAdd, Nat.zero_add, Nat.reduceLeDiff, beq_true, beq_false, Int.zero_add, images_in hx hl t ks b hn]
  · have := foldl_len (F := fun ks (k : Nat) => addK ks (begun x (k : Nat) b)) (G := 1) (fun ks k => addK_len ks _) (List.range x.length) ks
    rw [List.length_range] at this
    omega
  · have : (ways t).length ≤ 2 := by cases t <;> decide
    have h3 : (ways t).length * x.length ≤ 2 * x.length := Nat.mul_le_mul_right _ this
    simp only [List.length_nil]
    omega
theorem imgK_ne {x : List Int} (hx : 0 < x.length) (t : Bool) : ∀ y ∈ imgK x t, y ≠ [] := imgK_all fun k b _ _ e => by
  have q := begun_len x k b
  rw [e] at q
  simp at q
  omega
theorem imgK_len {x : List Int} {t : Bool} : (imgK x t).length ≤ 2 * x.length := by
  have h1 := foldl_len (F := fun ks b => (List.range x.length).foldl (fun ks k => addK ks (begun x (k : Nat) b)) ks) (G := x.length) (fun ks b => by
    have := foldl_len (F := fun ks (k : Nat) => addK ks (begun x (k : Nat) b)) (G := 1) (fun ks k => addK_len ks _) (List.range x.length) ks
    rw [List.length_range] at this
    omega) (ways t) []
  have h2 : (ways t).length ≤ 2 := by cases t <;> decide
  have h3 : (ways t).length * x.length ≤ 2 * x.length := Nat.mul_le_mul_right _ h2
  simp only [List.length_nil] at h1
  unfold imgK
  omega
theorem imgs_len {x : List Int} {t : Bool} : (imgs x t).length ≤ 2 * x.length := by
  unfold imgs
  rw [List.length_mergeSort]
  exact imgK_len
theorem images_5 {x : List Int} (hx : 0 < x.length) (hl : x.length ≤ 1000) (t : Bool) : p_images_5 [.im (DL x), .im (KD t), .ow (DKs (imgK x t)), .no, .no, .no] = some (.rt (.f (DLL (imgs x t))) [.im (DL x), .im (KD t), .ow (DKs (imgK x t)), .no, .no, .no]) := by
  refine ret_of ?_
  have q := sorted_DKs (imgK_ne hx t)
  have it : I.any (E.cb oSorted (E.cons (E.var 2) E.nil)) [.im (DL x), .im (KD t), .ow (DKs (imgK x t)), .no, .no, .no] = some ((imgs x t).map DT, [.im (DL x), .im (KD t), .ow (DKs (imgK x t)), .no, .no, .no]) := by
    simp -implicitDefEqProofs only [List.cons_append, List.nil_append, List.replicate, Nat.reduceSub, S.seq, S.set, S.asg, S.own, S.ite, S.nil, S.ret, S.retN, S.drop, S.par, S.brk, S.cont, E.cb, E.var, E.c, E.cons, E.nil, E.rds, E.fzs, E.bin, E.un, E.and, E.or, E.not, E.bool, E.ite, E.lst, E.tup, E.call, E.callB, E.slice, E.part, E.noPart, E.chain, E.dK, E.dT, E.isi, isi, E.mt, E.tyD, E.chg,
    T.ofE, T.tru, T.truth, T.and, T.or, T.not, T.yes, rd, fz, nf, G.name, G.sub, G.setIx, setIm, setOw, putOw, own, kill, argsOf, iosOf, putBack, scalD, rOk, oLen, oInt, oAdd, oSub, oMul, oMod, oDiv, oPow, oNeg, oLt, oLe, oGt, oGe, oIx, oIsN, oIsNotN, oIsB, oIsNotB, isN, isB, oEq, oNe, oIn, oNotIn, oSl, oList, oTuple, muAppend, muExtend, muPop, retOf, keepIo, giveE, wipeE, freeE, turnS, turnL, I.any,
    List.getElem?_cons_succ, List.getElem?_cons_zero, List.set_cons_succ, List.set_cons_zero, Option.bind_some, Option.map_some, Option.getD_some, List.map_cons, List.map_nil, List.take_succ_cons, List.take_zero, List.length_cons, List.length_nil, List.length_map, List.nodup_cons, List.not_mem_nil, List.mem_cons, not_false_eq_true, and_self, or_self, List.nodup_nil, List.all_cons, List.all_nil, Bool.and_self, Bool.and_true, Bool.true_and, Bool.false_and, Bool.and_false, Bool.or_true, Bool.true_or, Bool.or_false, Bool.false_or, Bool.not_true, Bool.not_false, if_true, if_false, ↓reduceIte, Bool.false_eq_true, beq_self_eq_true, reduceCtorEq, String.reduceBEq, Nat.reduceEqDiff, Nat.reduceAdd, Nat.zero_add, Nat.reduceLeDiff, beq_true, beq_false, Int.zero_add, q, imgs]
  refine lc_map (enc := DT) DL it ?_ rfl rfl rfl fun y hy => ?_
  · have := imgs_len (x := x) (t := t)
    omega
  · simp -implicitDefEqProofs only [List.cons_append, List.nil_append, List.replicate, Nat.reduceSub, S.seq, S.set, S.asg, S.own, S.ite, S.nil, S.ret, S.retN, S.drop, S.par, S.brk, S.cont, E.cb, E.var, E.c, E.cons, E.nil, E.rds, E.fzs, E.bin, E.un, E.and, E.or, E.not, E.bool, E.ite, E.lst, E.tup, E.call, E.callB, E.slice, E.part, E.noPart, E.chain, E.dK, E.dT, E.isi, isi, E.mt, E.tyD, E.chg,
    T.ofE, T.tru, T.truth, T.and, T.or, T.not, T.yes, rd, fz, nf, G.name, G.sub, G.setIx, setIm, setOw, putOw, own, kill, argsOf, iosOf, putBack, scalD, rOk, oLen, oInt, oAdd, oSub, oMul, oMod, oDiv, oPow, oNeg, oLt, oLe, oGt, oGe, oIx, oIsN, oIsNotN, oIsB, oIsNotB, isN, isB, oEq, oNe, oIn, oNotIn, oSl, oList, oTuple, muAppend, muExtend, muPop, retOf, keepIo, giveE, wipeE, freeE, turnS, turnL, I.any,
    List.getElem?_cons_succ, List.getElem?_cons_zero, List.set_cons_succ, List.set_cons_zero, Option.bind_some, Option.map_some, Option.getD_some, List.map_cons, List.map_nil, List.take_succ_cons, List.take_zero, List.length_cons, List.length_nil, List.length_map, List.nodup_cons, List.not_mem_nil, List.mem_cons, not_false_eq_true, and_self, or_self, List.nodup_nil, List.all_cons, List.all_nil, Bool.and_self, Bool.and_true, Bool.true_and, Bool.false_and, Bool.and_false, Bool.or_true, Bool.true_or, Bool.or_false, Bool.false_or, Bool.not_true, Bool.not_false, if_true, if_false, ↓reduceIte, Bool.false_eq_true, beq_self_eq_true, reduceCtorEq, String.reduceBEq, Nat.reduceEqDiff, Nat.reduceAdd, Nat.zero_add, Nat.reduceLeDiff, beq_true, beq_false, Int.zero_add]
theorem images_ok {x : List Int} (hx : 0 < x.length) (hl : x.length ≤ 1000) (t : Bool) : c_images [.im (DL x), .im (KD t)] = some (.f (DLL (imgs x t)), [.no, .no]) := by
  unfold c_images
  rw [run_eq 2 6 _ _ rfl]
  show done 2 6 (S.seq _ (S.seq _ _) [.im (DL x), .im (KD t), .no, .no, .no, .no]) = _
  have e1 : p_images_1 [.im (DL x), .im (KD t), .no, .no, .no, .no] = some (.nx [.im (DL x), .im (KD t), .ow (DKs []), .no, .no, .no]) := rfl
  rw [seq_nx e1, seq_nx (images_2 hx hl t), images_5 hx hl t]
  rfl
theorem imgs_at {x : List Int} {t : Bool} : atI ((imgs x t).map DL) 0 = ((imgs x t)[0]?).map DL := by
  rw [atI_map]
  exact congrArg _ (atI_nat _ 0)
/-- the first image -/
def form (x : List Int) (t : Bool) : List Int := (imgs x t).headD []
theorem imgs_ne {x : List Int} (hx : 0 < x.length) (t : Bool) : imgs x t ≠ [] := by
  have h : begun x 0 false ∈ imgK x t := by
    exact mem_imgK.mpr ⟨0, false, hx, by cases t <;> decide, rfl⟩
  intro e
  have := (List.mergeSort_perm (imgK x t) leI).mem_iff.mpr h
  unfold imgs at e
  rw [e] at this
  cases this
theorem imgs_cons {x : List Int} (hx : 0 < x.length) (t : Bool) : ∃ r, imgs x t = form x t :: r := by
  unfold form
  cases h : imgs x t with
  | nil => exact absurd h (imgs_ne hx t)
  | cons a r => exact ⟨r, rfl⟩
theorem atI_form {x : List Int} (hx : 0 < x.length) (t : Bool) : atI ((imgs x t).map DL) 0 = some (DL (form x t)) := by
  obtain ⟨r, h⟩ := imgs_cons hx t
  rw [h, List.map_cons, atI_0]
theorem form_ok {x : List Int} (hx : 0 < x.length) (hl : x.length ≤ 1000) (t : Bool) : c_form [.im (DL x), .im (KD t)] = some (.v (DL (form x t)), [.no, .no]) := by
  unfold c_form
  rw [run_eq 2 2 _ _ rfl]
  simp -implicitDefEqProofs only [b_form, p_form_1, done, List.cons_append, List.nil_append, List.replicate, Nat.reduceSub, S.seq, S.set, S.asg, S.own, S.ite, S.nil, S.ret, S.retN, S.drop, S.par, S.brk, S.cont, E.cb, E.var, E.c, E.cons, E.nil, E.rds, E.fzs, E.bin, E.un, E.and, E.or, E.not, E.bool, E.ite, E.lst, E.tup, E.call, E.callB, E.slice, E.part, E.noPart, E.chain, E.dK, E.dT, E.isi, isi, E.mt, E.tyD, E.chg,
    T.ofE, T.tru, T.truth, T.and, T.or, T.not, T.yes, rd, fz, nf, G.name, G.sub, G.setIx, setIm, setOw, putOw, own, kill, argsOf, iosOf, putBack, scalD, rOk, oLen, oInt, oAdd, oSub, oMul, oMod, oDiv, oPow, oNeg, oLt, oLe, oGt, oGe, oIx, oIsN, oIsNotN, oIsB, oIsNotB, isN, isB, oEq, oNe, oIn, oNotIn, oSl, oList, oTuple, muAppend, muExtend, muPop, retOf, keepIo, giveE, wipeE, freeE, turnS, turnL, I.any,
    List.getElem?_cons_succ, List.getElem?_cons_zero, List.set_cons_succ, List.set_cons_zero, Option.bind_some, Option.map_some, Option.getD_some, List.map_cons, List.map_nil, List.take_succ_cons, List.take_zero, List.length_cons, List.length_nil, List.length_map, List.nodup_cons, List.not_mem_nil, List.mem_cons, not_false_eq_true, and_self, or_self, List.nodup_nil, List.all_cons, List.all_nil, Bool.and_self, Bool.and_true, Bool.true_and, Bool.false_and, Bool.and_false, Bool.or_true, Bool.true_or, Bool.or_false, Bool.false_or, Bool.not_true, Bool.not_false, if_true, if_false, ↓reduceIte, Bool.false_eq_true, beq_self_eq_true, reduceCtorEq, String.reduceBEq, Nat.reduceEqDiff, Nat.reduceAdd, Nat.zero_add, Nat.reduceLeDiff, beq_true, beq_false, Int.zero_add, images_ok hx hl, atI_form hx]
theorem is_form_ok {x : List Int} (hx : 0 < x.length) (hl : x.length ≤ 1000) (t : Bool) : c_is_form [.im (DL x), .im (KD t)] = some (.v (.bl (decide (form x t = x))), [.no, .no]) := by
  unfold c_is_form
  rw [run_eq 2 2 _ _ rfl]
  simp -implicitDefEqProofs only [b_is_form, p_is_form_1, done, List.cons_append, List.nil_append, List.replicate, Nat.reduceSub, S.seq, S.set, S.asg, S.own, S.ite, S.nil, S.ret, S.retN, S.drop, S.par, S.brk, S.cont, E.cb, E.var, E.c, E.cons, E.nil, E.rds, E.fzs, E.bin, E.un, E.and, E.or, E.not, E.bool, E.ite, E.lst, E.tup, E.call, E.callB, E.slice, E.part, E.noPart, E.chain, E.dK, E.dT, E.isi, isi, E.mt, E.tyD, E.chg,
    T.ofE, T.tru, T.truth, T.and, T.or, T.not, T.yes, rd, fz, nf, G.name, G.sub, G.setIx, setIm, setOw, putOw, own, kill, argsOf, iosOf, putBack, scalD, rOk, oLen, oInt, oAdd, oSub, oMul, oMod, oDiv, oPow, oNeg, oLt, oLe, oGt, oGe, oIx, oIsN, oIsNotN, oIsB, oIsNotB, isN, isB, oEq, oNe, oIn, oNotIn, oSl, oList, oTuple, muAppend, muExtend, muPop, retOf, keepIo, giveE, wipeE, freeE, turnS, turnL, I.any,
    List.getElem?_cons_succ, List.getElem?_cons_zero, List.set_cons_succ, List.set_cons_zero, Option.bind_some, Option.map_some, Option.getD_some, List.map_cons, List.map_nil, List.take_succ_cons, List.take_zero, List.length_cons, List.length_nil, List.length_map, List.nodup_cons, List.not_mem_nil, List.mem_cons, not_false_eq_true, and_self, or_self, List.nodup_nil, List.all_cons, List.all_nil, Bool.and_self, Bool.and_true, Bool.true_and, Bool.false_and, Bool.and_false, Bool.or_true, Bool.true_or, Bool.or_false, Bool.false_or, Bool.not_true, Bool.not_false, if_true, if_false, ↓reduceIte, Bool.false_eq_true, beq_self_eq_true, reduceCtorEq, String.reduceBEq, Nat.reduceEqDiff, Nat.reduceAdd, Nat.zero_add, Nat.reduceLeDiff, beq_true, beq_false, Int.zero_add, form_ok hx hl, eqD_DL]

/-! the law's own images -/
theorem law_images_in {x : List Int} (hx : 0 < x.length) (hl : x.length ≤ 1000) (t : Bool) (ks : List (List Int)) (k : Nat) (hk : ks.length + 2 ≤ 1000000) : p__law_images_3 [.im (DL x), .im (KD t), .ow (DLL ks), .im (.int (k : Int)), .no, .no] =
      some (.nx [.im (DL x), .im (KD t), .ow (DLL ((ways t).foldl (fun ks b => addK ks (begun x (k : Nat) b)) ks)), .im (.int (k : Int)), .no, .no]) := by
  have it : I.any (E.ite (T.ofE (E.bin oEq (E.var 1) (E.c (.str "turned")))) (E.lst (E.cons (E.c (.bl false)) (E.cons (E.c (.bl true)) E.nil))) (E.lst (E.cons (E.c (.bl false)) E.nil))) [.im (DL x), .im (KD t), .ow (DLL ks), .im (.int (k : Int)), .no, .no] =
      some ((ways t).map D.bl, [.im (DL x), .im (KD t), .ow (DLL ks), .im (.int (k : Int)), .no, .no]) := by
    have q := eqD_KD t
    cases t <;> simp -implicitDefEqProofs only [ways, List.cons_append, List.nil_append, List.replicate, Nat.reduceSub, S.seq, S.set, S.asg, S.own, S.ite, S.nil, S.ret, S.retN, S.drop, S.par, S.brk, S.cont, E.cb, E.var, E.c, E.cons, E.nil, E.rds, E.fzs, E.bin, E.un, E.and, E.or, E.not, E.bool, E.ite, E.lst, E.tup, E.call, E.callB, E.slice, E.part, E.noPart, E.chain, E.dK, E.dT, E.isi, isi, E.mt, E.tyD, E.chg,
    T.ofE, T.tru, T.truth, T.and, T.or, T.not, T.yes, rd, fz, nf, G.name, G.sub, G.setIx, setIm, setOw, putOw, own, kill, argsOf, iosOf, putBack, scalD, rOk, oLen, oInt, oAdd, oSub, oMul, oMod, oDiv, oPow, oNeg, oLt, oLe, oGt, oGe, oIx, oIsN, oIsNotN, oIsB, oIsNotB, isN, isB, oEq, oNe, oIn, oNotIn, oSl, oList, oTuple, muAppend, muExtend, muPop, retOf, keepIo, giveE, wipeE, freeE, turnS, turnL, I.any,
    List.getElem?_cons_succ, List.getElem?_cons_zero, List.set_cons_succ, List.set_cons_zero, Option.bind_some, Option.map_some, Option.getD_some, List.map_cons, List.map_nil, List.take_succ_cons, List.take_zero, List.length_cons, List.length_nil, List.length_map, List.nodup_cons, List.not_mem_nil, List.mem_cons, not_false_eq_true, and_self, or_self, List.nodup_nil, List.all_cons, List.all_nil, Bool.and_self, Bool.and_true, Bool.true_and, Bool.false_and, Bool.and_false, Bool.or_true, Bool.true_or, Bool.or_false, Bool.false_or, Bool.not_true, Bool.not_false, if_true, if_false, ↓reduceIte, Bool.false_eq_true, beq_self_eq_true, reduceCtorEq, String.reduceBEq, Nat.reduceEqDiff, Nat.reduceAdd, Nat.zero_add, Nat.reduceLeDiff, beq_true, beq_false, Int.zero_add, if_true, if_false, Bool.false_eq_true] at q ⊢ <;> simp -implicitDefEqProofs only [q, List.cons_append, List.nil_append, List.replicate, Nat.reduceSub, S.seq, S.set, S.asg, S.own, S.ite, S.nil, S.ret, S.retN, S.drop, S.par, S.brk, S.cont, E.cb, E.var, E.c, E.cons, E.nil, E.rds, E.fzs, E.bin, E.un, E.and, E.or, E.not, E.bool, E.ite, E.lst, E.tup, E.call, E.callB, E.slice, E.part, E.noPart, E.chain, E.dK, E.dT, E.isi, isi, E.mt, E.tyD, E.chg,
    T.ofE, T.tru, T.truth, T.and, T.or, T.not, T.yes, rd, fz, nf, G.name, G.sub, G.setIx, setIm, setOw, putOw, own, kill, argsOf, iosOf, putBack, scalD, rOk, oLen, oInt, oAdd, oSub, oMul, oMod, oDiv, oPow, oNeg, oLt, oLe, oGt, oGe, oIx, oIsN, oIsNotN, oIsB, oIsNotB, isN, isB, oEq, oNe, oIn, oNotIn, oSl, oList, oTuple, muAppend, muExtend, muPop, retOf, keepIo, giveE, wipeE, freeE, turnS, turnL, I.any,
    List.getElem?_cons_succ, List.getElem?_cons_zero, List.set_cons_succ, List.set_cons_zero, Option.bind_some, Option.map_some, Option.getD_some, List.map_cons, List.map_nil, List.take_succ_cons, List.take_zero, List.length_cons, List.length_nil, List.length_map, List.nodup_cons, List.not_mem_nil, List.mem_cons, not_false_eq_true, and_self, or_self, List.nodup_nil, List.all_cons, List.all_nil, Bool.and_self, Bool.and_true, Bool.true_and, Bool.false_and, Bool.and_false, Bool.or_true, Bool.true_or, Bool.or_false, Bool.false_or, Bool.not_true, Bool.not_false, if_true, if_false, ↓reduceIte, Bool.false_eq_true, beq_self_eq_true, reduceCtorEq, String.reduceBEq, Nat.reduceEqDiff, Nat.reduceAdd, Nat.zero_add, Nat.reduceLeDiff, beq_true, beq_false, Int.zero_add]
  refine (for_of it).trans ?_
  refine loop_foldN (enc := D.bl) (fun ks : List (List Int) => [.im (DL x), .im (KD t), .ow (DLL ks), .im (.int (k : Int)), .no, .no]) (fun ks b => addK ks (begun x (k : Nat) b)) List.length 1000000 1 (fun b hb ks hn => ?_) (fun b _ ks => addK_len ks _) (by have h2 := ways_len t; omega)
  have hn2 : ks.length < 1000000 := by omega
  unfold addK
  by_cases c : begun x k b ∈ ks
  · simp -implicitDefEqProofs only [q__law_images_3, p__law_images_4, p__law_images_5, List.cons_append, List.nil_append, List.replicate, Nat.reduceSub, S.seq, S.set, S.asg, S.own, S.ite, S.nil, S.ret, S.retN, S.drop, S.par, S.brk, S.cont, E.cb, E.var, E.c, E.cons, E.nil, E.rds, E.fzs, E.bin, E.un, E.and, E.or, E.not, E.bool, E.ite, E.lst, E.tup, E.call, E.callB, E.slice, E.part, E.noPart, E.chain, E.dK, E.dT, E.isi, isi, E.mt, E.tyD, E.chg,
    T.ofE, T.tru, T.truth, T.and, T.or, T.not, T.yes, rd, fz, nf, G.name, G.sub, G.setIx, setIm, setOw, putOw, own, kill, argsOf, iosOf, putBack, scalD, rOk, oLen, oInt, oAdd, oSub, oMul, oMod, oDiv, oPow, oNeg, oLt, oLe, oGt, oGe, oIx, oIsN, oIsNotN, oIsB, oIsNotB, isN, isB, oEq, oNe, oIn, oNotIn, oSl, oList, oTuple, muAppend, muExtend, muPop, retOf, keepIo, giveE, wipeE, freeE, turnS, turnL, I.any,
    List.getElem?_cons_succ, List.getElem?_cons_zero, List.set_cons_succ, List.set_cons_zero, Option.bind_some, Option.map_some, Option.getD_some, List.map_cons, List.map_nil, List.take_succ_cons, List.take_zero, List.length_cons, List.length_nil, List.length_map, List.nodup_cons, List.not_mem_nil, List.mem_cons, not_false_eq_true, and_self, or_self, List.nodup_nil, List.all_cons, List.all_nil, Bool.and_self, Bool.and_true, Bool.true_and, Bool.false_and, Bool.and_false, Bool.or_true, Bool.true_or, Bool.or_false, Bool.false_or, Bool.not_true, Bool.not_false, if_true, if_false, ↓reduceIte, Bool.false_eq_true, beq_self_eq_true, reduceCtorEq, String.reduceBEq, Nat.reduceEqDiff, Nat.reduceAdd, Nat.zero_add, Nat.reduceLeDiff, beq_true, beq_false, Int.zero_add, law_begun_ok hx (by omega : x.length ≤ 1000000), inD_DL, c, decide_true]
  · simp -implicitDefEqProofs only [q__law_images_3, p__law_images_4, p__law_images_5, p__law_images_6, List.cons_append, List.nil_append, List.replicate, Nat.reduceSub, S.seq, S.set, S.asg, S.own, S.ite, S.nil, S.ret, S.retN, S.drop, S.par, S.brk, S.cont, E.cb, E.var, E.c, E.cons, E.nil, E.rds, E.fzs, E.bin, E.un, E.and, E.or, E.not, E.bool, E.ite, E.lst, E.tup, E.call, E.callB, E.slice, E.part, E.noPart, E.chain, E.dK, E.dT, E.isi, isi, E.mt, E.tyD, E.chg,
    T.ofE, T.tru, T.truth, T.and, T.or, T.not, T.yes, rd, fz, nf, G.name, G.sub, G.setIx, setIm, setOw, putOw, own, kill, argsOf, iosOf, putBack, scalD, rOk, oLen, oInt, oAdd, oSub, oMul, oMod, oDiv, oPow, oNeg, oLt, oLe, oGt, oGe, oIx, oIsN, oIsNotN, oIsB, oIsNotB, isN, isB, oEq, oNe, oIn, oNotIn, oSl, oList, oTuple, muAppend, muExtend, muPop, retOf, keepIo, giveE, wipeE, freeE, turnS, turnL, I.any,
    List.getElem?_cons_succ, List.getElem?_cons_zero, List.set_cons_succ, List.set_cons_zero, Option.bind_some, Option.map_some, Option.getD_some, List.map_cons, List.map_nil, List.take_succ_cons, List.take_zero, List.length_cons, List.length_nil, List.length_map, List.nodup_cons, List.not_mem_nil, List.mem_cons, not_false_eq_true, and_self, or_self, List.nodup_nil, List.all_cons, List.all_nil, Bool.and_self, Bool.and_true, Bool.true_and, Bool.false_and, Bool.and_false, Bool.or_true, Bool.true_or, Bool.or_false, Bool.false_or, Bool.not_true, Bool.not_false, if_true, if_false, ↓reduceIte, Bool.false_eq_true, beq_self_eq_true, reduceCtorEq, String.reduceBEq, Nat.reduceEqDiff, Nat.reduceAdd, Nat.zero_add, Nat.reduceLeDiff, beq_true, beq_false, Int.zero_add, law_begun_ok hx (by omega : x.length ≤ 1000000), inD_DL, c, decide_false, hn2, DLL_app]
theorem law_images_ok {x : List Int} (hx : 0 < x.length) (hl : x.length ≤ 1000) (t : Bool) : c__law_images [.im (DL x), .im (KD t)] = some (.f (DLL (imgs x t)), [.no, .no]) := by
  unfold c__law_images
  rw [run_eq 2 6 _ _ rfl]
  show done 2 6 (S.seq _ (S.seq _ _) [.im (DL x), .im (KD t), .no, .no, .no, .no]) = _
  have e1 : p__law_images_1 [.im (DL x), .im (KD t), .no, .no, .no, .no] = some (.nx [.im (DL x), .im (KD t), .ow (DLL []), .no, .no, .no]) := by
    simp -implicitDefEqProofs only [p__law_images_1, List.cons_append, List.nil_append, List.replicate, Nat.reduceSub, S.seq, S.set, S.asg, S.own, S.ite, S.nil, S.ret, S.retN, S.drop, S.par, S.brk, S.cont, E.cb, E.var, E.c, E.cons, E.nil, E.rds, E.fzs, E.bin, E.un, E.and, E.or, E.not, E.bool, E.ite, E.lst, E.tup, E.call, E.callB, E.slice, E.part, E.noPart, E.chain, E.dK, E.dT, E.isi, isi, E.mt, E.tyD, E.chg,
    T.ofE, T.tru, T.truth, T.and, T.or, T.not, T.yes, rd, fz, nf, G.name, G.sub, G.setIx, setIm, setOw, putOw, own, kill, argsOf, iosOf, putBack, scalD, rOk, oLen, oInt, oAdd, oSub, oMul, oMod, oDiv, oPow, oNeg, oLt, oLe, oGt, oGe, oIx, oIsN, oIsNotN, oIsB, oIsNotB, isN, isB, oEq, oNe, oIn, oNotIn, oSl, oList, oTuple, muAppend, muExtend, muPop, retOf, keepIo, giveE, wipeE, freeE, turnS, turnL, I.any,
    List.getElem?_cons_succ, List.getElem?_cons_zero, List.set_cons_succ, List.set_cons_zero, Option.bind_some, Option.map_some, Option.getD_some, List.map_cons, List.map_nil, List.take_succ_cons, List.take_zero, List.length_cons, List.length_nil, List.length_map, List.nodup_cons, List.not_mem_nil, List.mem_cons, not_false_eq_true, and_self, or_self, List.nodup_nil, List.all_cons, List.all_nil, Bool.and_self, Bool.and_true, Bool.true_and, Bool.false_and, Bool.and_false, Bool.or_true, Bool.true_or, Bool.or_false, Bool.false_or, Bool.not_true, Bool.not_false, if_true, if_false, ↓reduceIte, Bool.false_eq_true, beq_self_eq_true, reduceCtorEq, String.reduceBEq, Nat.reduceEqDiff, Nat.reduceAdd, Nat.zero_add, Nat.reduceLeDiff, beq_true, beq_false, Int.zero_add, Nat.zero_le]
    rfl
  have e2 : p__law_images_2 [.im (DL x), .im (KD t), .ow (DLL []), .no, .no, .no] = some (.nx [.im (DL x), .im (KD t), .ow (DLL (imgL x t)), .no, .no, .no]) := by
    refine (for_of (rng1_nat (n := x.length) rfl (by simp only [rd, List.length_map]) (by omega))).trans ?_
    refine loop_foldN (enc := fun k : Nat => D.int (k : Int)) (fun ks : List (List Int) => [.im (DL x), .im (KD t), .ow (DLL ks), .no, .no, .no]) (fun ks k => (ways t).foldl (fun ks b => addK ks (begun x (k : Nat) b)) ks) List.length 1000000 2 (fun k hk ks hn => ?_) (fun k _ ks => ?_) ?_
    · simp -implicitDefEqProofs only [List.cons_append, List.nil_append, List.replicate, Nat.reduceSub, S.seq, S.set, S.asg, S.own, S.ite, S.nil, S.ret, S.retN, S.drop, S.par, S.brk, S.cont, E.cb, E.var, E.c, E.cons, E.nil, E.rds, E.fzs, E.bin, E.un, E.and, E.or, E.not, E.bool, E.ite, E.lst, E.tup, E.call, E.callB, E.slice, E.part, E.noPart, E.chain, E.dK, E.dT, E.isi, isi, E.mt, E.tyD, E.chg,
    T.ofE, T.tru, T.truth, T.and, T.or, T.not, T.yes, rd, fz, nf, G.name, G.sub, G.setIx, setIm, setOw, putOw, own, kill, argsOf, iosOf, putBack, scalD, rOk, oLen, oInt, oAdd, oSub, oMul, oMod, oDiv, oPow, oNeg, oLt, oLe, oGt, oGe, oIx, oIsN, oIsNotN, oIsB, oIsNotB, isN, isB, oEq, oNe, oIn, oNotIn, oSl, oList, oTuple, muAppend, muExtend, muPop, retOf, keepIo, giveE, wipeE, freeE, turnS, turnL, I.any,
    List.getElem?_cons_succ, List.getElem?_cons_zero, List.set_cons_succ, List.set_cons_zero, Option.bind_some, Option.map_some, Option.getD_some, List.map_cons, List.map_nil, List.take_succ_cons, List.take_zero, List.length_cons, List.length_nil, List.length_map, List.nodup_cons, List.not_mem_nil, List.mem_cons, not_false_eq_true, and_self, or_self, List.nodup_nil, List.all_cons, List.all_nil, Bool.and_self, Bool.and_true, Bool.true_and, Bool.false_and, Bool.and_false, Bool.or_true, Bool.true_or, Bool.or_false, Bool.false_or, Bool.not_true, Bool.not_false, if_true, if_false, ↓reduceIte, Bool.false_eq_true, beq_self_eq_true, reduceCtorEq, String.reduceBEq, Nat.reduceEqDiff, Nat.reduceAdd, Nat.zero_add, Nat.reduceLeDiff, beq_true, beq_false, Int.zero_add, law_images_in hx hl t ks k hn]
    · have := foldl_len (F := fun ks (b : Bool) => addK ks (begun x (k : Nat) b)) (G := 1) (fun ks k => addK_len ks _) (ways t) ks
      have h2 : (ways t).length ≤ 2 := by cases t <;> decide
      omega
    · rw [List.length_range, List.length_nil]
      omega
  have e3 : p__law_images_7 [.im (DL x), .im (KD t), .ow (DLL (imgL x t)), .no, .no, .no] = some (.rt (.f (DLL (imgs x t))) [.im (DL x), .im (KD t), .ow (DLL (imgL x t)), .no, .no, .no]) := by
    have q := sorted_DLL (imgL x t)
    simp -implicitDefEqProofs only [p__law_images_7, List.cons_append, List.nil_append, List.replicate, Nat.reduceSub, S.seq, S.set, S.asg, S.own, S.ite, S.nil, S.ret, S.retN, S.drop, S.par, S.brk, S.cont, E.cb, E.var, E.c, E.cons, E.nil, E.rds, E.fzs, E.bin, E.un, E.and, E.or, E.not, E.bool, E.ite, E.lst, E.tup, E.call, E.callB, E.slice, E.part, E.noPart, E.chain, E.dK, E.dT, E.isi, isi, E.mt, E.tyD, E.chg,
    T.ofE, T.tru, T.truth, T.and, T.or, T.not, T.yes, rd, fz, nf, G.name, G.sub, G.setIx, setIm, setOw, putOw, own, kill, argsOf, iosOf, putBack, scalD, rOk, oLen, oInt, oAdd, oSub, oMul, oMod, oDiv, oPow, oNeg, oLt, oLe, oGt, oGe, oIx, oIsN, oIsNotN, oIsB, oIsNotB, isN, isB, oEq, oNe, oIn, oNotIn, oSl, oList, oTuple, muAppend, muExtend, muPop, retOf, keepIo, giveE, wipeE, freeE, turnS, turnL, I.any,
    List.getElem?_cons_succ, List.getElem?_cons_zero, List.set_cons_succ, List.set_cons_zero, Option.bind_some, Option.map_some, Option.getD_some, List.map_cons, List.map_nil, List.take_succ_cons, List.take_zero, List.length_cons, List.length_nil, List.length_map, List.nodup_cons, List.not_mem_nil, List.mem_cons, not_false_eq_true, and_self, or_self, List.nodup_nil, List.all_cons, List.all_nil, Bool.and_self, Bool.and_true, Bool.true_and, Bool.false_and, Bool.and_false, Bool.or_true, Bool.true_or, Bool.or_false, Bool.false_or, Bool.not_true, Bool.not_false, if_true, if_false, ↓reduceIte, Bool.false_eq_true, beq_self_eq_true, reduceCtorEq, String.reduceBEq, Nat.reduceEqDiff, Nat.reduceAdd, Nat.zero_add, Nat.reduceLeDiff, beq_true, beq_false, Int.zero_add, q, sort_imgL]
  rw [seq_nx e1, seq_nx e2, e3]
  rfl
/-! moves -/
def move (x y : List Int) (t : Bool) : Option (Nat × Bool) := (List.range x.length).findSome? fun k => ((ways t).find? fun b => decide (begun x (k : Nat) b = y)).map fun b => (k, b)
def MD : Option (Nat × Bool) → D
  | some m => .tup [.int (m.1 : Nat), .bl m.2]
  | none => .non
theorem move_to_ok {x y : List Int} (hx : 0 < x.length) (hl : x.length ≤ 1000) (t : Bool) : c_move_to [.im (DL x), .im (DL y), .im (KD t)] = some (.v (MD (move x y t)), [.no, .no, .no]) := by
  unfold c_move_to
  rw [run_eq 3 5 _ _ rfl]
  have e1 : p_move_to_1 [.im (DL x), .im (DL y), .im (KD t), .no, .no] = some (fndO (fun m : Nat × Bool => .v (.tup [.int (m.1 : Nat), .bl m.2])) (fun m => [.im (DL x), .im (DL y), .im (KD t), .im (.int (m.1 : Nat)), .im (.bl m.2)]) [.im (DL x), .im (DL y), .im (KD t), .no, .no] (move x y t)) := by
    refine (for_of (rng1_nat (n := x.length) rfl (by simp only [rd, List.length_map]) (by omega))).trans ?_
    refine loop_findS (enc := fun k : Nat => D.int (k : Int)) _ _ _ fun k hk => ?_
    have it : I.any (E.call [false] c_ways_round (E.cons (E.var 2) E.nil)) [.im (DL x), .im (DL y), .im (KD t), .im (.int (k : Nat)), .no] = some ((ways t).map D.bl, [.im (DL x), .im (DL y), .im (KD t), .im (.int (k : Nat)), .no]) := by
      simp -implicitDefEqProofs only [List.cons_append, List.nil_append, List.replicate, Nat.reduceSub, S.seq, S.set, S.asg, S.own, S.ite, S.nil, S.ret, S.retN, S.drop, S.par, S.brk, S.cont, E.cb, E.var, E.c, E.cons, E.nil, E.rds, E.fzs, E.bin, E.un, E.and, E.or, E.not, E.bool, E.ite, E.lst, E.tup, E.call, E.callB, E.slice, E.part, E.noPart, E.chain, E.dK, E.dT, E.isi, isi, E.mt, E.tyD, E.chg,
    T.ofE, T.tru, T.truth, T.and, T.or, T.not, T.yes, rd, fz, nf, G.name, G.sub, G.setIx, setIm, setOw, putOw, own, kill, argsOf, iosOf, putBack, scalD, rOk, oLen, oInt, oAdd, oSub, oMul, oMod, oDiv, oPow, oNeg, oLt, oLe, oGt, oGe, oIx, oIsN, oIsNotN, oIsB, oIsNotB, isN, isB, oEq, oNe, oIn, oNotIn, oSl, oList, oTuple, muAppend, muExtend, muPop, retOf, keepIo, giveE, wipeE, freeE, turnS, turnL, I.any,
    List.getElem?_cons_succ, List.getElem?_cons_zero, List.set_cons_succ, List.set_cons_zero, Option.bind_some, Option.map_some, Option.getD_some, List.map_cons, List.map_nil, List.take_succ_cons, List.take_zero, List.length_cons, List.length_nil, List.length_map, List.nodup_cons, List.not_mem_nil, List.mem_cons, not_false_eq_true, and_self, or_self, List.nodup_nil, List.all_cons, List.all_nil, Bool.and_self, Bool.and_true, Bool.true_and, Bool.false_and, Bool.and_false, Bool.or_true, Bool.true_or, Bool.or_false, Bool.false_or, Bool.not_true, Bool.not_false, if_true, if_false, ↓reduceIte, Bool.false_eq_true, beq_self_eq_true, reduceCtorEq, String.reduceBEq, Nat.reduceEqDiff, Nat.reduceAdd, Nat.zero_add, Nat.reduceLeDiff, beq_true, beq_false, Int.zero_add, ways_ok]
    have e2 : p_move_to_2 [.im (DL x), .im (DL y), .im (KD t), .im (.int (k : Nat)), .no] = some (fndO (fun b : Bool => .v (.tup [.int (k : Nat), .bl b])) (fun b => [.im (DL x), .im (DL y), .im (KD t), .im (.int (k : Nat)), .im (.bl b)]) [.im (DL x), .im (DL y), .im (KD t), .im (.int (k : Nat)), .no] ((ways t).find? fun b => decide (begun x (k : Nat) b = y))) := by
      refine (for_of it).trans ?_
      refine loop_find (enc := D.bl) _ _ _ fun b hb => ?_
      by_cases c : begun x (k : Nat) b = y
      · simp -implicitDefEqProofs only [p_move_to_3, p_move_to_4, List.cons_append, List.nil_append, List.replicate, Nat.reduceSub, S.seq, S.set, S.asg, S.own, S.ite, S.nil, S.ret, S.retN, S.drop, S.par, S.brk, S.cont, E.cb, E.var, E.c, E.cons, E.nil, E.rds, E.fzs, E.bin, E.un, E.and, E.or, E.not, E.bool, E.ite, E.lst, E.tup, E.call, E.callB, E.slice, E.part, E.noPart, E.chain, E.dK, E.dT, E.isi, isi, E.mt, E.tyD, E.chg,
    T.ofE, T.tru, T.truth, T.and, T.or, T.not, T.yes, rd, fz, nf, G.name, G.sub, G.setIx, setIm, setOw, putOw, own, kill, argsOf, iosOf, putBack, scalD, rOk, oLen, oInt, oAdd, oSub, oMul, oMod, oDiv, oPow, oNeg, oLt, oLe, oGt, oGe, oIx, oIsN, oIsNotN, oIsB, oIsNotB, isN, isB, oEq, oNe, oIn, oNotIn, oSl, oList, oTuple, muAppend, muExtend, muPop, retOf, keepIo, giveE, wipeE, freeE, turnS, turnL, I.any,
    List.getElem?_cons_succ, List.getElem?_cons_zero, List.set_cons_succ, List.set_cons_zero, Option.bind_some, Option.map_some, Option.getD_some, List.map_cons, List.map_nil, List.take_succ_cons, List.take_zero, List.length_cons, List.length_nil, List.length_map, List.nodup_cons, List.not_mem_nil, List.mem_cons, not_false_eq_true, and_self, or_self, List.nodup_nil, List.all_cons, List.all_nil, Bool.and_self, Bool.and_true, Bool.true_and, Bool.false_and, Bool.and_false, Bool.or_true, Bool.true_or, Bool.or_false, Bool.false_or, Bool.not_true, Bool.not_false, if_true, if_false, ↓reduceIte, Bool.false_eq_true, beq_self_eq_true, reduceCtorEq, String.reduceBEq, Nat.reduceEqDiff, Nat.reduceAdd, Nat.zero_add, Nat.reduceLeDiff, beq_true, beq_false, Int.zero_add, begun_at_ok hx (by omega : x.length ≤ 1000000), eqD_DL, c, decide_true]
      · simp -implicitDefEqProofs only [p_move_to_3, List.cons_append, List.nil_append, List.replicate, Nat.reduceSub, S.seq, S.set, S.asg, S.own, S.ite, S.nil, S.ret, S.retN, S.drop, S.par, S.brk, S.cont, E.cb, E.var, E.c, E.cons, E.nil, E.rds, E.fzs, E.bin, E.un, E.and, E.or, E.not, E.bool, E.ite, E.lst, E.tup, E.call, E.callB, E.slice, E.part, E.noPart, E.chain, E.dK, E.dT, E.isi, isi, E.mt, E.tyD, E.chg,
    T.ofE, T.tru, T.truth, T.and, T.or, T.not, T.yes, rd, fz, nf, G.name, G.sub, G.setIx, setIm, setOw, putOw, own, kill, argsOf, iosOf, putBack, scalD, rOk, oLen, oInt, oAdd, oSub, oMul, oMod, oDiv, oPow, oNeg, oLt, oLe, oGt, oGe, oIx, oIsN, oIsNotN, oIsB, oIsNotB, isN, isB, oEq, oNe, oIn, oNotIn, oSl, oList, oTuple, muAppend, muExtend, muPop, retOf, keepIo, giveE, wipeE, freeE, turnS, turnL, I.any,
    List.getElem?_cons_succ, List.getElem?_cons_zero, List.set_cons_succ, List.set_cons_zero, Option.bind_some, Option.map_some, Option.getD_some, List.map_cons, List.map_nil, List.take_succ_cons, List.take_zero, List.length_cons, List.length_nil, List.length_map, List.nodup_cons, List.not_mem_nil, List.mem_cons, not_false_eq_true, and_self, or_self, List.nodup_nil, List.all_cons, List.all_nil, Bool.and_self, Bool.and_true, Bool.true_and, Bool.false_and, Bool.and_false, Bool.or_true, Bool.true_or, Bool.or_false, Bool.false_or, Bool.not_true, Bool.not_false, if_true, if_false, ↓reduceIte, Bool.false_eq_true, beq_self_eq_true, reduceCtorEq, String.reduceBEq, Nat.reduceEqDiff, Nat.reduceAdd, Nat.zero_add, Nat.reduceLeDiff, beq_true, beq_false, Int.zero_add, begun_at_ok hx (by omega : x.length ≤ 1000000), eqD_DL, c, decide_false]
    cases hf : (ways t).find? (fun b => decide (begun x (k : Nat) b = y)) with
    | none =>
      rw [hf] at e2
      simp -implicitDefEqProofs only [List.cons_append, List.nil_append, List.replicate, Nat.reduceSub, S.seq, S.set, S.asg, S.own, S.ite, S.nil, S.ret, S.retN, S.drop, S.par, S.brk, S.cont, E.cb, E.var, E.c, E.cons, E.nil, E.rds, E.fzs, E.bin, E.un, E.and, E.or, E.not, E.bool, E.ite, E.lst, E.tup, E.call, E.callB, E.slice, E.part, E.noPart, E.chain, E.dK, E.dT, E.isi, isi, E.mt, E.tyD, E.chg,
    T.ofE, T.tru, T.truth, T.and, T.or, T.not, T.yes, rd, fz, nf, G.name, G.sub, G.setIx, setIm, setOw, putOw, own, kill, argsOf, iosOf, putBack, scalD, rOk, oLen, oInt, oAdd, oSub, oMul, oMod, oDiv, oPow, oNeg, oLt, oLe, oGt, oGe, oIx, oIsN, oIsNotN, oIsB, oIsNotB, isN, isB, oEq, oNe, oIn, oNotIn, oSl, oList, oTuple, muAppend, muExtend, muPop, retOf, keepIo, giveE, wipeE, freeE, turnS, turnL, I.any,
    List.getElem?_cons_succ, List.getElem?_cons_zero, List.set_cons_succ, List.set_cons_zero, Option.bind_some, Option.map_some, Option.getD_some, List.map_cons, List.map_nil, List.take_succ_cons, List.take_zero, List.length_cons, List.length_nil, List.length_map, List.nodup_cons, List.not_mem_nil, List.mem_cons, not_false_eq_true, and_self, or_self, List.nodup_nil, List.all_cons, List.all_nil, Bool.and_self, Bool.and_true, Bool.true_and, Bool.false_and, Bool.and_false, Bool.or_true, Bool.true_or, Bool.or_false, Bool.false_or, Bool.not_true, Bool.not_false, if_true, if_false, ↓reduceIte, Bool.false_eq_true, beq_self_eq_true, reduceCtorEq, String.reduceBEq, Nat.reduceEqDiff, Nat.reduceAdd, Nat.zero_add, Nat.reduceLeDiff, beq_true, beq_false, Int.zero_add, e2, fndO, Option.map_none]
    | some b =>
      rw [hf] at e2
      simp -implicitDefEqProofs only [List.cons_append, List.nil_append, List.replicate, Nat.reduceSub, S.seq, S.set, S.asg, S.own, S.ite, S.nil, S.ret, S.retN, S.drop, S.par, S.brk, S.cont, E.cb, E.var, E.c, E.cons, E.nil, E.rds, E.fzs, E.bin, E.un, E.and, E.or, E.not, E.bool, E.ite, E.lst, E.tup, E.call, E.callB, E.slice, E.part, E.noPart, E.chain, E.dK, E.dT, E.isi, isi, E.mt, E.tyD, E.chg,
    T.ofE, T.tru, T.truth, T.and, T.or, T.not, T.yes, rd, fz, nf, G.name, G.sub, G.setIx, setIm, setOw, putOw, own, kill, argsOf, iosOf, putBack, scalD, rOk, oLen, oInt, oAdd, oSub, oMul, oMod, oDiv, oPow, oNeg, oLt, oLe, oGt, oGe, oIx, oIsN, oIsNotN, oIsB, oIsNotB, isN, isB, oEq, oNe, oIn, oNotIn, oSl, oList, oTuple, muAppend, muExtend, muPop, retOf, keepIo, giveE, wipeE, freeE, turnS, turnL, I.any,
    List.getElem?_cons_succ, List.getElem?_cons_zero, List.set_cons_succ, List.set_cons_zero, Option.bind_some, Option.map_some, Option.getD_some, List.map_cons, List.map_nil, List.take_succ_cons, List.take_zero, List.length_cons, List.length_nil, List.length_map, List.nodup_cons, List.not_mem_nil, List.mem_cons, not_false_eq_true, and_self, or_self, List.nodup_nil, List.all_cons, List.all_nil, Bool.and_self, Bool.and_true, Bool.true_and, Bool.false_and, Bool.and_false, Bool.or_true, Bool.true_or, Bool.or_false, Bool.false_or, Bool.not_true, Bool.not_false, if_true, if_false, ↓reduceIte, Bool.false_eq_true, beq_self_eq_true, reduceCtorEq, String.reduceBEq, Nat.reduceEqDiff, Nat.reduceAdd, Nat.zero_add, Nat.reduceLeDiff, beq_true, beq_false, Int.zero_add, e2, fndO]
  show done 3 5 (S.seq _ _ [.im (DL x), .im (DL y), .im (KD t), .no, .no]) = _
  cases hm : move x y t with
  | none =>
    rw [hm] at e1
    rw [seq_nx e1]
    rfl
  | some m =>
    rw [hm] at e1
    rw [seq_rt e1]
    rfl
theorem first_move_ok {x y : List Int} (hx : 0 < x.length) (hl : x.length ≤ 1000) (t : Bool) : c__law_first_move [.im (DL x), .im (DL y), .im (KD t)] = some (.v (MD (move x y t)), [.no, .no, .no]) := by
  unfold c__law_first_move
  rw [run_eq 3 5 _ _ rfl]
  have e1 : p__law_first_move_1 [.im (DL x), .im (DL y), .im (KD t), .no, .no] = some (fndO (fun m : Nat × Bool => .v (.tup [.int (m.1 : Nat), .bl m.2])) (fun m => [.im (DL x), .im (DL y), .im (KD t), .im (.int (m.1 : Nat)), .im (.bl m.2)]) [.im (DL x), .im (DL y), .im (KD t), .no, .no] (move x y t)) := by
    refine (for_of (rng1_nat (n := x.length) rfl (by simp only [rd, List.length_map]) (by omega))).trans ?_
    refine loop_findS (enc := fun k : Nat => D.int (k : Int)) _ _ _ fun k hk => ?_
    have it : I.any (E.ite (T.ofE (E.bin oEq (E.var 2) (E.c (.str "turned")))) (E.lst (E.cons (E.c (.bl false)) (E.cons (E.c (.bl true)) E.nil))) (E.lst (E.cons (E.c (.bl false)) E.nil))) [.im (DL x), .im (DL y), .im (KD t), .im (.int (k : Nat)), .no] = some ((ways t).map D.bl, [.im (DL x), .im (DL y), .im (KD t), .im (.int (k : Nat)), .no]) := by
      have q := eqD_KD t
      cases t <;> simp -implicitDefEqProofs only [ways, List.cons_append, List.nil_append, List.replicate, Nat.reduceSub, S.seq, S.set, S.asg, S.own, S.ite, S.nil, S.ret, S.retN, S.drop, S.par, S.brk, S.cont, E.cb, E.var, E.c, E.cons, E.nil, E.rds, E.fzs, E.bin, E.un, E.and, E.or, E.not, E.bool, E.ite, E.lst, E.tup, E.call, E.callB, E.slice, E.part, E.noPart, E.chain, E.dK, E.dT, E.isi, isi, E.mt, E.tyD, E.chg,
    T.ofE, T.tru, T.truth, T.and, T.or, T.not, T.yes, rd, fz, nf, G.name, G.sub, G.setIx, setIm, setOw, putOw, own, kill, argsOf, iosOf, putBack, scalD, rOk, oLen, oInt, oAdd, oSub, oMul, oMod, oDiv, oPow, oNeg, oLt, oLe, oGt, oGe, oIx, oIsN, oIsNotN, oIsB, oIsNotB, isN, isB, oEq, oNe, oIn, oNotIn, oSl, oList, oTuple, muAppend, muExtend, muPop, retOf, keepIo, giveE, wipeE, freeE, turnS, turnL, I.any,
    List.getElem?_cons_succ, List.getElem?_cons_zero, List.set_cons_succ, List.set_cons_zero, Option.bind_some, Option.map_some, Option.getD_some, List.map_cons, List.map_nil, List.take_succ_cons, List.take_zero, List.length_cons, List.length_nil, List.length_map, List.nodup_cons, List.not_mem_nil, List.mem_cons, not_false_eq_true, and_self, or_self, List.nodup_nil, List.all_cons, List.all_nil, Bool.and_self, Bool.and_true, Bool.true_and, Bool.false_and, Bool.and_false, Bool.or_true, Bool.true_or, Bool.or_false, Bool.false_or, Bool.not_true, Bool.not_false, if_true, if_false, ↓reduceIte, Bool.false_eq_true, beq_self_eq_true, reduceCtorEq, String.reduceBEq, Nat.reduceEqDiff, Nat.reduceAdd, Nat.zero_add, Nat.reduceLeDiff, beq_true, beq_false, Int.zero_add, if_true, if_false, Bool.false_eq_true] at q ⊢ <;> simp -implicitDefEqProofs only [q, List.cons_append, List.nil_append, List.replicate, Nat.reduceSub, S.seq, S.set, S.asg, S.own, S.ite, S.nil, S.ret, S.retN, S.drop, S.par, S.brk, S.cont, E.cb, E.var, E.c, E.cons, E.nil, E.rds, E.fzs, E.bin, E.un, E.and, E.or, E.not, E.bool, E.ite, E.lst, E.tup, E.call, E.callB, E.slice, E.part, E.noPart, E.chain, E.dK, E.dT, E.isi, isi, E.mt, E.tyD, E.chg,
    T.ofE, T.tru, T.truth, T.and, T.or, T.not, T.yes, rd, fz, nf, G.name, G.sub, G.setIx, setIm, setOw, putOw, own, kill, argsOf, iosOf, putBack, scalD, rOk, oLen, oInt, oAdd, oSub, oMul, oMod, oDiv, oPow, oNeg, oLt, oLe, oGt, oGe, oIx, oIsN, oIsNotN, oIsB, oIsNotB, isN, isB, oEq, oNe, oIn, oNotIn, oSl, oList, oTuple, muAppend, muExtend, muPop, retOf, keepIo, giveE, wipeE, freeE, turnS, turnL, I.any,
    List.getElem?_cons_succ, List.getElem?_cons_zero, List.set_cons_succ, List.set_cons_zero, Option.bind_some, Option.map_some, Option.getD_some, List.map_cons, List.map_nil, List.take_succ_cons, List.take_zero, List.length_cons, List.length_nil, List.length_map, List.nodup_cons, List.not_mem_nil, List.mem_cons, not_false_eq_true, and_self, or_self, List.nodup_nil, List.all_cons, List.all_nil, Bool.and_self, Bool.and_true, Bool.true_and, Bool.false_and, Bool.and_false, Bool.or_true, Bool.true_or, Bool.or_false, Bool.false_or, Bool.not_true, Bool.not_false, if_true, if_false, ↓reduceIte, Bool.false_eq_true, beq_self_eq_true, reduceCtorEq, String.reduceBEq, Nat.reduceEqDiff, Nat.reduceAdd, Nat.zero_add, Nat.reduceLeDiff, beq_true, beq_false, Int.zero_add]
    have e2 : p__law_first_move_2 [.im (DL x), .im (DL y), .im (KD t), .im (.int (k : Nat)), .no] = some (fndO (fun b : Bool => .v (.tup [.int (k : Nat), .bl b])) (fun b => [.im (DL x), .im (DL y), .im (KD t), .im (.int (k : Nat)), .im (.bl b)]) [.im (DL x), .im (DL y), .im (KD t), .im (.int (k : Nat)), .no] ((ways t).find? fun b => decide (begun x (k : Nat) b = y))) := by
      refine (for_of it).trans ?_
      refine loop_find (enc := D.bl) _ _ _ fun b hb => ?_
      by_cases c : begun x (k : Nat) b = y
      · simp -implicitDefEqProofs only [p__law_first_move_3, p__law_first_move_4, List.cons_append, List.nil_append, List.replicate, Nat.reduceSub, S.seq, S.set, S.asg, S.own, S.ite, S.nil, S.ret, S.retN, S.drop, S.par, S.brk, S.cont, E.cb, E.var, E.c, E.cons, E.nil, E.rds, E.fzs, E.bin, E.un, E.and, E.or, E.not, E.bool, E.ite, E.lst, E.tup, E.call, E.callB, E.slice, E.part, E.noPart, E.chain, E.dK, E.dT, E.isi, isi, E.mt, E.tyD, E.chg,
    T.ofE, T.tru, T.truth, T.and, T.or, T.not, T.yes, rd, fz, nf, G.name, G.sub, G.setIx, setIm, setOw, putOw, own, kill, argsOf, iosOf, putBack, scalD, rOk, oLen, oInt, oAdd, oSub, oMul, oMod, oDiv, oPow, oNeg, oLt, oLe, oGt, oGe, oIx, oIsN, oIsNotN, oIsB, oIsNotB, isN, isB, oEq, oNe, oIn, oNotIn, oSl, oList, oTuple, muAppend, muExtend, muPop, retOf, keepIo, giveE, wipeE, freeE, turnS, turnL, I.any,
    List.getElem?_cons_succ, List.getElem?_cons_zero, List.set_cons_succ, List.set_cons_zero, Option.bind_some, Option.map_some, Option.getD_some, List.map_cons, List.map_nil, List.take_succ_cons, List.take_zero, List.length_cons, List.length_nil, List.length_map, List.nodup_cons, List.not_mem_nil, List.mem_cons, not_false_eq_true, and_self, or_self, List.nodup_nil, List.all_cons, List.all_nil, Bool.and_self, Bool.and_true, Bool.true_and, Bool.false_and, Bool.and_false, Bool.or_true, Bool.true_or, Bool.or_false, Bool.false_or, Bool.not_true, Bool.not_false, if_true, if_false, ↓reduceIte, Bool.false_eq_true, beq_self_eq_true, reduceCtorEq, String.reduceBEq, Nat.reduceEqDiff, Nat.reduceAdd, Nat.zero_add, Nat.reduceLeDiff, beq_true, beq_false, Int.zero_add, law_begun_ok hx (by omega : x.length ≤ 1000000), eqD_DL, c, decide_true]
      · simp -implicitDefEqProofs only [p__law_first_move_3, List.cons_append, List.nil_append, List.replicate, Nat.reduceSub, S.seq, S.set, S.asg, S.own, S.ite, S.nil, S.ret, S.retN, S.drop, S.par, S.brk, S.cont, E.cb, E.var, E.c, E.cons, E.nil, E.rds, E.fzs, E.bin, E.un, E.and, E.or, E.not, E.bool, E.ite, E.lst, E.tup, E.call, E.callB, E.slice, E.part, E.noPart, E.chain, E.dK, E.dT, E.isi, isi, E.mt, E.tyD, E.chg,
    T.ofE, T.tru, T.truth, T.and, T.or, T.not, T.yes, rd, fz, nf, G.name, G.sub, G.setIx, setIm, setOw, putOw, own, kill, argsOf, iosOf, putBack, scalD, rOk, oLen, oInt, oAdd, oSub, oMul, oMod, oDiv, oPow, oNeg, oLt, oLe, oGt, oGe, oIx, oIsN, oIsNotN, oIsB, oIsNotB, isN, isB, oEq, oNe, oIn, oNotIn, oSl, oList, oTuple, muAppend, muExtend, muPop, retOf, keepIo, giveE, wipeE, freeE, turnS, turnL, I.any,
    List.getElem?_cons_succ, List.getElem?_cons_zero, List.set_cons_succ, List.set_cons_zero, Option.bind_some, Option.map_some, Option.getD_some, List.map_cons, List.map_nil, List.take_succ_cons, List.take_zero, List.length_cons, List.length_nil, List.length_map, List.nodup_cons, List.not_mem_nil, List.mem_cons, not_false_eq_true, and_self, or_self, List.nodup_nil, List.all_cons, List.all_nil, Bool.and_self, Bool.and_true, Bool.true_and, Bool.false_and, Bool.and_false, Bool.or_true, Bool.true_or, Bool.or_false, Bool.false_or, Bool.not_true, Bool.not_false, if_true, if_false, ↓reduceIte, Bool.false_eq_true, beq_self_eq_true, reduceCtorEq, String.reduceBEq, Nat.reduceEqDiff, Nat.reduceAdd, Nat.zero_add, Nat.reduceLeDiff, beq_true, beq_false, Int.zero_add, law_begun_ok hx (by omega : x.length ≤ 1000000), eqD_DL, c, decide_false]
    cases hf : (ways t).find? (fun b => decide (begun x (k : Nat) b = y)) with
    | none =>
      rw [hf] at e2
      simp -implicitDefEqProofs only [List.cons_append, List.nil_append, List.replicate, Nat.reduceSub, S.seq, S.set, S.asg, S.own, S.ite, S.nil, S.ret, S.retN, S.drop, S.par, S.brk, S.cont, E.cb, E.var, E.c, E.cons, E.nil, E.rds, E.fzs, E.bin, E.un, E.and, E.or, E.not, E.bool, E.ite, E.lst, E.tup, E.call, E.callB, E.slice, E.part, E.noPart, E.chain, E.dK, E.dT, E.isi, isi, E.mt, E.tyD, E.chg,
    T.ofE, T.tru, T.truth, T.and, T.or, T.not, T.yes, rd, fz, nf, G.name, G.sub, G.setIx, setIm, setOw, putOw, own, kill, argsOf, iosOf, putBack, scalD, rOk, oLen, oInt, oAdd, oSub, oMul, oMod, oDiv, oPow, oNeg, oLt, oLe, oGt, oGe, oIx, oIsN, oIsNotN, oIsB, oIsNotB, isN, isB, oEq, oNe, oIn, oNotIn, oSl, oList, oTuple, muAppend, muExtend, muPop, retOf, keepIo, giveE, wipeE, freeE, turnS, turnL, I.any,
    List.getElem?_cons_succ, List.getElem?_cons_zero, List.set_cons_succ, List.set_cons_zero, Option.bind_some, Option.map_some, Option.getD_some, List.map_cons, List.map_nil, List.take_succ_cons, List.take_zero, List.length_cons, List.length_nil, List.length_map, List.nodup_cons, List.not_mem_nil, List.mem_cons, not_false_eq_true, and_self, or_self, List.nodup_nil, List.all_cons, List.all_nil, Bool.and_self, Bool.and_true, Bool.true_and, Bool.false_and, Bool.and_false, Bool.or_true, Bool.true_or, Bool.or_false, Bool.false_or, Bool.not_true, Bool.not_false, if_true, if_false, ↓reduceIte, Bool.false_eq_true, beq_self_eq_true, reduceCtorEq, String.reduceBEq, Nat.reduceEqDiff, Nat.reduceAdd, Nat.zero_add, Nat.reduceLeDiff, beq_true, beq_false, Int.zero_add, e2, fndO, Option.map_none]
    | some b =>
      rw [hf] at e2
      simp -implicitDefEqProofs only [List.cons_append, List.nil_append, List.replicate, Nat.reduceSub, S.seq, S.set, S.asg, S.own, S.ite, S.nil, S.ret, S.retN, S.drop, S.par, S.brk, S.cont, E.cb, E.var, E.c, E.cons, E.nil, E.rds, E.fzs, E.bin, E.un, E.and, E.or, E.not, E.bool, E.ite, E.lst, E.tup, E.call, E.callB, E.slice, E.part, E.noPart, E.chain, E.dK, E.dT, E.isi, isi, E.mt, E.tyD, E.chg,
    T.ofE, T.tru, T.truth, T.and, T.or, T.not, T.yes, rd, fz, nf, G.name, G.sub, G.setIx, setIm, setOw, putOw, own, kill, argsOf, iosOf, putBack, scalD, rOk, oLen, oInt, oAdd, oSub, oMul, oMod, oDiv, oPow, oNeg, oLt, oLe, oGt, oGe, oIx, oIsN, oIsNotN, oIsB, oIsNotB, isN, isB, oEq, oNe, oIn, oNotIn, oSl, oList, oTuple, muAppend, muExtend, muPop, retOf, keepIo, giveE, wipeE, freeE, turnS, turnL, I.any,
    List.getElem?_cons_succ, List.getElem?_cons_zero, List.set_cons_succ, List.set_cons_zero, Option.bind_some, Option.map_some, Option.getD_some, List.map_cons, List.map_nil, List.take_succ_cons, List.take_zero, List.length_cons, List.length_nil, List.length_map, List.nodup_cons, List.not_mem_nil, List.mem_cons, not_false_eq_true, and_self, or_self, List.nodup_nil, List.all_cons, List.all_nil, Bool.and_self, Bool.and_true, Bool.true_and, Bool.false_and, Bool.and_false, Bool.or_true, Bool.true_or, Bool.or_false, Bool.false_or, Bool.not_true, Bool.not_false, if_true, if_false, ↓reduceIte, Bool.false_eq_true, beq_self_eq_true, reduceCtorEq, String.reduceBEq, Nat.reduceEqDiff, Nat.reduceAdd, Nat.zero_add, Nat.reduceLeDiff, beq_true, beq_false, Int.zero_add, e2, fndO]
  show done 3 5 (S.seq _ _ [.im (DL x), .im (DL y), .im (KD t), .no, .no]) = _
  cases hm : move x y t with
  | none =>
    rw [hm] at e1
    rw [seq_nx e1]
    rfl
  | some m =>
    rw [hm] at e1
    rw [seq_rt e1]
    rfl
theorem inD_ways (t b : Bool) : inD (.bl b) (.tup ((ways t).map D.bl)) = some (decide (b ∈ ways t)) := by cases t <;> cases b <;> decide +kernel
theorem judge_ok {x y : List Int} (hx : 0 < x.length) (hl : x.length ≤ 1000) (t : Bool) (p : Int) (b : Bool) : c_judge_move [.im (DL x), .im (DL y), .im (KD t), .im (.int p), .im (.bl b)] =
    some (.v (.bl (decide ((0 ≤ p ∧ p < x.length) ∧ (b ∈ ways t) ∧ begun x p b = y))), [.no, .no, .no, .no, .no]) := by
  unfold c_judge_move
  rw [run_eq 5 5 _ _ rfl]
  show done 5 5 (S.seq _ _ [.im (DL x), .im (DL y), .im (KD t), .im (.int p), .im (.bl b)]) = _
  by_cases c1 : 0 ≤ p
  · by_cases c2 : p < (x.length : Int)
    · by_cases c3 : b ∈ ways t
      · have e1 : p_judge_move_1 [.im (DL x), .im (DL y), .im (KD t), .im (.int p), .im (.bl b)] = some (.nx [.im (DL x), .im (DL y), .im (KD t), .im (.int p), .im (.bl b)]) := by
          simp -implicitDefEqProofs only [p_judge_move_1, List.cons_append, List.nil_append, List.replicate, Nat.reduceSub, S.seq, S.set, S.asg, S.own, S.ite, S.nil, S.ret, S.retN, S.drop, S.par, S.brk, S.cont, E.cb, E.var, E.c, E.cons, E.nil, E.rds, E.fzs, E.bin, E.un, E.and, E.or, E.not, E.bool, E.ite, E.lst, E.tup, E.call, E.callB, E.slice, E.part, E.noPart, E.chain, E.dK, E.dT, E.isi, isi, E.mt, E.tyD, E.chg,
    T.ofE, T.tru, T.truth, T.and, T.or, T.not, T.yes, rd, fz, nf, G.name, G.sub, G.setIx, setIm, setOw, putOw, own, kill, argsOf, iosOf, putBack, scalD, rOk, oLen, oInt, oAdd, oSub, oMul, oMod, oDiv, oPow, oNeg, oLt, oLe, oGt, oGe, oIx, oIsN, oIsNotN, oIsB, oIsNotB, isN, isB, oEq, oNe, oIn, oNotIn, oSl, oList, oTuple, muAppend, muExtend, muPop, retOf, keepIo, giveE, wipeE, freeE, turnS, turnL, I.any,
    List.getElem?_cons_succ, List.getElem?_cons_zero, List.set_cons_succ, List.set_cons_zero, Option.bind_some, Option.map_some, Option.getD_some, List.map_cons, List.map_nil, List.take_succ_cons, List.take_zero, List.length_cons, List.length_nil, List.length_map, List.nodup_cons, List.not_mem_nil, List.mem_cons, not_false_eq_true, and_self, or_self, List.nodup_nil, List.all_cons, List.all_nil, Bool.and_self, Bool.and_true, Bool.true_and, Bool.false_and, Bool.and_false, Bool.or_true, Bool.true_or, Bool.or_false, Bool.false_or, Bool.not_true, Bool.not_false, if_true, if_false, ↓reduceIte, Bool.false_eq_true, beq_self_eq_true, reduceCtorEq, String.reduceBEq, Nat.reduceEqDiff, Nat.reduceAdd, Nat.zero_add, Nat.reduceLeDiff, beq_true, beq_false, Int.zero_add, ways_ok, inD_ways, c1, c2, c3, decide_true]
        rw [seq_nx e1]
        have q : decide ((0 ≤ p ∧ p < (x.length : Int)) ∧ b ∈ ways t ∧ begun x p b = y) = decide (begun x p b = y) := decide_eq_decide.mpr ⟨fun h => h.2.2, fun h => ⟨⟨c1, c2⟩, c3, h⟩⟩
        rw [q]
        simp -implicitDefEqProofs only [p_judge_move_3, done, List.cons_append, List.nil_append, List.replicate, Nat.reduceSub, S.seq, S.set, S.asg, S.own, S.ite, S.nil, S.ret, S.retN, S.drop, S.par, S.brk, S.cont, E.cb, E.var, E.c, E.cons, E.nil, E.rds, E.fzs, E.bin, E.un, E.and, E.or, E.not, E.bool, E.ite, E.lst, E.tup, E.call, E.callB, E.slice, E.part, E.noPart, E.chain, E.dK, E.dT, E.isi, isi, E.mt, E.tyD, E.chg,
    T.ofE, T.tru, T.truth, T.and, T.or, T.not, T.yes, rd, fz, nf, G.name, G.sub, G.setIx, setIm, setOw, putOw, own, kill, argsOf, iosOf, putBack, scalD, rOk, oLen, oInt, oAdd, oSub, oMul, oMod, oDiv, oPow, oNeg, oLt, oLe, oGt, oGe, oIx, oIsN, oIsNotN, oIsB, oIsNotB, isN, isB, oEq, oNe, oIn, oNotIn, oSl, oList, oTuple, muAppend, muExtend, muPop, retOf, keepIo, giveE, wipeE, freeE, turnS, turnL, I.any,
    List.getElem?_cons_succ, List.getElem?_cons_zero, List.set_cons_succ, List.set_cons_zero, Option.bind_some, Option.map_some, Option.getD_some, List.map_cons, List.map_nil, List.take_succ_cons, List.take_zero, List.length_cons, List.length_nil, List.length_map, List.nodup_cons, List.not_mem_nil, List.mem_cons, not_false_eq_true, and_self, or_self, List.nodup_nil, List.all_cons, List.all_nil, Bool.and_self, Bool.and_true, Bool.true_and, Bool.false_and, Bool.and_false, Bool.or_true, Bool.true_or, Bool.or_false, Bool.false_or, Bool.not_true, Bool.not_false, if_true, if_false, ↓reduceIte, Bool.false_eq_true, beq_self_eq_true, reduceCtorEq, String.reduceBEq, Nat.reduceEqDiff, Nat.reduceAdd, Nat.zero_add, Nat.reduceLeDiff, beq_true, beq_false, Int.zero_add, begun_at_ok hx (by omega : x.length ≤ 1000000), eqD_DL]
      · have e1 : p_judge_move_1 [.im (DL x), .im (DL y), .im (KD t), .im (.int p), .im (.bl b)] = some (.rt (.v (.bl false)) [.im (DL x), .im (DL y), .im (KD t), .im (.int p), .im (.bl b)]) := by
          simp -implicitDefEqProofs only [p_judge_move_1, p_judge_move_2, List.cons_append, List.nil_append, List.replicate, Nat.reduceSub, S.seq, S.set, S.asg, S.own, S.ite, S.nil, S.ret, S.retN, S.drop, S.par, S.brk, S.cont, E.cb, E.var, E.c, E.cons, E.nil, E.rds, E.fzs, E.bin, E.un, E.and, E.or, E.not, E.bool, E.ite, E.lst, E.tup, E.call, E.callB, E.slice, E.part, E.noPart, E.chain, E.dK, E.dT, E.isi, isi, E.mt, E.tyD, E.chg,
    T.ofE, T.tru, T.truth, T.and, T.or, T.not, T.yes, rd, fz, nf, G.name, G.sub, G.setIx, setIm, setOw, putOw, own, kill, argsOf, iosOf, putBack, scalD, rOk, oLen, oInt, oAdd, oSub, oMul, oMod, oDiv, oPow, oNeg, oLt, oLe, oGt, oGe, oIx, oIsN, oIsNotN, oIsB, oIsNotB, isN, isB, oEq, oNe, oIn, oNotIn, oSl, oList, oTuple, muAppend, muExtend, muPop, retOf, keepIo, giveE, wipeE, freeE, turnS, turnL, I.any,
    List.getElem?_cons_succ, List.getElem?_cons_zero, List.set_cons_succ, List.set_cons_zero, Option.bind_some, Option.map_some, Option.getD_some, List.map_cons, List.map_nil, List.take_succ_cons, List.take_zero, List.length_cons, List.length_nil, List.length_map, List.nodup_cons, List.not_mem_nil, List.mem_cons, not_false_eq_true, and_self, or_self, List.nodup_nil, List.all_cons, List.all_nil, Bool.and_self, Bool.and_true, Bool.true_and, Bool.false_and, Bool.and_false, Bool.or_true, Bool.true_or, Bool.or_false, Bool.false_or, Bool.not_true, Bool.not_false, if_true, if_false, ↓reduceIte, Bool.false_eq_true, beq_self_eq_true, reduceCtorEq, String.reduceBEq, Nat.reduceEqDiff, Nat.reduceAdd, Nat.zero_add, Nat.reduceLeDiff, beq_true, beq_false, Int.zero_add, ways_ok, inD_ways, c1, c2, c3, decide_true, decide_false]
        rw [seq_rt e1, decide_eq_false (fun h => c3 h.2.1)]
        rfl
    · have e1 : p_judge_move_1 [.im (DL x), .im (DL y), .im (KD t), .im (.int p), .im (.bl b)] = some (.rt (.v (.bl false)) [.im (DL x), .im (DL y), .im (KD t), .im (.int p), .im (.bl b)]) := by
        simp -implicitDefEqProofs only [p_judge_move_1, p_judge_move_2, List.cons_append, List.nil_append, List.replicate, Nat.reduceSub, S.seq, S.set, S.asg, S.own, S.ite, S.nil, S.ret, S.retN, S.drop, S.par, S.brk, S.cont, E.cb, E.var, E.c, E.cons, E.nil, E.rds, E.fzs, E.bin, E.un, E.and, E.or, E.not, E.bool, E.ite, E.lst, E.tup, E.call, E.callB, E.slice, E.part, E.noPart, E.chain, E.dK, E.dT, E.isi, isi, E.mt, E.tyD, E.chg,
    T.ofE, T.tru, T.truth, T.and, T.or, T.not, T.yes, rd, fz, nf, G.name, G.sub, G.setIx, setIm, setOw, putOw, own, kill, argsOf, iosOf, putBack, scalD, rOk, oLen, oInt, oAdd, oSub, oMul, oMod, oDiv, oPow, oNeg, oLt, oLe, oGt, oGe, oIx, oIsN, oIsNotN, oIsB, oIsNotB, isN, isB, oEq, oNe, oIn, oNotIn, oSl, oList, oTuple, muAppend, muExtend, muPop, retOf, keepIo, giveE, wipeE, freeE, turnS, turnL, I.any,
    List.getElem?_cons_succ, List.getElem?_cons_zero, List.set_cons_succ, List.set_cons_zero, Option.bind_some, Option.map_some, Option.getD_some, List.map_cons, List.map_nil, List.take_succ_cons, List.take_zero, List.length_cons, List.length_nil, List.length_map, List.nodup_cons, List.not_mem_nil, List.mem_cons, not_false_eq_true, and_self, or_self, List.nodup_nil, List.all_cons, List.all_nil, Bool.and_self, Bool.and_true, Bool.true_and, Bool.false_and, Bool.and_false, Bool.or_true, Bool.true_or, Bool.or_false, Bool.false_or, Bool.not_true, Bool.not_false, if_true, if_false, ↓reduceIte, Bool.false_eq_true, beq_self_eq_true, reduceCtorEq, String.reduceBEq, Nat.reduceEqDiff, Nat.reduceAdd, Nat.zero_add, Nat.reduceLeDiff, beq_true, beq_false, Int.zero_add, c1, c2, decide_true, decide_false]
      rw [seq_rt e1, decide_eq_false (fun h => c2 h.1.2)]
      rfl
  · have e1 : p_judge_move_1 [.im (DL x), .im (DL y), .im (KD t), .im (.int p), .im (.bl b)] = some (.rt (.v (.bl false)) [.im (DL x), .im (DL y), .im (KD t), .im (.int p), .im (.bl b)]) := by
      simp -implicitDefEqProofs only [p_judge_move_1, p_judge_move_2, List.cons_append, List.nil_append, List.replicate, Nat.reduceSub, S.seq, S.set, S.asg, S.own, S.ite, S.nil, S.ret, S.retN, S.drop, S.par, S.brk, S.cont, E.cb, E.var, E.c, E.cons, E.nil, E.rds, E.fzs, E.bin, E.un, E.and, E.or, E.not, E.bool, E.ite, E.lst, E.tup, E.call, E.callB, E.slice, E.part, E.noPart, E.chain, E.dK, E.dT, E.isi, isi, E.mt, E.tyD, E.chg,
    T.ofE, T.tru, T.truth, T.and, T.or, T.not, T.yes, rd, fz, nf, G.name, G.sub, G.setIx, setIm, setOw, putOw, own, kill, argsOf, iosOf, putBack, scalD, rOk, oLen, oInt, oAdd, oSub, oMul, oMod, oDiv, oPow, oNeg, oLt, oLe, oGt, oGe, oIx, oIsN, oIsNotN, oIsB, oIsNotB, isN, isB, oEq, oNe, oIn, oNotIn, oSl, oList, oTuple, muAppend, muExtend, muPop, retOf, keepIo, giveE, wipeE, freeE, turnS, turnL, I.any,
    List.getElem?_cons_succ, List.getElem?_cons_zero, List.set_cons_succ, List.set_cons_zero, Option.bind_some, Option.map_some, Option.getD_some, List.map_cons, List.map_nil, List.take_succ_cons, List.take_zero, List.length_cons, List.length_nil, List.length_map, List.nodup_cons, List.not_mem_nil, List.mem_cons, not_false_eq_true, and_self, or_self, List.nodup_nil, List.all_cons, List.all_nil, Bool.and_self, Bool.and_true, Bool.true_and, Bool.false_and, Bool.and_false, Bool.or_true, Bool.true_or, Bool.or_false, Bool.false_or, Bool.not_true, Bool.not_false, if_true, if_false, ↓reduceIte, Bool.false_eq_true, beq_self_eq_true, reduceCtorEq, String.reduceBEq, Nat.reduceEqDiff, Nat.reduceAdd, Nat.zero_add, Nat.reduceLeDiff, beq_true, beq_false, Int.zero_add, c1, decide_false]
    rw [seq_rt e1, decide_eq_false (fun h => c1 h.1.1)]
    rfl
/-! the repeat -/
theorem atI_k {x : List Int} {k : Nat} (h : k < x.length) : atI x (k : Int) = some (at_ x k) := by
  have q := atI_fmod (x := x) (by omega) (k : Int)
  rw [Int.fmod_eq_emod_of_nonneg _ (by omega), Int.emod_eq_of_lt (by omega) (by omega)] at q
  exact q
def repP (x : List Int) (p : Nat) : Bool := decide (x.length % p = 0) && (List.range x.length).all fun k => decide (at_ x k = at_ x ((k : Int) + p))
def rep (x : List Int) : Nat := (((List.range (x.length - 1)).find? fun k => repP x (1 + k)).map (1 + ·)).getD x.length
theorem repeat_ok {x : List Int} (hx : 0 < x.length) (hl : x.length ≤ 1000) : c_repeat [.im (DL x)] = some (.v (.int (rep x)), [.no]) := by
  unfold c_repeat
  rw [run_eq 1 4 _ _ rfl]
  show done 1 4 (S.seq _ (S.seq _ _) [.im (DL x), .no, .no, .no]) = _
  have e1 : p_repeat_1 [.im (DL x), .no, .no, .no] = some (.nx [.im (DL x), .im (.int x.length), .no, .no]) := by
    simp -implicitDefEqProofs only [p_repeat_1, List.cons_append, List.nil_append, List.replicate, Nat.reduceSub, S.seq, S.set, S.asg, S.own, S.ite, S.nil, S.ret, S.retN, S.drop, S.par, S.brk, S.cont, E.cb, E.var, E.c, E.cons, E.nil, E.rds, E.fzs, E.bin, E.un, E.and, E.or, E.not, E.bool, E.ite, E.lst, E.tup, E.call, E.callB, E.slice, E.part, E.noPart, E.chain, E.dK, E.dT, E.isi, isi, E.mt, E.tyD, E.chg,
    T.ofE, T.tru, T.truth, T.and, T.or, T.not, T.yes, rd, fz, nf, G.name, G.sub, G.setIx, setIm, setOw, putOw, own, kill, argsOf, iosOf, putBack, scalD, rOk, oLen, oInt, oAdd, oSub, oMul, oMod, oDiv, oPow, oNeg, oLt, oLe, oGt, oGe, oIx, oIsN, oIsNotN, oIsB, oIsNotB, isN, isB, oEq, oNe, oIn, oNotIn, oSl, oList, oTuple, muAppend, muExtend, muPop, retOf, keepIo, giveE, wipeE, freeE, turnS, turnL, I.any,
    List.getElem?_cons_succ, List.getElem?_cons_zero, List.set_cons_succ, List.set_cons_zero, Option.bind_some, Option.map_some, Option.getD_some, List.map_cons, List.map_nil, List.take_succ_cons, List.take_zero, List.length_cons, List.length_nil, List.length_map, List.nodup_cons, List.not_mem_nil, List.mem_cons, not_false_eq_true, and_self, or_self, List.nodup_nil, List.all_cons, List.all_nil, Bool.and_self, Bool.and_true, Bool.true_and, Bool.false_and, Bool.and_false, Bool.or_true, Bool.true_or, Bool.or_false, Bool.false_or, Bool.not_true, Bool.not_false, if_true, if_false, ↓reduceIte, Bool.false_eq_true, beq_self_eq_true, reduceCtorEq, String.reduceBEq, Nat.reduceEqDiff, Nat.reduceAdd, Nat.zero_add, Nat.reduceLeDiff, beq_true, beq_false, Int.zero_add]
  have e2 : p_repeat_2 [.im (DL x), .im (.int x.length), .no, .no] = some (fndO (fun k : Nat => .v (.int (1 + (k : Int)))) (fun k => [.im (DL x), .im (.int x.length), .im (.int (1 + (k : Int))), .no]) [.im (DL x), .im (.int x.length), .no, .no] ((List.range (x.length - 1)).find? fun k => repP x (1 + k))) := by
    have r : I.rng2 (E.c (.int 1)) (E.var 1) [.im (DL x), .im (.int x.length), .no, .no] = some ((List.range (x.length - 1)).map fun k : Nat => D.int (1 + (k : Int)), [.im (DL x), .im (.int x.length), .no, .no]) := by
      have h := rng2_of (f := E.c (.int 1)) (g := E.var 1) (e := [.im (DL x), .im (.int x.length), .no, .no]) (i := 1) (j := x.length) rfl rfl rfl rfl (by omega) (by omega) (by omega) (by omega)
      rw [show ((x.length : Int) - 1).toNat = x.length - 1 by omega] at h
      exact h
    refine (for_of r).trans (loop_find (enc := fun k : Nat => D.int (1 + (k : Int))) _ _ _ fun k hk => ?_)
    have n0 : ¬ ((1 : Int) + (k : Int) = 0) := by omega
    have n1 : ¬ ((x.length : Int) = 0) := by omega
    have lc : E.lc [3] (I.rng1 (E.var 1)) (G.name 3) T.yes (E.bin oEq (E.bin oIx (E.var 0) (E.var 3)) (E.bin oIx (E.var 0) (E.bin oMod (E.bin oAdd (E.var 3) (E.var 2)) (E.var 1)))) [.im (DL x), .im (.int x.length), .im (.int (1 + (k : Int))), .no] =
        some (.f (.lst (((List.range x.length).map fun a : Nat => decide (at_ x a = at_ x ((a : Int) + (1 + (k : Int))))).map D.bl)), [.im (DL x), .im (.int x.length), .im (.int (1 + (k : Int))), .no]) := by
      rw [List.map_map]
      refine lc_map (enc := fun k : Nat => D.int (k : Int)) _ (rng1_nat (n := x.length) rfl rfl (by omega)) (by rw [List.length_range]; omega) rfl rfl rfl fun a ha => ?_
      simp -implicitDefEqProofs only [List.cons_append, List.nil_append, List.replicate, Nat.reduceSub, S.seq, S.set, S.asg, S.own, S.ite, S.nil, S.ret, S.retN, S.drop, S.par, S.brk, S.cont, E.cb, E.var, E.c, E.cons, E.nil, E.rds, E.fzs, E.bin, E.un, E.and, E.or, E.not, E.bool, E.ite, E.lst, E.tup, E.call, E.callB, E.slice, E.part, E.noPart, E.chain, E.dK, E.dT, E.isi, isi, E.mt, E.tyD, E.chg,
    T.ofE, T.tru, T.truth, T.and, T.or, T.not, T.yes, rd, fz, nf, G.name, G.sub, G.setIx, setIm, setOw, putOw, own, kill, argsOf, iosOf, putBack, scalD, rOk, oLen, oInt, oAdd, oSub, oMul, oMod, oDiv, oPow, oNeg, oLt, oLe, oGt, oGe, oIx, oIsN, oIsNotN, oIsB, oIsNotB, isN, isB, oEq, oNe, oIn, oNotIn, oSl, oList, oTuple, muAppend, muExtend, muPop, retOf, keepIo, giveE, wipeE, freeE, turnS, turnL, I.any,
    List.getElem?_cons_succ, List.getElem?_cons_zero, List.set_cons_succ, List.set_cons_zero, Option.bind_some, Option.map_some, Option.getD_some, List.map_cons, List.map_nil, List.take_succ_cons, List.take_zero, List.length_cons, List.length_nil, List.length_map, List.nodup_cons, List.not_mem_nil, List.mem_cons, not_false_eq_true, and_self, or_self, List.nodup_nil, List.all_cons, List.all_nil, Bool.and_self, Bool.and_true, Bool.true_and, Bool.false_and, Bool.and_false, Bool.or_true, Bool.true_or, Bool.or_false, Bool.false_or, Bool.not_true, Bool.not_false, if_true, if_false, ↓reduceIte, Bool.false_eq_true, beq_self_eq_true, reduceCtorEq, String.reduceBEq, Nat.reduceEqDiff, Nat.reduceAdd, Nat.zero_add, Nat.reduceLeDiff, beq_true, beq_false, Int.zero_add, ne_eq, n1, atI_map, atI_fmod hx, atI_k (List.mem_range.mp ha), eqD_int, Function.comp]
    have m : decide ((x.length : Int).fmod (1 + (k : Int)) = 0) = decide (x.length % (1 + k) = 0) := by
      refine decide_eq_decide.mpr ?_
      rw [Int.fmod_eq_emod_of_nonneg _ (by omega), show (1 + (k : Int)) = ((1 + k : Nat) : Int) by omega, ← Int.natCast_emod]
      omega
    unfold repP
    cases c1 : decide (x.length % (1 + k) = 0) with
    | false => simp -implicitDefEqProofs only [p_repeat_3, List.cons_append, List.nil_append, List.replicate, Nat.reduceSub, S.seq, S.set, S.asg, S.own, S.ite, S.nil, S.ret, S.retN, S.drop, S.par, S.brk, S.cont, E.cb, E.var, E.c, E.cons, E.nil, E.rds, E.fzs, E.bin, E.un, E.and, E.or, E.not, E.bool, E.ite, E.lst, E.tup, E.call, E.callB, E.slice, E.part, E.noPart, E.chain, E.dK, E.dT, E.isi, isi, E.mt, E.tyD, E.chg,
    T.ofE, T.tru, T.truth, T.and, T.or, T.not, T.yes, rd, fz, nf, G.name, G.sub, G.setIx, setIm, setOw, putOw, own, kill, argsOf, iosOf, putBack, scalD, rOk, oLen, oInt, oAdd, oSub, oMul, oMod, oDiv, oPow, oNeg, oLt, oLe, oGt, oGe, oIx, oIsN, oIsNotN, oIsB, oIsNotB, isN, isB, oEq, oNe, oIn, oNotIn, oSl, oList, oTuple, muAppend, muExtend, muPop, retOf, keepIo, giveE, wipeE, freeE, turnS, turnL, I.any,
    List.getElem?_cons_succ, List.getElem?_cons_zero, List.set_cons_succ, List.set_cons_zero, Option.bind_some, Option.map_some, Option.getD_some, List.map_cons, List.map_nil, List.take_succ_cons, List.take_zero, List.length_cons, List.length_nil, List.length_map, List.nodup_cons, List.not_mem_nil, List.mem_cons, not_false_eq_true, and_self, or_self, List.nodup_nil, List.all_cons, List.all_nil, Bool.and_self, Bool.and_true, Bool.true_and, Bool.false_and, Bool.and_false, Bool.or_true, Bool.true_or, Bool.or_false, Bool.false_or, Bool.not_true, Bool.not_false, if_true, if_false, ↓reduceIte, Bool.false_eq_true, beq_self_eq_true, reduceCtorEq, String.reduceBEq, Nat.reduceEqDiff, Nat.reduceAdd, Nat.zero_add, Nat.reduceLeDiff, beq_true, beq_false, Int.zero_add, ne_eq, n0, eqD_int, m, c1]
    | true =>
      have ca : ((List.range x.length).map fun a : Nat => decide (at_ x a = at_ x ((a : Int) + (1 + (k : Int))))).all id = (List.range x.length).all fun a => decide (at_ x a = at_ x ((a : Int) + ((1 + k : Nat) : Int))) := by
        rw [List.all_map]
        refine List.all_congr rfl fun a => ?_
        simp only [Function.comp, id, Int.natCast_add, Int.cast_ofNat_Int]
      cases c2 : (List.range x.length).all fun a => decide (at_ x a = at_ x ((a : Int) + ((1 + k : Nat) : Int))) with
      | false => simp -implicitDefEqProofs only [p_repeat_3, List.cons_append, List.nil_append, List.replicate, Nat.reduceSub, S.seq, S.set, S.asg, S.own, S.ite, S.nil, S.ret, S.retN, S.drop, S.par, S.brk, S.cont, E.cb, E.var, E.c, E.cons, E.nil, E.rds, E.fzs, E.bin, E.un, E.and, E.or, E.not, E.bool, E.ite, E.lst, E.tup, E.call, E.callB, E.slice, E.part, E.noPart, E.chain, E.dK, E.dT, E.isi, isi, E.mt, E.tyD, E.chg,
    T.ofE, T.tru, T.truth, T.and, T.or, T.not, T.yes, rd, fz, nf, G.name, G.sub, G.setIx, setIm, setOw, putOw, own, kill, argsOf, iosOf, putBack, scalD, rOk, oLen, oInt, oAdd, oSub, oMul, oMod, oDiv, oPow, oNeg, oLt, oLe, oGt, oGe, oIx, oIsN, oIsNotN, oIsB, oIsNotB, isN, isB, oEq, oNe, oIn, oNotIn, oSl, oList, oTuple, muAppend, muExtend, muPop, retOf, keepIo, giveE, wipeE, freeE, turnS, turnL, I.any,
    List.getElem?_cons_succ, List.getElem?_cons_zero, List.set_cons_succ, List.set_cons_zero, Option.bind_some, Option.map_some, Option.getD_some, List.map_cons, List.map_nil, List.take_succ_cons, List.take_zero, List.length_cons, List.length_nil, List.length_map, List.nodup_cons, List.not_mem_nil, List.mem_cons, not_false_eq_true, and_self, or_self, List.nodup_nil, List.all_cons, List.all_nil, Bool.and_self, Bool.and_true, Bool.true_and, Bool.false_and, Bool.and_false, Bool.or_true, Bool.true_or, Bool.or_false, Bool.false_or, Bool.not_true, Bool.not_false, if_true, if_false, ↓reduceIte, Bool.false_eq_true, beq_self_eq_true, reduceCtorEq, String.reduceBEq, Nat.reduceEqDiff, Nat.reduceAdd, Nat.zero_add, Nat.reduceLeDiff, beq_true, beq_false, Int.zero_add, ne_eq, n0, eqD_int, m, c1, lc, all_bls, ca, c2]
      | true => simp -implicitDefEqProofs only [p_repeat_3, p_repeat_4, List.cons_append, List.nil_append, List.replicate, Nat.reduceSub, S.seq, S.set, S.asg, S.own, S.ite, S.nil, S.ret, S.retN, S.drop, S.par, S.brk, S.cont, E.cb, E.var, E.c, E.cons, E.nil, E.rds, E.fzs, E.bin, E.un, E.and, E.or, E.not, E.bool, E.ite, E.lst, E.tup, E.call, E.callB, E.slice, E.part, E.noPart, E.chain, E.dK, E.dT, E.isi, isi, E.mt, E.tyD, E.chg,
    T.ofE, T.tru, T.truth, T.and, T.or, T.not, T.yes, rd, fz, nf, G.name, G.sub, G.setIx, setIm, setOw, putOw, own, kill, argsOf, iosOf, putBack, scalD, rOk, oLen, oInt, oAdd, oSub, oMul, oMod, oDiv, oPow, oNeg, oLt, oLe, oGt, oGe, oIx, oIsN, oIsNotN, oIsB, oIsNotB, isN, isB, oEq, oNe, oIn, oNotIn, oSl, oList, oTuple, muAppend, muExtend, muPop, retOf, keepIo, giveE, wipeE, freeE, turnS, turnL, I.any,
    List.getElem?_cons_succ, List.getElem?_cons_zero, List.set_cons_succ, List.set_cons_zero, Option.bind_some, Option.map_some, Option.getD_some, List.map_cons, List.map_nil, List.take_succ_cons, List.take_zero, List.length_cons, List.length_nil, List.length_map, List.nodup_cons, List.not_mem_nil, List.mem_cons, not_false_eq_true, and_self, or_self, List.nodup_nil, List.all_cons, List.all_nil, Bool.and_self, Bool.and_true, Bool.true_and, Bool.false_and, Bool.and_false, Bool.or_true, Bool.true_or, Bool.or_false, Bool.false_or, Bool.not_true, Bool.not_false, if_true, if_false, ↓reduceIte, Bool.false_eq_true, beq_self_eq_true, reduceCtorEq, String.reduceBEq, Nat.reduceEqDiff, Nat.reduceAdd, Nat.zero_add, Nat.reduceLeDiff, beq_true, beq_false, Int.zero_add, ne_eq, n0, eqD_int, m, c1, lc, all_bls, ca, c2]
  rw [seq_nx e1]
  unfold rep
  cases hf : (List.range (x.length - 1)).find? (fun k => repP x (1 + k)) with
  | none =>
    rw [hf] at e2
    rw [seq_nx e2]
    rfl
  | some k =>
    rw [hf] at e2
    rw [seq_rt e2]
    refine (done_rt rfl rfl).trans ?_
    simp only [Option.map_some, Option.getD_some, Int.natCast_add, Int.cast_ofNat_Int]
    rfl
/-! names -/
def slI : Option Int → Sl
  | none => .no
  | some c => .im (.int c)
def cols (x : List Int) : List Int := x.foldl addK []
def named (x : List Int) : List Int := x.map fun c => ((cols x).idxOf c : Nat)
theorem named_len (x : List Int) : (named x).length = x.length := by simp [named]
/-- the dict of the names so far -/
def kvsOf (l : List Int) : List (Key × D) := l.zipIdx.map fun p => (Sum.inl p.1, D.int (p.2 : Nat))
theorem kvs_len (l : List Int) : (kvsOf l).length = l.length := by simp [kvsOf]
theorem dval_idx (c : Int) : ∀ (l : List Int) (n : Nat), dval ((l.zipIdx n).map fun p => ((Sum.inl p.1 : Key), D.int (p.2 : Nat))) (Sum.inl c) = if c ∈ l then some (.int ((l.idxOf c + n : Nat))) else none
  | [], n => rfl
  | x :: l, n => by
    rw [List.zipIdx_cons, List.map_cons]
    by_cases h : x = c
    · subst h
      simp [dval, List.find?_cons]
    · have ih := dval_idx c l (n + 1)
      have e : dval (((Sum.inl x : Key), D.int (n : Nat)) :: (l.zipIdx (n + 1)).map fun p => ((Sum.inl p.1 : Key), D.int (p.2 : Nat))) (Sum.inl c) = dval ((l.zipIdx (n + 1)).map fun p => ((Sum.inl p.1 : Key), D.int (p.2 : Nat))) (Sum.inl c) := by
        simp [dval, List.find?_cons, h]
      have h2 : ¬ c = x := fun z => h z.symm
      rw [e, ih, List.idxOf_cons]
      have h3 : (x == c) = false := beq_eq_false_iff_ne.mpr h
      simp only [List.mem_cons, h2, false_or, h3, cond_false]
      split
      · rw [Nat.add_assoc, Nat.add_comm 1 n]
      · rfl
theorem dval_kvs (c : Int) (l : List Int) : dval (kvsOf l) (Sum.inl c) = if c ∈ l then some (.int (l.idxOf c : Nat)) else none := dval_idx c l 0
theorem kvs_add {l : List Int} {c : Int} (h : c ∉ l) : dput (kvsOf l) (Sum.inl c) (.int (l.length : Nat)) = kvsOf (l ++ [c]) := by
  unfold dput
  rw [dval_any, dval_kvs, if_neg h]
  rw [if_neg (by decide)]
  unfold kvsOf
  rw [List.zipIdx_append, List.map_append]
  simp
theorem mem_cols {x : List Int} {c : Int} : c ∈ cols x ↔ c ∈ x := by
  unfold cols
  rw [mem_fold (F := addK) (P := fun k y => y = k) (fun _ _ _ => mem_addK)]
  simp
theorem cols_len (x : List Int) : (cols x).length ≤ x.length := by
  have := foldl_len (F := addK (α := Int)) (G := 1) (fun ks k => addK_len ks k) x []
  unfold cols
  simp at this
  exact this
theorem named_alike_ok {x : List Int} (hl : x.length ≤ 1000) : c_named_alike [.im (DL x)] = some (.f (DL (named x)), [.no]) := by
  unfold c_named_alike
  rw [run_eq 1 3 _ _ rfl]
  show done 1 3 (S.seq _ (S.seq _ _) [.im (DL x), .no, .no]) = _
  have e1 : p_named_alike_1 [.im (DL x), .no, .no] = some (.nx [.im (DL x), .ow (.dK (kvsOf [])), .no]) := rfl
  have e2 : ∃ o : Option Int, p_named_alike_2 [.im (DL x), .ow (.dK (kvsOf [])), .no] = some (.nx [.im (DL x), .ow (.dK (kvsOf (cols x))), slI o]) := by
    have it : I.any (E.var 0) [.im (DL x), .ow (.dK (kvsOf [])), .no] = some (x.map D.int, [.im (DL x), .ow (.dK (kvsOf [])), .no]) := by
      simp -implicitDefEqProofs only [List.cons_append, List.nil_append, List.replicate, Nat.reduceSub, S.seq, S.set, S.asg, S.own, S.ite, S.nil, S.ret, S.retN, S.drop, S.par, S.brk, S.cont, E.cb, E.var, E.c, E.cons, E.nil, E.rds, E.fzs, E.bin, E.un, E.and, E.or, E.not, E.bool, E.ite, E.lst, E.tup, E.call, E.callB, E.slice, E.part, E.noPart, E.chain, E.dK, E.dT, E.isi, isi, E.mt, E.tyD, E.chg,
    T.ofE, T.tru, T.truth, T.and, T.or, T.not, T.yes, rd, fz, nf, G.name, G.sub, G.setIx, setIm, setOw, putOw, own, kill, argsOf, iosOf, putBack, scalD, rOk, oLen, oInt, oAdd, oSub, oMul, oMod, oDiv, oPow, oNeg, oLt, oLe, oGt, oGe, oIx, oIsN, oIsNotN, oIsB, oIsNotB, isN, isB, oEq, oNe, oIn, oNotIn, oSl, oList, oTuple, muAppend, muExtend, muPop, retOf, keepIo, giveE, wipeE, freeE, turnS, turnL, I.any,
    List.getElem?_cons_succ, List.getElem?_cons_zero, List.set_cons_succ, List.set_cons_zero, Option.bind_some, Option.map_some, Option.getD_some, List.map_cons, List.map_nil, List.take_succ_cons, List.take_zero, List.length_cons, List.length_nil, List.length_map, List.nodup_cons, List.not_mem_nil, List.mem_cons, not_false_eq_true, and_self, or_self, List.nodup_nil, List.all_cons, List.all_nil, Bool.and_self, Bool.and_true, Bool.true_and, Bool.false_and, Bool.and_false, Bool.or_true, Bool.true_or, Bool.or_false, Bool.false_or, Bool.not_true, Bool.not_false, if_true, if_false, ↓reduceIte, Bool.false_eq_true, beq_self_eq_true, reduceCtorEq, String.reduceBEq, Nat.reduceEqDiff, Nat.reduceAdd, Nat.zero_add, Nat.reduceLeDiff, beq_true, beq_false, Int.zero_add]
    have h := loop_foldN (g := G.name 2) (body := p_named_alike_3) (ks := []) (enc := D.int) (fun b : List Int × Option Int => [.im (DL x), .ow (.dK (kvsOf b.1)), slI b.2]) (fun b c => (addK b.1 c, some c)) (fun b => b.1.length) 1000000 1 (xs := x) (b := ([], none)) (fun c hc b hn => ?_) (fun c _ b => addK_len b.1 c) (by simp only [List.length_nil]; omega)
    · have hf : ∀ (xs : List Int) (b : List Int × Option Int), (xs.foldl (fun b c => (addK b.1 c, some c)) b).1 = xs.foldl addK b.1 := by
        intro xs
        induction xs with
        | nil => intro b; rfl
        | cons a xs ih => intro b; rw [List.foldl_cons, List.foldl_cons, ih]
      have q := (for_of (g := G.name 2) (ks := []) (body := p_named_alike_3) it).trans h
      rw [hf] at q
      exact ⟨_, q⟩
    · have hb : b.1.length < 1000000 := by omega
      by_cases m : c ∈ b.1
      · have d : dval (kvsOf b.1) (Sum.inl c) = some (.int (b.1.idxOf c : Nat)) := by rw [dval_kvs, if_pos m]
        have a : addK b.1 c = b.1 := if_pos m
        cases b.2 <;> simp -implicitDefEqProofs only [slI, p_named_alike_3, E.setd, E.isDK, Dv.keyOf, List.cons_append, List.nil_append, List.replicate, Nat.reduceSub, S.seq, S.set, S.asg, S.own, S.ite, S.nil, S.ret, S.retN, S.drop, S.par, S.brk, S.cont, E.cb, E.var, E.c, E.cons, E.nil, E.rds, E.fzs, E.bin, E.un, E.and, E.or, E.not, E.bool, E.ite, E.lst, E.tup, E.call, E.callB, E.slice, E.part, E.noPart, E.chain, E.dK, E.dT, E.isi, isi, E.mt, E.tyD, E.chg,
    T.ofE, T.tru, T.truth, T.and, T.or, T.not, T.yes, rd, fz, nf, G.name, G.sub, G.setIx, setIm, setOw, putOw, own, kill, argsOf, iosOf, putBack, scalD, rOk, oLen, oInt, oAdd, oSub, oMul, oMod, oDiv, oPow, oNeg, oLt, oLe, oGt, oGe, oIx, oIsN, oIsNotN, oIsB, oIsNotB, isN, isB, oEq, oNe, oIn, oNotIn, oSl, oList, oTuple, muAppend, muExtend, muPop, retOf, keepIo, giveE, wipeE, freeE, turnS, turnL, I.any,
    List.getElem?_cons_succ, List.getElem?_cons_zero, List.set_cons_succ, List.set_cons_zero, Option.bind_some, Option.map_some, Option.getD_some, List.map_cons, List.map_nil, List.take_succ_cons, List.take_zero, List.length_cons, List.length_nil, List.length_map, List.nodup_cons, List.not_mem_nil, List.mem_cons, not_false_eq_true, and_self, or_self, List.nodup_nil, List.all_cons, List.all_nil, Bool.and_self, Bool.and_true, Bool.true_and, Bool.false_and, Bool.and_false, Bool.or_true, Bool.true_or, Bool.or_false, Bool.false_or, Bool.not_true, Bool.not_false, if_true, if_false, ↓reduceIte, Bool.false_eq_true, beq_self_eq_true, reduceCtorEq, String.reduceBEq, Nat.reduceEqDiff, Nat.reduceAdd, Nat.zero_add, Nat.reduceLeDiff, beq_true, beq_false, Int.zero_add, kvs_len, hb, d, a]
      · have d : dval (kvsOf b.1) (Sum.inl c) = none := by rw [dval_kvs, if_neg m]
        have a : addK b.1 c = b.1 ++ [c] := if_neg m
        cases b.2 <;> simp -implicitDefEqProofs only [slI, p_named_alike_3, E.setd, E.isDK, Dv.keyOf, List.cons_append, List.nil_append, List.replicate, Nat.reduceSub, S.seq, S.set, S.asg, S.own, S.ite, S.nil, S.ret, S.retN, S.drop, S.par, S.brk, S.cont, E.cb, E.var, E.c, E.cons, E.nil, E.rds, E.fzs, E.bin, E.un, E.and, E.or, E.not, E.bool, E.ite, E.lst, E.tup, E.call, E.callB, E.slice, E.part, E.noPart, E.chain, E.dK, E.dT, E.isi, isi, E.mt, E.tyD, E.chg,
    T.ofE, T.tru, T.truth, T.and, T.or, T.not, T.yes, rd, fz, nf, G.name, G.sub, G.setIx, setIm, setOw, putOw, own, kill, argsOf, iosOf, putBack, scalD, rOk, oLen, oInt, oAdd, oSub, oMul, oMod, oDiv, oPow, oNeg, oLt, oLe, oGt, oGe, oIx, oIsN, oIsNotN, oIsB, oIsNotB, isN, isB, oEq, oNe, oIn, oNotIn, oSl, oList, oTuple, muAppend, muExtend, muPop, retOf, keepIo, giveE, wipeE, freeE, turnS, turnL, I.any,
    List.getElem?_cons_succ, List.getElem?_cons_zero, List.set_cons_succ, List.set_cons_zero, Option.bind_some, Option.map_some, Option.getD_some, List.map_cons, List.map_nil, List.take_succ_cons, List.take_zero, List.length_cons, List.length_nil, List.length_map, List.nodup_cons, List.not_mem_nil, List.mem_cons, not_false_eq_true, and_self, or_self, List.nodup_nil, List.all_cons, List.all_nil, Bool.and_self, Bool.and_true, Bool.true_and, Bool.false_and, Bool.and_false, Bool.or_true, Bool.true_or, Bool.or_false, Bool.false_or, Bool.not_true, Bool.not_false, if_true, if_false, ↓reduceIte, Bool.false_eq_true, beq_self_eq_true, reduceCtorEq, String.reduceBEq, Nat.reduceEqDiff, Nat.reduceAdd, Nat.zero_add, Nat.reduceLeDiff, beq_true, beq_false, Int.zero_add, kvs_len, hb, d, a, kvs_add m]
  obtain ⟨o, e2⟩ := e2
  rw [seq_nx e1, seq_nx e2]
  have e4 : p_named_alike_4 [.im (DL x), .ow (.dK (kvsOf (cols x))), slI o] = some (.rt (.f (DL (named x))) [.im (DL x), .ow (.dK (kvsOf (cols x))), slI o]) := by
    refine ret_of ?_
    have it : I.any (E.var 0) [.im (DL x), .ow (.dK (kvsOf (cols x))), slI o] = some (x.map D.int, [.im (DL x), .ow (.dK (kvsOf (cols x))), slI o]) := by
      cases o <;> simp -implicitDefEqProofs only [slI, List.cons_append, List.nil_append, List.replicate, Nat.reduceSub, S.seq, S.set, S.asg, S.own, S.ite, S.nil, S.ret, S.retN, S.drop, S.par, S.brk, S.cont, E.cb, E.var, E.c, E.cons, E.nil, E.rds, E.fzs, E.bin, E.un, E.and, E.or, E.not, E.bool, E.ite, E.lst, E.tup, E.call, E.callB, E.slice, E.part, E.noPart, E.chain, E.dK, E.dT, E.isi, isi, E.mt, E.tyD, E.chg,
    T.ofE, T.tru, T.truth, T.and, T.or, T.not, T.yes, rd, fz, nf, G.name, G.sub, G.setIx, setIm, setOw, putOw, own, kill, argsOf, iosOf, putBack, scalD, rOk, oLen, oInt, oAdd, oSub, oMul, oMod, oDiv, oPow, oNeg, oLt, oLe, oGt, oGe, oIx, oIsN, oIsNotN, oIsB, oIsNotB, isN, isB, oEq, oNe, oIn, oNotIn, oSl, oList, oTuple, muAppend, muExtend, muPop, retOf, keepIo, giveE, wipeE, freeE, turnS, turnL, I.any,
    List.getElem?_cons_succ, List.getElem?_cons_zero, List.set_cons_succ, List.set_cons_zero, Option.bind_some, Option.map_some, Option.getD_some, List.map_cons, List.map_nil, List.take_succ_cons, List.take_zero, List.length_cons, List.length_nil, List.length_map, List.nodup_cons, List.not_mem_nil, List.mem_cons, not_false_eq_true, and_self, or_self, List.nodup_nil, List.all_cons, List.all_nil, Bool.and_self, Bool.and_true, Bool.true_and, Bool.false_and, Bool.and_false, Bool.or_true, Bool.true_or, Bool.or_false, Bool.false_or, Bool.not_true, Bool.not_false, if_true, if_false, ↓reduceIte, Bool.false_eq_true, beq_self_eq_true, reduceCtorEq, String.reduceBEq, Nat.reduceEqDiff, Nat.reduceAdd, Nat.zero_add, Nat.reduceLeDiff, beq_true, beq_false, Int.zero_add]
    have dn : DL (named x) = .lst (x.map fun c => D.int ((cols x).idxOf c : Nat)) := by
      show D.lst _ = _
      unfold named
      rw [List.map_map]
      rfl
    rw [dn]
    refine lc_map (enc := D.int) _ it (by omega) (by cases o <;> rfl) rfl (by cases o <;> rfl) fun c hc => ?_
    have d : dval (kvsOf (cols x)) (Sum.inl c) = some (.int ((cols x).idxOf c : Nat)) := by rw [dval_kvs, if_pos (mem_cols.mpr hc)]
    cases o <;> simp -implicitDefEqProofs only [slI, Dv.keyOf, List.cons_append, List.nil_append, List.replicate, Nat.reduceSub, S.seq, S.set, S.asg, S.own, S.ite, S.nil, S.ret, S.retN, S.drop, S.par, S.brk, S.cont, E.cb, E.var, E.c, E.cons, E.nil, E.rds, E.fzs, E.bin, E.un, E.and, E.or, E.not, E.bool, E.ite, E.lst, E.tup, E.call, E.callB, E.slice, E.part, E.noPart, E.chain, E.dK, E.dT, E.isi, isi, E.mt, E.tyD, E.chg,
    T.ofE, T.tru, T.truth, T.and, T.or, T.not, T.yes, rd, fz, nf, G.name, G.sub, G.setIx, setIm, setOw, putOw, own, kill, argsOf, iosOf, putBack, scalD, rOk, oLen, oInt, oAdd, oSub, oMul, oMod, oDiv, oPow, oNeg, oLt, oLe, oGt, oGe, oIx, oIsN, oIsNotN, oIsB, oIsNotB, isN, isB, oEq, oNe, oIn, oNotIn, oSl, oList, oTuple, muAppend, muExtend, muPop, retOf, keepIo, giveE, wipeE, freeE, turnS, turnL, I.any,
    List.getElem?_cons_succ, List.getElem?_cons_zero, List.set_cons_succ, List.set_cons_zero, Option.bind_some, Option.map_some, Option.getD_some, List.map_cons, List.map_nil, List.take_succ_cons, List.take_zero, List.length_cons, List.length_nil, List.length_map, List.nodup_cons, List.not_mem_nil, List.mem_cons, not_false_eq_true, and_self, or_self, List.nodup_nil, List.all_cons, List.all_nil, Bool.and_self, Bool.and_true, Bool.true_and, Bool.false_and, Bool.and_false, Bool.or_true, Bool.true_or, Bool.or_false, Bool.false_or, Bool.not_true, Bool.not_false, if_true, if_false, ↓reduceIte, Bool.false_eq_true, beq_self_eq_true, reduceCtorEq, String.reduceBEq, Nat.reduceEqDiff, Nat.reduceAdd, Nat.zero_add, Nat.reduceLeDiff, beq_true, beq_false, Int.zero_add, d]
  rw [e4]
  rfl
theorem law_named_ok {x : List Int} (hl : x.length ≤ 1000) : c__law_named [.im (DL x)] = some (.f (DL (named x)), [.no]) := by
  unfold c__law_named
  rw [run_eq 1 3 _ _ rfl]
  show done 1 3 (S.seq _ (S.seq _ _) [.im (DL x), .no, .no]) = _
  have e1 : p__law_named_1 [.im (DL x), .no, .no] = some (.nx [.im (DL x), .ow (DL []), .no]) := by
    simp -implicitDefEqProofs only [p__law_named_1, List.cons_append, List.nil_append, List.replicate, Nat.reduceSub, S.seq, S.set, S.asg, S.own, S.ite, S.nil, S.ret, S.retN, S.drop, S.par, S.brk, S.cont, E.cb, E.var, E.c, E.cons, E.nil, E.rds, E.fzs, E.bin, E.un, E.and, E.or, E.not, E.bool, E.ite, E.lst, E.tup, E.call, E.callB, E.slice, E.part, E.noPart, E.chain, E.dK, E.dT, E.isi, isi, E.mt, E.tyD, E.chg,
    T.ofE, T.tru, T.truth, T.and, T.or, T.not, T.yes, rd, fz, nf, G.name, G.sub, G.setIx, setIm, setOw, putOw, own, kill, argsOf, iosOf, putBack, scalD, rOk, oLen, oInt, oAdd, oSub, oMul, oMod, oDiv, oPow, oNeg, oLt, oLe, oGt, oGe, oIx, oIsN, oIsNotN, oIsB, oIsNotB, isN, isB, oEq, oNe, oIn, oNotIn, oSl, oList, oTuple, muAppend, muExtend, muPop, retOf, keepIo, giveE, wipeE, freeE, turnS, turnL, I.any,
    List.getElem?_cons_succ, List.getElem?_cons_zero, List.set_cons_succ, List.set_cons_zero, Option.bind_some, Option.map_some, Option.getD_some, List.map_cons, List.map_nil, List.take_succ_cons, List.take_zero, List.length_cons, List.length_nil, List.length_map, List.nodup_cons, List.not_mem_nil, List.mem_cons, not_false_eq_true, and_self, or_self, List.nodup_nil, List.all_cons, List.all_nil, Bool.and_self, Bool.and_true, Bool.true_and, Bool.false_and, Bool.and_false, Bool.or_true, Bool.true_or, Bool.or_false, Bool.false_or, Bool.not_true, Bool.not_false, if_true, if_false, ↓reduceIte, Bool.false_eq_true, beq_self_eq_true, reduceCtorEq, String.reduceBEq, Nat.reduceEqDiff, Nat.reduceAdd, Nat.zero_add, Nat.reduceLeDiff, beq_true, beq_false, Int.zero_add, Nat.zero_le]
    rfl
  have e2 : ∃ o : Option Int, p__law_named_2 [.im (DL x), .ow (DL []), .no] = some (.nx [.im (DL x), .ow (DL (cols x)), slI o]) := by
    have it : I.any (E.var 0) [.im (DL x), .ow (DL []), .no] = some (x.map D.int, [.im (DL x), .ow (DL []), .no]) := by
      simp -implicitDefEqProofs only [List.cons_append, List.nil_append, List.replicate, Nat.reduceSub, S.seq, S.set, S.asg, S.own, S.ite, S.nil, S.ret, S.retN, S.drop, S.par, S.brk, S.cont, E.cb, E.var, E.c, E.cons, E.nil, E.rds, E.fzs, E.bin, E.un, E.and, E.or, E.not, E.bool, E.ite, E.lst, E.tup, E.call, E.callB, E.slice, E.part, E.noPart, E.chain, E.dK, E.dT, E.isi, isi, E.mt, E.tyD, E.chg,
    T.ofE, T.tru, T.truth, T.and, T.or, T.not, T.yes, rd, fz, nf, G.name, G.sub, G.setIx, setIm, setOw, putOw, own, kill, argsOf, iosOf, putBack, scalD, rOk, oLen, oInt, oAdd, oSub, oMul, oMod, oDiv, oPow, oNeg, oLt, oLe, oGt, oGe, oIx, oIsN, oIsNotN, oIsB, oIsNotB, isN, isB, oEq, oNe, oIn, oNotIn, oSl, oList, oTuple, muAppend, muExtend, muPop, retOf, keepIo, giveE, wipeE, freeE, turnS, turnL, I.any,
    List.getElem?_cons_succ, List.getElem?_cons_zero, List.set_cons_succ, List.set_cons_zero, Option.bind_some, Option.map_some, Option.getD_some, List.map_cons, List.map_nil, List.take_succ_cons, List.take_zero, List.length_cons, List.length_nil, List.length_map, List.nodup_cons, List.not_mem_nil, List.mem_cons, not_false_eq_true, and_self, or_self, List.nodup_nil, List.all_cons, List.all_nil, Bool.and_self, Bool.and_true, Bool.true_and, Bool.false_and, Bool.and_false, Bool.or_true, Bool.true_or, Bool.or_false, Bool.false_or, Bool.not_true, Bool.not_false, if_true, if_false, ↓reduceIte, Bool.false_eq_true, beq_self_eq_true, reduceCtorEq, String.reduceBEq, Nat.reduceEqDiff, Nat.reduceAdd, Nat.zero_add, Nat.reduceLeDiff, beq_true, beq_false, Int.zero_add]
    have h := loop_foldN (g := G.name 2) (body := p__law_named_3) (ks := []) (enc := D.int) (fun b : List Int × Option Int => [.im (DL x), .ow (DL b.1), slI b.2]) (fun b c => (addK b.1 c, some c)) (fun b => b.1.length) 1000000 1 (xs := x) (b := ([], none)) (fun c hc b hn => ?_) (fun c _ b => addK_len b.1 c) (by simp only [List.length_nil]; omega)
    · have hf : ∀ (xs : List Int) (b : List Int × Option Int), (xs.foldl (fun b c => (addK b.1 c, some c)) b).1 = xs.foldl addK b.1 := by
        intro xs
        induction xs with
        | nil => intro b; rfl
        | cons a xs ih => intro b; rw [List.foldl_cons, List.foldl_cons, ih]
      have q := (for_of (g := G.name 2) (ks := []) (body := p__law_named_3) it).trans h
      rw [hf] at q
      exact ⟨_, q⟩
    · have hb : b.1.length < 1000000 := by omega
      by_cases m : c ∈ b.1
      · have a : addK b.1 c = b.1 := if_pos m
        cases b.2 <;> simp -implicitDefEqProofs only [slI, p__law_named_3, List.cons_append, List.nil_append, List.replicate, Nat.reduceSub, S.seq, S.set, S.asg, S.own, S.ite, S.nil, S.ret, S.retN, S.drop, S.par, S.brk, S.cont, E.cb, E.var, E.c, E.cons, E.nil, E.rds, E.fzs, E.bin, E.un, E.and, E.or, E.not, E.bool, E.ite, E.lst, E.tup, E.call, E.callB, E.slice, E.part, E.noPart, E.chain, E.dK, E.dT, E.isi, isi, E.mt, E.tyD, E.chg,
    T.ofE, T.tru, T.truth, T.and, T.or, T.not, T.yes, rd, fz, nf, G.name, G.sub, G.setIx, setIm, setOw, putOw, own, kill, argsOf, iosOf, putBack, scalD, rOk, oLen, oInt, oAdd, oSub, oMul, oMod, oDiv, oPow, oNeg, oLt, oLe, oGt, oGe, oIx, oIsN, oIsNotN, oIsB, oIsNotB, isN, isB, oEq, oNe, oIn, oNotIn, oSl, oList, oTuple, muAppend, muExtend, muPop, retOf, keepIo, giveE, wipeE, freeE, turnS, turnL, I.any,
    List.getElem?_cons_succ, List.getElem?_cons_zero, List.set_cons_succ, List.set_cons_zero, Option.bind_some, Option.map_some, Option.getD_some, List.map_cons, List.map_nil, List.take_succ_cons, List.take_zero, List.length_cons, List.length_nil, List.length_map, List.nodup_cons, List.not_mem_nil, List.mem_cons, not_false_eq_true, and_self, or_self, List.nodup_nil, List.all_cons, List.all_nil, Bool.and_self, Bool.and_true, Bool.true_and, Bool.false_and, Bool.and_false, Bool.or_true, Bool.true_or, Bool.or_false, Bool.false_or, Bool.not_true, Bool.not_false, if_true, if_false, ↓reduceIte, Bool.false_eq_true, beq_self_eq_true, reduceCtorEq, String.reduceBEq, Nat.reduceEqDiff, Nat.reduceAdd, Nat.zero_add, Nat.reduceLeDiff, beq_true, beq_false, Int.zero_add, inD_int, decide_eq_true m, a]
      · have a : addK b.1 c = b.1 ++ [c] := if_neg m
        cases b.2 <;> simp -implicitDefEqProofs only [slI, p__law_named_3, p__law_named_4, List.cons_append, List.nil_append, List.replicate, Nat.reduceSub, S.seq, S.set, S.asg, S.own, S.ite, S.nil, S.ret, S.retN, S.drop, S.par, S.brk, S.cont, E.cb, E.var, E.c, E.cons, E.nil, E.rds, E.fzs, E.bin, E.un, E.and, E.or, E.not, E.bool, E.ite, E.lst, E.tup, E.call, E.callB, E.slice, E.part, E.noPart, E.chain, E.dK, E.dT, E.isi, isi, E.mt, E.tyD, E.chg,
    T.ofE, T.tru, T.truth, T.and, T.or, T.not, T.yes, rd, fz, nf, G.name, G.sub, G.setIx, setIm, setOw, putOw, own, kill, argsOf, iosOf, putBack, scalD, rOk, oLen, oInt, oAdd, oSub, oMul, oMod, oDiv, oPow, oNeg, oLt, oLe, oGt, oGe, oIx, oIsN, oIsNotN, oIsB, oIsNotB, isN, isB, oEq, oNe, oIn, oNotIn, oSl, oList, oTuple, muAppend, muExtend, muPop, retOf, keepIo, giveE, wipeE, freeE, turnS, turnL, I.any,
    List.getElem?_cons_succ, List.getElem?_cons_zero, List.set_cons_succ, List.set_cons_zero, Option.bind_some, Option.map_some, Option.getD_some, List.map_cons, List.map_nil, List.take_succ_cons, List.take_zero, List.length_cons, List.length_nil, List.length_map, List.nodup_cons, List.not_mem_nil, List.mem_cons, not_false_eq_true, and_self, or_self, List.nodup_nil, List.all_cons, List.all_nil, Bool.and_self, Bool.and_true, Bool.true_and, Bool.false_and, Bool.and_false, Bool.or_true, Bool.true_or, Bool.or_false, Bool.false_or, Bool.not_true, Bool.not_false, if_true, if_false, ↓reduceIte, Bool.false_eq_true, beq_self_eq_true, reduceCtorEq, String.reduceBEq, Nat.reduceEqDiff, Nat.reduceAdd, Nat.zero_add, Nat.reduceLeDiff, beq_true, beq_false, Int.zero_add, inD_int, decide_eq_false m, hb, a, DL_app]
  obtain ⟨o, e2⟩ := e2
  rw [seq_nx e1, seq_nx e2]
  have e4 : p__law_named_5 [.im (DL x), .ow (DL (cols x)), slI o] = some (.rt (.f (DL (named x))) [.im (DL x), .ow (DL (cols x)), slI o]) := by
    refine ret_of ?_
    have it : I.any (E.var 0) [.im (DL x), .ow (DL (cols x)), slI o] = some (x.map D.int, [.im (DL x), .ow (DL (cols x)), slI o]) := by
      cases o <;> simp -implicitDefEqProofs only [slI, List.cons_append, List.nil_append, List.replicate, Nat.reduceSub, S.seq, S.set, S.asg, S.own, S.ite, S.nil, S.ret, S.retN, S.drop, S.par, S.brk, S.cont, E.cb, E.var, E.c, E.cons, E.nil, E.rds, E.fzs, E.bin, E.un, E.and, E.or, E.not, E.bool, E.ite, E.lst, E.tup, E.call, E.callB, E.slice, E.part, E.noPart, E.chain, E.dK, E.dT, E.isi, isi, E.mt, E.tyD, E.chg,
    T.ofE, T.tru, T.truth, T.and, T.or, T.not, T.yes, rd, fz, nf, G.name, G.sub, G.setIx, setIm, setOw, putOw, own, kill, argsOf, iosOf, putBack, scalD, rOk, oLen, oInt, oAdd, oSub, oMul, oMod, oDiv, oPow, oNeg, oLt, oLe, oGt, oGe, oIx, oIsN, oIsNotN, oIsB, oIsNotB, isN, isB, oEq, oNe, oIn, oNotIn, oSl, oList, oTuple, muAppend, muExtend, muPop, retOf, keepIo, giveE, wipeE, freeE, turnS, turnL, I.any,
    List.getElem?_cons_succ, List.getElem?_cons_zero, List.set_cons_succ, List.set_cons_zero, Option.bind_some, Option.map_some, Option.getD_some, List.map_cons, List.map_nil, List.take_succ_cons, List.take_zero, List.length_cons, List.length_nil, List.length_map, List.nodup_cons, List.not_mem_nil, List.mem_cons, not_false_eq_true, and_self, or_self, List.nodup_nil, List.all_cons, List.all_nil, Bool.and_self, Bool.and_true, Bool.true_and, Bool.false_and, Bool.and_false, Bool.or_true, Bool.true_or, Bool.or_false, Bool.false_or, Bool.not_true, Bool.not_false, if_true, if_false, ↓reduceIte, Bool.false_eq_true, beq_self_eq_true, reduceCtorEq, String.reduceBEq, Nat.reduceEqDiff, Nat.reduceAdd, Nat.zero_add, Nat.reduceLeDiff, beq_true, beq_false, Int.zero_add]
    have dn : DL (named x) = .lst (x.map fun c => D.int ((cols x).idxOf c : Nat)) := by
      show D.lst _ = _
      unfold named
      rw [List.map_map]
      rfl
    rw [dn]
    refine lc_map (enc := D.int) _ it (by omega) (by cases o <;> rfl) rfl (by cases o <;> rfl) fun c hc => ?_
    have d := index_ints (mem_cols.mpr hc)
    cases o <;> simp -implicitDefEqProofs only [slI, List.cons_append, List.nil_append, List.replicate, Nat.reduceSub, S.seq, S.set, S.asg, S.own, S.ite, S.nil, S.ret, S.retN, S.drop, S.par, S.brk, S.cont, E.cb, E.var, E.c, E.cons, E.nil, E.rds, E.fzs, E.bin, E.un, E.and, E.or, E.not, E.bool, E.ite, E.lst, E.tup, E.call, E.callB, E.slice, E.part, E.noPart, E.chain, E.dK, E.dT, E.isi, isi, E.mt, E.tyD, E.chg,
    T.ofE, T.tru, T.truth, T.and, T.or, T.not, T.yes, rd, fz, nf, G.name, G.sub, G.setIx, setIm, setOw, putOw, own, kill, argsOf, iosOf, putBack, scalD, rOk, oLen, oInt, oAdd, oSub, oMul, oMod, oDiv, oPow, oNeg, oLt, oLe, oGt, oGe, oIx, oIsN, oIsNotN, oIsB, oIsNotB, isN, isB, oEq, oNe, oIn, oNotIn, oSl, oList, oTuple, muAppend, muExtend, muPop, retOf, keepIo, giveE, wipeE, freeE, turnS, turnL, I.any,
    List.getElem?_cons_succ, List.getElem?_cons_zero, List.set_cons_succ, List.set_cons_zero, Option.bind_some, Option.map_some, Option.getD_some, List.map_cons, List.map_nil, List.take_succ_cons, List.take_zero, List.length_cons, List.length_nil, List.length_map, List.nodup_cons, List.not_mem_nil, List.mem_cons, not_false_eq_true, and_self, or_self, List.nodup_nil, List.all_cons, List.all_nil, Bool.and_self, Bool.and_true, Bool.true_and, Bool.false_and, Bool.and_false, Bool.or_true, Bool.true_or, Bool.or_false, Bool.false_or, Bool.not_true, Bool.not_false, if_true, if_false, ↓reduceIte, Bool.false_eq_true, beq_self_eq_true, reduceCtorEq, String.reduceBEq, Nat.reduceEqDiff, Nat.reduceAdd, Nat.zero_add, Nat.reduceLeDiff, beq_true, beq_false, Int.zero_add, d]
  rw [e4]
  rfl
/-- the least naming of the images -/
def plain (x : List Int) (t : Bool) : List Int := (((imgs x t).map named).mergeSort leI).headD []
theorem imgs_all {x : List Int} {t : Bool} {y : List Int} (h : y ∈ imgs x t) : y ∈ imgK x t := (List.mergeSort_perm (imgK x t) leI).mem_iff.mp h
theorem imgs_at_len {x : List Int} {t : Bool} {y : List Int} (h : y ∈ imgs x t) : y.length = x.length := by
  obtain ⟨k, b, _, _, rfl⟩ := mem_imgK.mp (imgs_all h)
  exact begun_len x k b
theorem plain_at {x : List Int} (hx : 0 < x.length) (t : Bool) : atI ((((imgs x t).map named).mergeSort leI).map DL) 0 = some (DL (plain x t)) := by
  unfold plain
  cases h : ((imgs x t).map named).mergeSort leI with
  | nil =>
    have e := (List.mergeSort_perm ((imgs x t).map named) leI).length_eq
    rw [h, List.length_map] at e
    exact absurd (List.length_eq_zero_iff.mp e.symm) (imgs_ne hx t)
  | cons a r => exact atI_0 _ _
theorem map_DL {α : Type} (f : α → List Int) (l : List α) : D.lst (l.map fun y => DL (f y)) = DLL (l.map f) := by
  show _ = D.lst _
  rw [List.map_map]
  rfl
theorem plain_ok {x : List Int} (hx : 0 < x.length) (hl : x.length ≤ 1000) (t : Bool) : c_plain_stripes [.im (DL x), .im (KD t)] = some (.v (DL (plain x t)), [.no, .no]) := by
  unfold c_plain_stripes
  rw [run_eq 2 3 _ _ rfl]
  have it : I.any (E.call [false, false] c_images (E.cons (E.var 0) (E.cons (E.var 1) E.nil))) [.im (DL x), .im (KD t), .no] = some ((imgs x t).map DL, [.im (DL x), .im (KD t), .no]) := by
    simp -implicitDefEqProofs only [List.cons_append, List.nil_append, List.replicate, Nat.reduceSub, S.seq, S.set, S.asg, S.own, S.ite, S.nil, S.ret, S.retN, S.drop, S.par, S.brk, S.cont, E.cb, E.var, E.c, E.cons, E.nil, E.rds, E.fzs, E.bin, E.un, E.and, E.or, E.not, E.bool, E.ite, E.lst, E.tup, E.call, E.callB, E.slice, E.part, E.noPart, E.chain, E.dK, E.dT, E.isi, isi, E.mt, E.tyD, E.chg,
    T.ofE, T.tru, T.truth, T.and, T.or, T.not, T.yes, rd, fz, nf, G.name, G.sub, G.setIx, setIm, setOw, putOw, own, kill, argsOf, iosOf, putBack, scalD, rOk, oLen, oInt, oAdd, oSub, oMul, oMod, oDiv, oPow, oNeg, oLt, oLe, oGt, oGe, oIx, oIsN, oIsNotN, oIsB, oIsNotB, isN, isB, oEq, oNe, oIn, oNotIn, oSl, oList, oTuple, muAppend, muExtend, muPop, retOf, keepIo, giveE, wipeE, freeE, turnS, turnL, I.any,
    List.getElem?_cons_succ, List.getElem?_cons_zero, List.set_cons_succ, List.set_cons_zero, Option.bind_some, Option.map_some, Option.getD_some, List.map_cons, List.map_nil, List.take_succ_cons, List.take_zero, List.length_cons, List.length_nil, List.length_map, List.nodup_cons, List.not_mem_nil, List.mem_cons, not_false_eq_true, and_self, or_self, List.nodup_nil, List.all_cons, List.all_nil, Bool.and_self, Bool.and_true, Bool.true_and, Bool.false_and, Bool.and_false, Bool.or_true, Bool.true_or, Bool.or_false, Bool.false_or, Bool.not_true, Bool.not_false, if_true, if_false, ↓reduceIte, Bool.false_eq_true, beq_self_eq_true, reduceCtorEq, String.reduceBEq, Nat.reduceEqDiff, Nat.reduceAdd, Nat.zero_add, Nat.reduceLeDiff, beq_true, beq_false, Int.zero_add, images_ok hx hl]
  have lc : E.lc [2] (I.any (E.call [false, false] c_images (E.cons (E.var 0) (E.cons (E.var 1) E.nil)))) (G.name 2) T.yes (E.call [false] c_named_alike (E.cons (E.var 2) E.nil)) [.im (DL x), .im (KD t), .no] =
      some (.f (DLL ((imgs x t).map named)), [.im (DL x), .im (KD t), .no]) := by
    rw [← map_DL]
    refine lc_map (enc := DL) (fun y => DL (named y)) it (by have := imgs_len (x := x) (t := t); omega) rfl rfl rfl fun y hy => ?_
    simp -implicitDefEqProofs only [List.cons_append, List.nil_append, List.replicate, Nat.reduceSub, S.seq, S.set, S.asg, S.own, S.ite, S.nil, S.ret, S.retN, S.drop, S.par, S.brk, S.cont, E.cb, E.var, E.c, E.cons, E.nil, E.rds, E.fzs, E.bin, E.un, E.and, E.or, E.not, E.bool, E.ite, E.lst, E.tup, E.call, E.callB, E.slice, E.part, E.noPart, E.chain, E.dK, E.dT, E.isi, isi, E.mt, E.tyD, E.chg,
    T.ofE, T.tru, T.truth, T.and, T.or, T.not, T.yes, rd, fz, nf, G.name, G.sub, G.setIx, setIm, setOw, putOw, own, kill, argsOf, iosOf, putBack, scalD, rOk, oLen, oInt, oAdd, oSub, oMul, oMod, oDiv, oPow, oNeg, oLt, oLe, oGt, oGe, oIx, oIsN, oIsNotN, oIsB, oIsNotB, isN, isB, oEq, oNe, oIn, oNotIn, oSl, oList, oTuple, muAppend, muExtend, muPop, retOf, keepIo, giveE, wipeE, freeE, turnS, turnL, I.any,
    List.getElem?_cons_succ, List.getElem?_cons_zero, List.set_cons_succ, List.set_cons_zero, Option.bind_some, Option.map_some, Option.getD_some, List.map_cons, List.map_nil, List.take_succ_cons, List.take_zero, List.length_cons, List.length_nil, List.length_map, List.nodup_cons, List.not_mem_nil, List.mem_cons, not_false_eq_true, and_self, or_self, List.nodup_nil, List.all_cons, List.all_nil, Bool.and_self, Bool.and_true, Bool.true_and, Bool.false_and, Bool.and_false, Bool.or_true, Bool.true_or, Bool.or_false, Bool.false_or, Bool.not_true, Bool.not_false, if_true, if_false, ↓reduceIte, Bool.false_eq_true, beq_self_eq_true, reduceCtorEq, String.reduceBEq, Nat.reduceEqDiff, Nat.reduceAdd, Nat.zero_add, Nat.reduceLeDiff, beq_true, beq_false, Int.zero_add, named_alike_ok (show y.length ≤ 1000 by rw [imgs_at_len hy]; exact hl)]
  have q := sorted_DLL ((imgs x t).map named)
  simp -implicitDefEqProofs only [b_plain_stripes, p_plain_stripes_1, done, List.cons_append, List.nil_append, List.replicate, Nat.reduceSub, S.seq, S.set, S.asg, S.own, S.ite, S.nil, S.ret, S.retN, S.drop, S.par, S.brk, S.cont, E.cb, E.var, E.c, E.cons, E.nil, E.rds, E.fzs, E.bin, E.un, E.and, E.or, E.not, E.bool, E.ite, E.lst, E.tup, E.call, E.callB, E.slice, E.part, E.noPart, E.chain, E.dK, E.dT, E.isi, isi, E.mt, E.tyD, E.chg,
    T.ofE, T.tru, T.truth, T.and, T.or, T.not, T.yes, rd, fz, nf, G.name, G.sub, G.setIx, setIm, setOw, putOw, own, kill, argsOf, iosOf, putBack, scalD, rOk, oLen, oInt, oAdd, oSub, oMul, oMod, oDiv, oPow, oNeg, oLt, oLe, oGt, oGe, oIx, oIsN, oIsNotN, oIsB, oIsNotB, isN, isB, oEq, oNe, oIn, oNotIn, oSl, oList, oTuple, muAppend, muExtend, muPop, retOf, keepIo, giveE, wipeE, freeE, turnS, turnL, I.any,
    List.getElem?_cons_succ, List.getElem?_cons_zero, List.set_cons_succ, List.set_cons_zero, Option.bind_some, Option.map_some, Option.getD_some, List.map_cons, List.map_nil, List.take_succ_cons, List.take_zero, List.length_cons, List.length_nil, List.length_map, List.nodup_cons, List.not_mem_nil, List.mem_cons, not_false_eq_true, and_self, or_self, List.nodup_nil, List.all_cons, List.all_nil, Bool.and_self, Bool.and_true, Bool.true_and, Bool.false_and, Bool.and_false, Bool.or_true, Bool.true_or, Bool.or_false, Bool.false_or, Bool.not_true, Bool.not_false, if_true, if_false, ↓reduceIte, Bool.false_eq_true, beq_self_eq_true, reduceCtorEq, String.reduceBEq, Nat.reduceEqDiff, Nat.reduceAdd, Nat.zero_add, Nat.reduceLeDiff, beq_true, beq_false, Int.zero_add, lc, q, plain_at hx]
theorem some_naming_ok {x y : List Int} (hx : 0 < x.length) (hl : x.length ≤ 1000) (hy : y.length ≤ 1000) (t : Bool) : c__law_some_naming [.im (DL x), .im (DL y), .im (KD t)] =
    some (.v (.bl ((imgs x t).any fun i => decide (i.length = y.length) && decide (named i = named y))), [.no, .no, .no]) := by
  unfold c__law_some_naming
  rw [run_eq 3 4 _ _ rfl]
  show done 3 4 (S.seq _ _ [.im (DL x), .im (DL y), .im (KD t), .no]) = _
  have it : I.any (E.call [false, false] c__law_images (E.cons (E.var 0) (E.cons (E.var 2) E.nil))) [.im (DL x), .im (DL y), .im (KD t), .no] = some ((imgs x t).map DL, [.im (DL x), .im (DL y), .im (KD t), .no]) := by
    simp -implicitDefEqProofs only [List.cons_append, List.nil_append, List.replicate, Nat.reduceSub, S.seq, S.set, S.asg, S.own, S.ite, S.nil, S.ret, S.retN, S.drop, S.par, S.brk, S.cont, E.cb, E.var, E.c, E.cons, E.nil, E.rds, E.fzs, E.bin, E.un, E.and, E.or, E.not, E.bool, E.ite, E.lst, E.tup, E.call, E.callB, E.slice, E.part, E.noPart, E.chain, E.dK, E.dT, E.isi, isi, E.mt, E.tyD, E.chg,
    T.ofE, T.tru, T.truth, T.and, T.or, T.not, T.yes, rd, fz, nf, G.name, G.sub, G.setIx, setIm, setOw, putOw, own, kill, argsOf, iosOf, putBack, scalD, rOk, oLen, oInt, oAdd, oSub, oMul, oMod, oDiv, oPow, oNeg, oLt, oLe, oGt, oGe, oIx, oIsN, oIsNotN, oIsB, oIsNotB, isN, isB, oEq, oNe, oIn, oNotIn, oSl, oList, oTuple, muAppend, muExtend, muPop, retOf, keepIo, giveE, wipeE, freeE, turnS, turnL, I.any,
    List.getElem?_cons_succ, List.getElem?_cons_zero, List.set_cons_succ, List.set_cons_zero, Option.bind_some, Option.map_some, Option.getD_some, List.map_cons, List.map_nil, List.take_succ_cons, List.take_zero, List.length_cons, List.length_nil, List.length_map, List.nodup_cons, List.not_mem_nil, List.mem_cons, not_false_eq_true, and_self, or_self, List.nodup_nil, List.all_cons, List.all_nil, Bool.and_self, Bool.and_true, Bool.true_and, Bool.false_and, Bool.and_false, Bool.or_true, Bool.true_or, Bool.or_false, Bool.false_or, Bool.not_true, Bool.not_false, if_true, if_false, ↓reduceIte, Bool.false_eq_true, beq_self_eq_true, reduceCtorEq, String.reduceBEq, Nat.reduceEqDiff, Nat.reduceAdd, Nat.zero_add, Nat.reduceLeDiff, beq_true, beq_false, Int.zero_add, law_images_ok hx hl]
  have e1 : p__law_some_naming_1 [.im (DL x), .im (DL y), .im (KD t), .no] = some (fndO (fun _ : List Int => .v (.bl true)) (fun i => [.im (DL x), .im (DL y), .im (KD t), .im (DL i)]) [.im (DL x), .im (DL y), .im (KD t), .no] ((imgs x t).find? fun i => decide (i.length = y.length) && decide (named i = named y))) := by
    refine (for_of it).trans (loop_find (enc := DL) _ _ _ fun i hi => ?_)
    have li := imgs_at_len hi
    have z : decide ((i.length : Int) = (y.length : Int)) = decide (i.length = y.length) := decide_eq_decide.mpr (by omega)
    have n1 := named_len i
    cases c1 : decide (i.length = y.length) with
    | false => simp -implicitDefEqProofs only [p__law_some_naming_2, List.cons_append, List.nil_append, List.replicate, Nat.reduceSub, S.seq, S.set, S.asg, S.own, S.ite, S.nil, S.ret, S.retN, S.drop, S.par, S.brk, S.cont, E.cb, E.var, E.c, E.cons, E.nil, E.rds, E.fzs, E.bin, E.un, E.and, E.or, E.not, E.bool, E.ite, E.lst, E.tup, E.call, E.callB, E.slice, E.part, E.noPart, E.chain, E.dK, E.dT, E.isi, isi, E.mt, E.tyD, E.chg,
    T.ofE, T.tru, T.truth, T.and, T.or, T.not, T.yes, rd, fz, nf, G.name, G.sub, G.setIx, setIm, setOw, putOw, own, kill, argsOf, iosOf, putBack, scalD, rOk, oLen, oInt, oAdd, oSub, oMul, oMod, oDiv, oPow, oNeg, oLt, oLe, oGt, oGe, oIx, oIsN, oIsNotN, oIsB, oIsNotB, isN, isB, oEq, oNe, oIn, oNotIn, oSl, oList, oTuple, muAppend, muExtend, muPop, retOf, keepIo, giveE, wipeE, freeE, turnS, turnL, I.any,
    List.getElem?_cons_succ, List.getElem?_cons_zero, List.set_cons_succ, List.set_cons_zero, Option.bind_some, Option.map_some, Option.getD_some, List.map_cons, List.map_nil, List.take_succ_cons, List.take_zero, List.length_cons, List.length_nil, List.length_map, List.nodup_cons, List.not_mem_nil, List.mem_cons, not_false_eq_true, and_self, or_self, List.nodup_nil, List.all_cons, List.all_nil, Bool.and_self, Bool.and_true, Bool.true_and, Bool.false_and, Bool.and_false, Bool.or_true, Bool.true_or, Bool.or_false, Bool.false_or, Bool.not_true, Bool.not_false, if_true, if_false, ↓reduceIte, Bool.false_eq_true, beq_self_eq_true, reduceCtorEq, String.reduceBEq, Nat.reduceEqDiff, Nat.reduceAdd, Nat.zero_add, Nat.reduceLeDiff, beq_true, beq_false, Int.zero_add, eqD_int, z, c1]
    | true =>
      cases c2 : decide (named i = named y) <;> simp -implicitDefEqProofs only [p__law_some_naming_2, p__law_some_naming_3, List.cons_append, List.nil_append, List.replicate, Nat.reduceSub, S.seq, S.set, S.asg, S.own, S.ite, S.nil, S.ret, S.retN, S.drop, S.par, S.brk, S.cont, E.cb, E.var, E.c, E.cons, E.nil, E.rds, E.fzs, E.bin, E.un, E.and, E.or, E.not, E.bool, E.ite, E.lst, E.tup, E.call, E.callB, E.slice, E.part, E.noPart, E.chain, E.dK, E.dT, E.isi, isi, E.mt, E.tyD, E.chg,
    T.ofE, T.tru, T.truth, T.and, T.or, T.not, T.yes, rd, fz, nf, G.name, G.sub, G.setIx, setIm, setOw, putOw, own, kill, argsOf, iosOf, putBack, scalD, rOk, oLen, oInt, oAdd, oSub, oMul, oMod, oDiv, oPow, oNeg, oLt, oLe, oGt, oGe, oIx, oIsN, oIsNotN, oIsB, oIsNotB, isN, isB, oEq, oNe, oIn, oNotIn, oSl, oList, oTuple, muAppend, muExtend, muPop, retOf, keepIo, giveE, wipeE, freeE, turnS, turnL, I.any,
    List.getElem?_cons_succ, List.getElem?_cons_zero, List.set_cons_succ, List.set_cons_zero, Option.bind_some, Option.map_some, Option.getD_some, List.map_cons, List.map_nil, List.take_succ_cons, List.take_zero, List.length_cons, List.length_nil, List.length_map, List.nodup_cons, List.not_mem_nil, List.mem_cons, not_false_eq_true, and_self, or_self, List.nodup_nil, List.all_cons, List.all_nil, Bool.and_self, Bool.and_true, Bool.true_and, Bool.false_and, Bool.and_false, Bool.or_true, Bool.true_or, Bool.or_false, Bool.false_or, Bool.not_true, Bool.not_false, if_true, if_false, ↓reduceIte, Bool.false_eq_true, beq_self_eq_true, reduceCtorEq, String.reduceBEq, Nat.reduceEqDiff, Nat.reduceAdd, Nat.zero_add, Nat.reduceLeDiff, beq_true, beq_false, Int.zero_add, eqD_int, eqD_DL, z, c1, law_named_ok (show i.length ≤ 1000 by omega), law_named_ok hy, c2]
  cases hf : (imgs x t).find? (fun i => decide (i.length = y.length) && decide (named i = named y)) with
  | none =>
    rw [hf] at e1
    have a : ((imgs x t).any fun i => decide (i.length = y.length) && decide (named i = named y)) = false := by
      rw [List.any_eq_false]
      exact List.find?_eq_none.mp hf
    rw [seq_nx e1, a]
    rfl
  | some i =>
    rw [hf] at e1
    have a : ((imgs x t).any fun i => decide (i.length = y.length) && decide (named i = named y)) = true := by
      rw [List.any_eq_true]
      exact ⟨i, List.mem_of_find?_eq_some hf, List.find?_some (p := fun i => decide (i.length = y.length) && decide (named i = named y)) hf⟩
    rw [seq_rt e1, a]
    rfl
end ev
end K94

set_option Elab.async false
set_option linter.all false
set_option maxRecDepth 10000
set_option maxHeartbeats 4000000
set_option autoImplicit false
namespace K94
open PySem L2 Dv
/-! ### the mathematics of it -/
section math
theorem at_mod {x : List Int} {i j : Int} (h : i % (x.length : Int) = j % (x.length : Int)) : at_ x i = at_ x j := by
  unfold at_
  rw [h]
theorem begun_get {x : List Int} {p : Int} {b : Bool} {k : Nat} (h : k < x.length) : (begun x p b)[k]? = some (at_ x (if b then p - k else p + k)) := by
  unfold begun
  rw [List.getElem?_map, List.getElem?_range h]
  rfl
theorem at_get {x : List Int} {k : Nat} (h : k < x.length) : x[k]? = some (at_ x k) := by
  rw [← Dv.atI_nat]
  exact atI_k h
theorem ext_at {x y : List Int} (hl : x.length = y.length) (h : ∀ k : Nat, k < x.length → at_ x k = at_ y k) : x = y := by
  apply List.ext_getElem?
  intro k
  by_cases c : k < x.length
  · rw [at_get c, at_get (by omega), h k c]
  · rw [List.getElem?_eq_none (by omega), List.getElem?_eq_none (by omega)]
theorem at_begun {x : List Int} (hx : 0 < x.length) (p : Int) (b : Bool) (j : Int) : at_ (begun x p b) j = at_ x (if b then p - j else p + j) := by
  have hn : (x.length : Int) ≠ 0 := by omega
  have h1 := Int.emod_nonneg j hn
  have h2 := Int.emod_lt_of_pos j (show (0 : Int) < x.length by omega)
  have e : at_ (begun x p b) j = at_ (begun x p b) (((j % (x.length : Int)).toNat : Nat) : Int) := at_mod (by
    rw [begun_len, show (((j % (x.length : Int)).toNat : Nat) : Int) = j % (x.length : Int) by omega, Int.emod_emod])
  rw [e]
  have hk : (j % (x.length : Int)).toNat < x.length := by omega
  have g1 := begun_get (x := x) (p := p) (b := b) hk
  have g2 := at_get (x := begun x p b) (k := (j % (x.length : Int)).toNat) (by rw [begun_len]; exact hk)
  rw [g1] at g2
  rw [← Option.some.inj g2]
  apply at_mod
  rw [show (((j % (x.length : Int)).toNat : Nat) : Int) = j % (x.length : Int) by omega]
  cases b
  · simp only [Bool.false_eq_true, if_false]
    exact Int.add_emod_emod _ _ _
  · simp only [if_true]
    exact Int.sub_emod_emod _ _ _
theorem begun_ext {x y : List Int} {p : Int} {b : Bool} (hx : 0 < x.length) (hl : y.length = x.length) (h : ∀ k : Nat, k < x.length → at_ y k = at_ x (if b then p - k else p + k)) : y = begun x p b := by
  refine ext_at (by rw [begun_len, hl]) fun k hk => ?_
  rw [h k (by omega), at_begun hx]
theorem begun_begun {x : List Int} (hx : 0 < x.length) (p q : Int) (b c : Bool) : begun (begun x p b) q c = begun x (if b then p - q else p + q) (b ^^ c) := by
  refine begun_ext hx (by rw [begun_len, begun_len]) fun k hk => ?_
  rw [at_begun (by rw [begun_len]; exact hx), at_begun hx]
  congr 1
  cases b <;> cases c <;> simp <;> omega
theorem begun_zero {x : List Int} (hx : 0 < x.length) : begun x 0 false = x := (begun_ext hx rfl fun k _ => by simp).symm
theorem begun_mod {x : List Int} (hx : 0 < x.length) (p : Int) (b : Bool) : begun x p b = begun x (p % (x.length : Int)) b := by
  refine begun_ext hx (begun_len x p b) fun k hk => ?_
  rw [at_begun hx]
  apply at_mod
  cases b
  · simp only [Bool.false_eq_true, if_false]
    exact (Int.emod_add_emod _ _ _).symm
  · simp only [if_true]
    exact (Int.emod_sub_emod _ _ _).symm
theorem begun_nat {x : List Int} (hx : 0 < x.length) (p : Int) (b : Bool) : ∃ k : Nat, k < x.length ∧ begun x p b = begun x (k : Nat) b := by
  have h1 := Int.emod_nonneg p (show (x.length : Int) ≠ 0 by omega)
  have h2 := Int.emod_lt_of_pos p (show (0 : Int) < x.length by omega)
  refine ⟨(p % (x.length : Int)).toNat, by omega, ?_⟩
  rw [begun_mod hx, show (((p % (x.length : Int)).toNat : Nat) : Int) = p % (x.length : Int) by omega]
theorem mem_imgs {x : List Int} (hx : 0 < x.length) {t : Bool} {y : List Int} : y ∈ imgs x t ↔ ∃ (p : Int) (b : Bool), b ∈ ways t ∧ y = begun x p b := by
  unfold imgs
  rw [(List.mergeSort_perm (imgK x t) leI).mem_iff, mem_imgK]
  constructor
  · rintro ⟨k, b, _, hb, e⟩
    exact ⟨k, b, hb, e⟩
  · rintro ⟨p, b, hb, e⟩
    obtain ⟨k, hk, e2⟩ := begun_nat hx p b
    exact ⟨k, b, hk, hb, e.trans e2⟩
theorem ways_xor {t b c : Bool} (hb : b ∈ ways t) (hc : c ∈ ways t) : (b ^^ c) ∈ ways t := by
  cases t <;> cases b <;> cases c <;> simp_all [ways]
theorem ways_f (t : Bool) : false ∈ ways t := by cases t <;> simp [ways]
theorem begun_back {x : List Int} (hx : 0 < x.length) (p : Int) (b : Bool) : begun (begun x p b) (if b then p else -p) b = x := by
  rw [begun_begun hx]
  have e : (if b then p - (if b then p else -p) else p + (if b then p else -p)) = 0 := by cases b <;> simp <;> omega
  rw [e, Bool.xor_self, begun_zero hx]
theorem self_imgs {x : List Int} (hx : 0 < x.length) (t : Bool) : x ∈ imgs x t := (mem_imgs hx).mpr ⟨0, false, ways_f t, (begun_zero hx).symm⟩
theorem imgs_eq {x y : List Int} (hx : 0 < x.length) {t : Bool} (h : y ∈ imgs x t) : imgs y t = imgs x t := by
  have hl := imgs_at_len h
  have hy : 0 < y.length := by omega
  obtain ⟨p, b, hb, e⟩ := (mem_imgs hx).mp h
  unfold imgs
  refine sort_eq ((List.perm_ext_iff_of_nodup (nodup_imgK y t) (nodup_imgK x t)).mpr fun z => ?_)
  have m1 : z ∈ imgK y t ↔ z ∈ imgs y t := ((List.mergeSort_perm (imgK y t) leI).mem_iff).symm
  have m2 : z ∈ imgK x t ↔ z ∈ imgs x t := ((List.mergeSort_perm (imgK x t) leI).mem_iff).symm
  rw [m1, m2, mem_imgs hx, mem_imgs hy]
  constructor
  · rintro ⟨q, c, hc, e2⟩
    exact ⟨_, _, ways_xor hb hc, by rw [e2, e, begun_begun hx]⟩
  · rintro ⟨q, c, hc, e2⟩
    have e3 := begun_back hx p b
    rw [← e] at e3
    have e4 := begun_begun hy (if b then p else -p) q b c
    rw [e3] at e4
    exact ⟨_, _, ways_xor hb hc, e2.trans e4⟩
theorem form_mem {x : List Int} (hx : 0 < x.length) (t : Bool) : form x t ∈ imgs x t := by
  obtain ⟨r, h⟩ := imgs_cons hx t
  rw [h]
  exact List.mem_cons_self
theorem form_form {x : List Int} (hx : 0 < x.length) (t : Bool) : form (form x t) t = form x t := by
  have h := imgs_eq hx (form_mem hx t)
  unfold form at h ⊢
  rw [h]
theorem form_len {x : List Int} (hx : 0 < x.length) (t : Bool) : (form x t).length = x.length := imgs_at_len (form_mem hx t)
theorem form_iff {x y : List Int} (hx : 0 < x.length) (hy : 0 < y.length) (t : Bool) : form y t = form x t ↔ y ∈ imgs x t := by
  constructor
  · intro h
    have h1 := imgs_eq hx (form_mem hx t)
    have h2 := imgs_eq hy (form_mem hy t)
    rw [h, h1] at h2
    rw [h2]
    exact self_imgs hy t
  · intro h
    unfold form
    rw [imgs_eq hx h]
theorem move_iff {x y : List Int} (hx : 0 < x.length) (t : Bool) : (move x y t).isSome = true ↔ y ∈ imgs x t := by
  rw [show y ∈ imgs x t ↔ y ∈ imgK x t from (List.mergeSort_perm (imgK x t) leI).mem_iff, mem_imgK]
  unfold move
  rw [List.findSome?_isSome_iff]
  constructor
  · rintro ⟨k, hk, h⟩
    rw [Option.isSome_map, List.find?_isSome] at h
    obtain ⟨b, hb, h⟩ := h
    exact ⟨k, b, List.mem_range.mp hk, hb, (of_decide_eq_true h).symm⟩
  · rintro ⟨k, b, hk, hb, e⟩
    refine ⟨k, List.mem_range.mpr hk, ?_⟩
    rw [Option.isSome_map, List.find?_isSome]
    exact ⟨b, hb, decide_eq_true e.symm⟩

/-! the repeat -/
theorem begun_add {x : List Int} (hx : 0 < x.length) {a : Int} (h : begun x a false = x) (c : Int) : begun x (a + c) false = begun x c false := by
  have e := begun_begun hx a c false false
  rw [h] at e
  simpa using e.symm
theorem begun_sub {x : List Int} (hx : 0 < x.length) {a c : Int} (h : begun x a false = begun x c false) : begun x (c - a) false = x := by
  have e1 := begun_begun hx a (-a) false false
  have e2 := begun_begun hx c (-a) false false
  rw [h, e2] at e1
  simp only [Bool.false_eq_true, if_false, Bool.xor_self] at e1
  rw [show c - a = c + -a by omega, e1, show a + -a = 0 by omega, begun_zero hx]
theorem begun_mul {x : List Int} (hx : 0 < x.length) {a : Int} (h : begun x a false = x) : ∀ (m : Nat) (c : Int), begun x (a * m + c) false = begun x c false
  | 0, c => by simp
  | m + 1, c => by
    rw [show a * ((m + 1 : Nat) : Int) + c = a + (a * m + c) by rw [Int.natCast_succ, Int.mul_add]; omega, begun_add hx h]
    exact begun_mul hx h m c
theorem begun_modp {x : List Int} (hx : 0 < x.length) {p : Nat} (h : begun x p false = x) (c : Nat) : begun x (c : Nat) false = begun x ((c % p : Nat) : Int) false := by
  have e := begun_mul hx h (c / p) ((c % p : Nat) : Int)
  have q : (p : Int) * ((c / p : Nat) : Int) + ((c % p : Nat) : Int) = (c : Int) := by
    have := Nat.div_add_mod c p
    exact_mod_cast this
  rw [q] at e
  exact e
theorem begun_full {x : List Int} (hx : 0 < x.length) : begun x x.length false = x := by
  rw [begun_mod hx, Int.emod_self, begun_zero hx]
theorem repP_iff {x : List Int} (hx : 0 < x.length) (p : Nat) : repP x p = true ↔ x.length % p = 0 ∧ begun x p false = x := by
  unfold repP
  rw [Bool.and_eq_true, decide_eq_true_iff, List.all_eq_true]
  refine and_congr Iff.rfl ⟨fun h => ?_, fun h k hk => ?_⟩
  · refine (begun_ext hx rfl fun k hk => ?_).symm
    have := of_decide_eq_true (h k (List.mem_range.mpr hk))
    rw [this]
    simp only [Bool.false_eq_true, if_false]
    rw [Int.add_comm]
  · have e := at_begun hx p false (k : Int)
    rw [h] at e
    rw [decide_eq_true_iff, e]
    simp only [Bool.false_eq_true, if_false]
    rw [Int.add_comm]
theorem rep_spec {x : List Int} (hx : 0 < x.length) : 1 ≤ rep x ∧ rep x ≤ x.length ∧ x.length % rep x = 0 ∧ begun x (rep x) false = x ∧ ∀ d : Nat, 1 ≤ d → d < rep x → repP x d = false := by
  unfold rep
  cases h : (List.range (x.length - 1)).find? (fun k => repP x (1 + k)) with
  | none =>
    simp only [Option.map_none, Option.getD_none]
    refine ⟨hx, Nat.le_refl _, Nat.mod_self _, begun_full hx, fun d h1 h2 => ?_⟩
    have := List.find?_eq_none.mp h (d - 1) (List.mem_range.mpr (by omega))
    rw [show 1 + (d - 1) = d by omega] at this
    exact Bool.not_eq_true _ ▸ this
  | some k =>
    simp only [Option.map_some, Option.getD_some]
    have hp := List.find?_some h
    have hm := List.mem_range.mp (List.mem_of_find?_eq_some h)
    obtain ⟨e1, e2⟩ := (repP_iff hx (1 + k)).mp hp
    refine ⟨by omega, by omega, e1, e2, fun d h1 h2 => ?_⟩
    obtain ⟨_, as, bs, e, hb⟩ := List.find?_eq_some_iff_append.mp h
    have hk : as.length = k := by
      have q : (List.range (x.length - 1))[as.length]? = some k := by rw [e]; simp
      rw [List.getElem?_range (by
        have := congrArg List.length e
        simp at this
        omega)] at q
      exact Option.some.inj q
    have hd : d - 1 ∈ as := by
      have q : (List.range (x.length - 1))[d - 1]? = some (d - 1) := List.getElem?_range (by omega)
      rw [e, List.getElem?_append_left (by omega)] at q
      exact List.mem_of_getElem? q
    have := hb _ hd
    rw [show 1 + (d - 1) = d by omega] at this
    simpa using this
theorem no_less {x : List Int} (hx : 0 < x.length) : ∀ d : Nat, 1 ≤ d → d < rep x → begun x d false ≠ x := by
  obtain ⟨h1, h2, _, _, h5⟩ := rep_spec hx
  intro d
  induction d using Nat.strongRecOn with
  | ind d ih =>
    intro d1 d2 e
    by_cases c : x.length % d = 0
    · have := (repP_iff hx d).mpr ⟨c, e⟩
      rw [h5 d d1 d2] at this
      cases this
    · have lt := Nat.mod_lt x.length (show 0 < d by omega)
      refine ih (x.length % d) lt (by omega) (by omega) ?_
      have q := begun_modp hx e x.length
      rw [begun_full hx] at q
      exact q.symm
theorem imgs_shift {x : List Int} (hx : 0 < x.length) : (imgs x false).length = rep x := by
  obtain ⟨h1, h2, h3, h4, _⟩ := rep_spec hx
  unfold imgs
  rw [List.length_mergeSort]
  have nd : ((List.range (rep x)).map fun k : Nat => begun x (k : Nat) false).Nodup := by
    unfold List.Nodup
    rw [List.pairwise_map]
    refine List.Pairwise.imp_of_mem (fun {a b} ha hb (hlt : a < b) e => ?_) List.pairwise_lt_range
    have q := begun_sub hx e
    rw [show ((b : Int) - (a : Int)) = ((b - a : Nat) : Int) by omega] at q
    exact no_less hx (b - a) (by omega) (by have := List.mem_range.mp hb; omega) q
  have pm := (List.perm_ext_iff_of_nodup (nodup_imgK x false) nd).mpr fun y => by
    rw [mem_imgK, List.mem_map]
    constructor
    · rintro ⟨k, b, hk, hb, e⟩
      have hb : b = false := by simpa [ways] using hb
      subst hb
      exact ⟨k % rep x, List.mem_range.mpr (Nat.mod_lt _ (by omega)), (e.trans (begun_modp hx h4 k)).symm⟩
    · rintro ⟨k, hk, e⟩
      exact ⟨k, false, by have := List.mem_range.mp hk; omega, ways_f _, e.symm⟩
  rw [pm.length_eq, List.length_map, List.length_range]

/-! names -/
theorem idx_inj {l : List Int} {a b : Int} (ha : a ∈ l) (h : l.idxOf a = l.idxOf b) : a = b := by
  have h1 : l.idxOf a < l.length := List.idxOf_lt_length_of_mem ha
  have e1 := List.getElem_idxOf h1
  have h2 : l.idxOf b < l.length := by omega
  have e2 := List.getElem_idxOf h2
  rw [← e1, ← e2]
  congr 1
theorem named_get {x : List Int} {k : Nat} (h : k < x.length) : (named x)[k]? = some (((cols x).idxOf x[k] : Nat) : Int) := by
  unfold named
  rw [List.getElem?_map, List.getElem?_eq_getElem h]
  rfl
theorem named_pat {x y : List Int} (h : named x = named y) {i j : Nat} (hi : i < x.length) (hj : j < x.length) (hi' : i < y.length) (hj' : j < y.length) (e : x[i] = x[j]) : y[i] = y[j] := by
  have a1 := named_get hi
  have a2 := named_get hj
  have b1 := named_get hi'
  have b2 := named_get hj'
  rw [h, b1] at a1
  rw [h, b2] at a2
  have c1 := Option.some.inj a1
  have c2 := Option.some.inj a2
  rw [e] at c1
  exact idx_inj (mem_cols.mpr (List.getElem_mem hi')) (by omega)
theorem named_map {x y : List Int} (h : named x = named y) : ∃ f : Int → Int, (∀ a ∈ x, ∀ b ∈ x, f a = f b → a = b) ∧ y = x.map f := by
  have hl : x.length = y.length := by rw [← named_len x, ← named_len y, h]
  refine ⟨fun a => y.getD (x.idxOf a) 0, fun a ha b hb e => ?_, ?_⟩
  · have h1 := List.idxOf_lt_length_of_mem ha
    have h2 := List.idxOf_lt_length_of_mem hb
    rw [← List.getElem_idxOf h1, ← List.getElem_idxOf h2]
    refine named_pat h.symm (by omega) (by omega) h1 h2 ?_
    have e : y.getD (x.idxOf a) 0 = y.getD (x.idxOf b) 0 := e
    rw [List.getD_eq_getElem?_getD, List.getD_eq_getElem?_getD, List.getElem?_eq_getElem (by omega), List.getElem?_eq_getElem (by omega)] at e
    exact e
  · refine List.ext_getElem (by rw [List.length_map, hl]) fun k h1 h2 => ?_
    rw [List.getElem_map]
    have hk : k < x.length := by omega
    have m : x[k] ∈ x := List.getElem_mem hk
    have h3 := List.idxOf_lt_length_of_mem m
    rw [List.getD_eq_getElem?_getD, List.getElem?_eq_getElem (by omega)]
    exact (named_pat h h3 hk (by omega) h1 (List.getElem_idxOf h3)).symm
theorem cols_map {f : Int → Int} : ∀ {x ks : List Int}, (∀ a ∈ ks ++ x, ∀ b ∈ ks ++ x, f a = f b → a = b) → (x.map f).foldl addK (ks.map f) = (x.foldl addK ks).map f
  | [], _, _ => rfl
  | a :: x, ks, h => by
    rw [List.map_cons, List.foldl_cons, List.foldl_cons]
    have e : addK (ks.map f) (f a) = (addK ks a).map f := by
      unfold addK
      by_cases c : a ∈ ks
      · rw [if_pos c, if_pos (List.mem_map.mpr ⟨a, c, rfl⟩)]
      · have n : ¬ f a ∈ ks.map f := fun q => by
          obtain ⟨b, hb, e⟩ := List.mem_map.mp q
          have := h b (by simp [hb]) a (by simp) e
          exact c (this ▸ hb)
        rw [if_neg c, if_neg n, List.map_append]
        rfl
    rw [e]
    refine cols_map fun b hb c hc => h b ?_ c ?_
    · rcases List.mem_append.mp hb with hb | hb
      · rcases mem_addK.mp hb with hb | hb
        · exact List.mem_append_left _ hb
        · rw [hb]; simp
      · exact List.mem_append_right _ (List.mem_cons_of_mem _ hb)
    · rcases List.mem_append.mp hc with hb | hb
      · rcases mem_addK.mp hb with hb | hb
        · exact List.mem_append_left _ hb
        · rw [hb]; simp
      · exact List.mem_append_right _ (List.mem_cons_of_mem _ hb)
theorem idx_map {f : Int → Int} {a : Int} : ∀ {l : List Int}, (∀ b ∈ l, f b = f a → b = a) → (l.map f).idxOf (f a) = l.idxOf a
  | [], _ => rfl
  | b :: l, h => by
    rw [List.map_cons, List.idxOf_cons, List.idxOf_cons, idx_map fun c hc => h c (List.mem_cons_of_mem _ hc)]
    by_cases c : b = a
    · rw [c]
      simp
    · have n : ¬ f b = f a := fun q => c (h b List.mem_cons_self q)
      rw [beq_eq_false_iff_ne.mpr c, beq_eq_false_iff_ne.mpr n]
theorem named_of_map {x : List Int} {f : Int → Int} (h : ∀ a ∈ x, ∀ b ∈ x, f a = f b → a = b) : named (x.map f) = named x := by
  have hc : cols (x.map f) = (cols x).map f := cols_map (ks := []) (by simpa using h)
  unfold named
  rw [hc, List.map_map]
  refine List.map_congr_left fun a ha => ?_
  show (((cols x).map f).idxOf (f a) : Int) = _
  rw [idx_map fun b hb e => h b (mem_cols.mp hb) a ha e]
theorem begun_map {x : List Int} (hx : 0 < x.length) (f : Int → Int) (p : Int) (b : Bool) : begun (x.map f) p b = (begun x p b).map f := by
  have am : ∀ i, at_ (x.map f) i = f (at_ x i) := fun i => by
    unfold at_
    rw [List.length_map]
    have h1 := Int.emod_nonneg i (show (x.length : Int) ≠ 0 by omega)
    have h2 := Int.emod_lt_of_pos i (show (0 : Int) < x.length by omega)
    rw [List.getD_eq_getElem?_getD, List.getD_eq_getElem?_getD, List.getElem?_map, List.getElem?_eq_getElem (by omega)]
    rfl
  unfold begun
  rw [List.length_map, List.map_map]
  exact List.map_congr_left fun k _ => am _
theorem begun_mem {x : List Int} (hx : 0 < x.length) {p : Int} {b : Bool} {a : Int} (h : a ∈ begun x p b) : a ∈ x := by
  unfold begun at h
  obtain ⟨k, _, e⟩ := List.mem_map.mp h
  subst e
  unfold at_
  have h1 := Int.emod_nonneg (if b = true then p - (k : Int) else p + (k : Int)) (show (x.length : Int) ≠ 0 by omega)
  have h2 := Int.emod_lt_of_pos (if b = true then p - (k : Int) else p + (k : Int)) (show (0 : Int) < x.length by omega)
  rw [List.getD_eq_getElem?_getD, List.getElem?_eq_getElem (by omega)]
  exact List.getElem_mem _
theorem named_begun {x y : List Int} (hx : 0 < x.length) (h : named x = named y) (p : Int) (b : Bool) : named (begun x p b) = named (begun y p b) := by
  obtain ⟨f, hf, e⟩ := named_map h
  rw [e, begun_map hx]
  exact (named_of_map fun a ha c hc q => hf a (begun_mem hx ha) c (begun_mem hx hc) q).symm
theorem head_sort {l : List (List Int)} (h : l ≠ []) : (l.mergeSort leI).headD [] ∈ l ∧ ∀ z ∈ l, leI ((l.mergeSort leI).headD []) z = true := by
  have pm := List.mergeSort_perm l leI
  have so := sort_sorted l
  cases e : l.mergeSort leI with
  | nil => rw [e] at pm; exact absurd pm.symm.eq_nil h
  | cons a r =>
    rw [e] at pm so
    refine ⟨pm.mem_iff.mp List.mem_cons_self, fun z hz => ?_⟩
    rcases List.mem_cons.mp (pm.mem_iff.mpr hz) with q | q
    · rw [q]
      rcases leI_total a a with q | q <;> exact q
    · exact (List.pairwise_cons.mp so).1 z q
theorem head_eq {l m : List (List Int)} (hl : l ≠ []) (h : ∀ z, z ∈ l ↔ z ∈ m) : (l.mergeSort leI).headD [] = (m.mergeSort leI).headD [] := by
  have hm : m ≠ [] := fun e => by
    obtain ⟨a, ha⟩ := List.exists_mem_of_ne_nil l hl
    have := (h a).mp ha
    rw [e] at this
    cases this
  obtain ⟨a1, a2⟩ := head_sort hl
  obtain ⟨b1, b2⟩ := head_sort hm
  exact leI_anti (a2 _ ((h _).mpr b1)) (b2 _ ((h _).mp a1))
theorem names_ne {x : List Int} (hx : 0 < x.length) (t : Bool) : (imgs x t).map named ≠ [] := fun e => imgs_ne hx t (List.map_eq_nil_iff.mp e)
theorem plain_mem {x : List Int} (hx : 0 < x.length) (t : Bool) : ∃ u ∈ imgs x t, named u = plain x t := by
  obtain ⟨h, _⟩ := head_sort (names_ne hx t)
  obtain ⟨u, hu, e⟩ := List.mem_map.mp h
  exact ⟨u, hu, e⟩
theorem plain_iff {x y : List Int} (hx : 0 < x.length) (hy : 0 < y.length) (t : Bool) : plain y t = plain x t ↔ ∃ i ∈ imgs x t, i.length = y.length ∧ named i = named y := by
  constructor
  · intro h
    obtain ⟨u, hu, eu⟩ := plain_mem hy t
    obtain ⟨v, hv, ev⟩ := plain_mem hx t
    have lu := imgs_at_len hu
    have lv := imgs_at_len hv
    have e : named u = named v := by rw [eu, ev, h]
    have yu : y ∈ imgs u t := by
      rw [imgs_eq hy hu]
      exact self_imgs hy t
    obtain ⟨p, b, hb, ep⟩ := (mem_imgs (by omega)).mp yu
    refine ⟨begun v p b, ?_, ?_, ?_⟩
    · rw [← imgs_eq hx hv]
      exact (mem_imgs (by omega)).mpr ⟨p, b, hb, rfl⟩
    · have := congrArg List.length e
      rw [named_len, named_len] at this
      rw [begun_len]
      omega
    · rw [ep]
      exact (named_begun (by omega) e p b).symm
  · rintro ⟨i, hi, li, e⟩
    unfold plain
    refine head_eq (names_ne hy t) fun z => ?_
    rw [List.mem_map, List.mem_map, ← imgs_eq hx hi]
    have hi0 : 0 < i.length := by omega
    constructor
    · rintro ⟨w, hw, ew⟩
      obtain ⟨p, b, hb, ep⟩ := (mem_imgs hy).mp hw
      exact ⟨begun i p b, (mem_imgs hi0).mpr ⟨p, b, hb, rfl⟩, by rw [named_begun hi0 e, ← ep, ew]⟩
    · rintro ⟨w, hw, ew⟩
      obtain ⟨p, b, hb, ep⟩ := (mem_imgs hi0).mp hw
      exact ⟨begun y p b, (mem_imgs hy).mpr ⟨p, b, hb, rfl⟩, by rw [← named_begun hi0 e, ← ep, ew]⟩
end math
end K94

set_option Elab.async false
set_option linter.all false
set_option maxRecDepth 10000
set_option maxHeartbeats 4000000
set_option autoImplicit false
namespace K94
open PySem L2 Dv
/-! ### what is drawn -/
section drawn
theorem order_of_ok (ns : List Int) (a b c m q : Int) (hb : 0 ≤ b) (hm : 0 < m) (hm2 : m < 1000) (hq : 0 < q) (hq2 : q < 1000) : ∃ (x : List Int) (b' c' : Int), 0 ≤ b' ∧ 0 < x.length ∧ (x.length : Int) ≤ m ∧ (∀ z ∈ x, 0 ≤ z ∧ z < q) ∧
    c__law_order_of [.io (PoolD ns a b c), .im (.int m), .im (.int q)] = some (.v (DL x), [.io (PoolD ns a b' c'), .no, .no]) := by
  unfold c__law_order_of
  rw [run_eq 3 7 _ _ rfl]
  show ∃ (x : List Int) (b' c' : Int), _ ∧ _ ∧ _ ∧ _ ∧ done 3 7 (S.seq _ (S.seq _ (S.seq _ _)) [.io (PoolD ns a b c), .im (.int m), .im (.int q), .no, .no, .no, .no]) = _
  obtain ⟨v, b1, c1, v0, v1, hb1, d1⟩ := draw_ok ns a b c m hb hm (by omega)
  have e1 : p__law_order_of_1 [.io (PoolD ns a b c), .im (.int m), .im (.int q), .no, .no, .no, .no] = some (.nx [.io (PoolD ns a b1 c1), .im (.int m), .im (.int q), .im (.int (1 + v)), .no, .no, .no]) := by
    simp -implicitDefEqProofs only [p__law_order_of_1, List.cons_append, List.nil_append, List.replicate, Nat.reduceSub, S.seq, S.set, S.asg, S.own, S.ite, S.nil, S.ret, S.retN, S.drop, S.par, S.brk, S.cont, E.cb, E.var, E.c, E.cons, E.nil, E.rds, E.fzs, E.bin, E.un, E.and, E.or, E.not, E.bool, E.ite, E.lst, E.tup, E.call, E.callB, E.slice, E.part, E.noPart, E.chain, E.dK, E.dT, E.isi, isi, E.mt, E.tyD, E.chg,
    T.ofE, T.tru, T.truth, T.and, T.or, T.not, T.yes, rd, fz, nf, G.name, G.sub, G.setIx, setIm, setOw, putOw, own, kill, argsOf, iosOf, putBack, scalD, rOk, oLen, oInt, oAdd, oSub, oMul, oMod, oDiv, oPow, oNeg, oLt, oLe, oGt, oGe, oIx, oIsN, oIsNotN, oIsB, oIsNotB, isN, isB, oEq, oNe, oIn, oNotIn, oSl, oList, oTuple, muAppend, muExtend, muPop, retOf, keepIo, giveE, wipeE, freeE, turnS, turnL, I.any,
    List.getElem?_cons_succ, List.getElem?_cons_zero, List.set_cons_succ, List.set_cons_zero, Option.bind_some, Option.map_some, Option.getD_some, List.map_cons, List.map_nil, List.take_succ_cons, List.take_zero, List.length_cons, List.length_nil, List.length_map, List.nodup_cons, List.not_mem_nil, List.mem_cons, not_false_eq_true, and_self, or_self, List.nodup_nil, List.all_cons, List.all_nil, Bool.and_self, Bool.and_true, Bool.true_and, Bool.false_and, Bool.and_false, Bool.or_true, Bool.true_or, Bool.or_false, Bool.false_or, Bool.not_true, Bool.not_false, if_true, if_false, ↓reduceIte, Bool.false_eq_true, beq_self_eq_true, reduceCtorEq, String.reduceBEq, Nat.reduceEqDiff, Nat.reduceAdd, Nat.zero_add, Nat.reduceLeDiff, beq_true, beq_false, Int.zero_add, d1]
  rw [seq_nx e1]
  have e2 : ∃ (y : List Int) (b2 c2 : Int), 0 ≤ b2 ∧ (y.length : Int) = 1 + v ∧ (∀ z ∈ y, 0 ≤ z ∧ z < q) ∧ p__law_order_of_2 [.io (PoolD ns a b1 c1), .im (.int m), .im (.int q), .im (.int (1 + v)), .no, .no, .no] = some (.nx [.io (PoolD ns a b2 c2), .im (.int m), .im (.int q), .im (.int (1 + v)), .im (DL y), .no, .no]) := by
    obtain ⟨y, e', h1, ⟨b2, c2, h2, h3⟩, h4, h5⟩ := lc_rel (enc := fun k : Nat => D.int (k : Int)) (dec := D.int) (is := [6]) (g := G.name 6) (t := T.yes) (f := E.call [true, false] c__law_draw (E.cons (E.var 0) (E.cons (E.var 2) E.nil)))
      (Inv := fun e => ∃ b c : Int, 0 ≤ b ∧ e = [.io (PoolD ns a b c), .im (.int m), .im (.int q), .im (.int (1 + v)), .no, .no, .no]) (Ok := fun z : Int => 0 ≤ z ∧ z < q)
      (rng1_of (f := E.var 3) (e := [.io (PoolD ns a b1 c1), .im (.int m), .im (.int q), .im (.int (1 + v)), .no, .no, .no]) rfl rfl (by omega) (by omega)) (by rw [List.length_range]; omega) rfl ⟨b1, c1, hb1, rfl⟩ (fun k hk e => by
        rintro ⟨b, c, hb, rfl⟩
        obtain ⟨w, b', c', w0, w1, hb', d⟩ := draw_ok ns a b c q hb hq (by omega)
        refine ⟨w, _, ?_, ⟨b', c', hb', rfl⟩, w0, w1⟩
        simp -implicitDefEqProofs only [List.cons_append, List.nil_append, List.replicate, Nat.reduceSub, S.seq, S.set, S.asg, S.own, S.ite, S.nil, S.ret, S.retN, S.drop, S.par, S.brk, S.cont, E.cb, E.var, E.c, E.cons, E.nil, E.rds, E.fzs, E.bin, E.un, E.and, E.or, E.not, E.bool, E.ite, E.lst, E.tup, E.call, E.callB, E.slice, E.part, E.noPart, E.chain, E.dK, E.dT, E.isi, isi, E.mt, E.tyD, E.chg,
    T.ofE, T.tru, T.truth, T.and, T.or, T.not, T.yes, rd, fz, nf, G.name, G.sub, G.setIx, setIm, setOw, putOw, own, kill, argsOf, iosOf, putBack, scalD, rOk, oLen, oInt, oAdd, oSub, oMul, oMod, oDiv, oPow, oNeg, oLt, oLe, oGt, oGe, oIx, oIsN, oIsNotN, oIsB, oIsNotB, isN, isB, oEq, oNe, oIn, oNotIn, oSl, oList, oTuple, muAppend, muExtend, muPop, retOf, keepIo, giveE, wipeE, freeE, turnS, turnL, I.any,
    List.getElem?_cons_succ, List.getElem?_cons_zero, List.set_cons_succ, List.set_cons_zero, Option.bind_some, Option.map_some, Option.getD_some, List.map_cons, List.map_nil, List.take_succ_cons, List.take_zero, List.length_cons, List.length_nil, List.length_map, List.nodup_cons, List.not_mem_nil, List.mem_cons, not_false_eq_true, and_self, or_self, List.nodup_nil, List.all_cons, List.all_nil, Bool.and_self, Bool.and_true, Bool.true_and, Bool.false_and, Bool.and_false, Bool.or_true, Bool.true_or, Bool.or_false, Bool.false_or, Bool.not_true, Bool.not_false, if_true, if_false, ↓reduceIte, Bool.false_eq_true, beq_self_eq_true, reduceCtorEq, String.reduceBEq, Nat.reduceEqDiff, Nat.reduceAdd, Nat.zero_add, Nat.reduceLeDiff, beq_true, beq_false, Int.zero_add, d])
    subst h3
    refine ⟨y, b2, c2, h2, by rw [h4, List.length_range]; omega, h5, ?_⟩
    simp -implicitDefEqProofs only [p__law_order_of_2, S.set, S.asg, h1, List.cons_append, List.nil_append, List.replicate, Nat.reduceSub, S.seq, S.set, S.asg, S.own, S.ite, S.nil, S.ret, S.retN, S.drop, S.par, S.brk, S.cont, E.cb, E.var, E.c, E.cons, E.nil, E.rds, E.fzs, E.bin, E.un, E.and, E.or, E.not, E.bool, E.ite, E.lst, E.tup, E.call, E.callB, E.slice, E.part, E.noPart, E.chain, E.dK, E.dT, E.isi, isi, E.mt, E.tyD, E.chg,
    T.ofE, T.tru, T.truth, T.and, T.or, T.not, T.yes, rd, fz, nf, G.name, G.sub, G.setIx, setIm, setOw, putOw, own, kill, argsOf, iosOf, putBack, scalD, rOk, oLen, oInt, oAdd, oSub, oMul, oMod, oDiv, oPow, oNeg, oLt, oLe, oGt, oGe, oIx, oIsN, oIsNotN, oIsB, oIsNotB, isN, isB, oEq, oNe, oIn, oNotIn, oSl, oList, oTuple, muAppend, muExtend, muPop, retOf, keepIo, giveE, wipeE, freeE, turnS, turnL, I.any,
    List.getElem?_cons_succ, List.getElem?_cons_zero, List.set_cons_succ, List.set_cons_zero, Option.bind_some, Option.map_some, Option.getD_some, List.map_cons, List.map_nil, List.take_succ_cons, List.take_zero, List.length_cons, List.length_nil, List.length_map, List.nodup_cons, List.not_mem_nil, List.mem_cons, not_false_eq_true, and_self, or_self, List.nodup_nil, List.all_cons, List.all_nil, Bool.and_self, Bool.and_true, Bool.true_and, Bool.false_and, Bool.and_false, Bool.or_true, Bool.true_or, Bool.or_false, Bool.false_or, Bool.not_true, Bool.not_false, if_true, if_false, ↓reduceIte, Bool.false_eq_true, beq_self_eq_true, reduceCtorEq, String.reduceBEq, Nat.reduceEqDiff, Nat.reduceAdd, Nat.zero_add, Nat.reduceLeDiff, beq_true, beq_false, Int.zero_add]
  obtain ⟨y, b2, c2, hb2, hy, hyq, e2⟩ := e2
  rw [seq_nx e2]
  have hyn : y.length = (1 + v).toNat := by omega
  obtain ⟨w, b3, c3, w0, w1, hb3, d3⟩ := draw_ok ns a b2 c2 3 hb2 (by decide) (by decide)
  by_cases cw : w = 0
  · obtain ⟨u, b4, c4, u0, u1, hb4, d4⟩ := draw_ok ns a b3 c3 (1 + v) hb3 (by omega) (by omega)
    have pl : (y.take (1 + u).toNat).length = (1 + u).toNat := by rw [List.length_take]; omega
    have e4 : p__law_order_of_4 [.io (PoolD ns a b3 c3), .im (.int m), .im (.int q), .im (.int (1 + v)), .im (DL y), .no, .no] = some (.nx [.io (PoolD ns a b4 c4), .im (.int m), .im (.int q), .im (.int (1 + v)), .im (DL y), .im (DL (y.take (1 + u).toNat)), .no]) := by
      have q1 : cut (y.map D.int) none (some (1 + u)) = (y.take (1 + u).toNat).map D.int := by rw [cut_map, cut_take _ (by omega)]
      simp -implicitDefEqProofs only [p__law_order_of_4, List.cons_append, List.nil_append, List.replicate, Nat.reduceSub, S.seq, S.set, S.asg, S.own, S.ite, S.nil, S.ret, S.retN, S.drop, S.par, S.brk, S.cont, E.cb, E.var, E.c, E.cons, E.nil, E.rds, E.fzs, E.bin, E.un, E.and, E.or, E.not, E.bool, E.ite, E.lst, E.tup, E.call, E.callB, E.slice, E.part, E.noPart, E.chain, E.dK, E.dT, E.isi, isi, E.mt, E.tyD, E.chg,
    T.ofE, T.tru, T.truth, T.and, T.or, T.not, T.yes, rd, fz, nf, G.name, G.sub, G.setIx, setIm, setOw, putOw, own, kill, argsOf, iosOf, putBack, scalD, rOk, oLen, oInt, oAdd, oSub, oMul, oMod, oDiv, oPow, oNeg, oLt, oLe, oGt, oGe, oIx, oIsN, oIsNotN, oIsB, oIsNotB, isN, isB, oEq, oNe, oIn, oNotIn, oSl, oList, oTuple, muAppend, muExtend, muPop, retOf, keepIo, giveE, wipeE, freeE, turnS, turnL, I.any,
    List.getElem?_cons_succ, List.getElem?_cons_zero, List.set_cons_succ, List.set_cons_zero, Option.bind_some, Option.map_some, Option.getD_some, List.map_cons, List.map_nil, List.take_succ_cons, List.take_zero, List.length_cons, List.length_nil, List.length_map, List.nodup_cons, List.not_mem_nil, List.mem_cons, not_false_eq_true, and_self, or_self, List.nodup_nil, List.all_cons, List.all_nil, Bool.and_self, Bool.and_true, Bool.true_and, Bool.false_and, Bool.and_false, Bool.or_true, Bool.true_or, Bool.or_false, Bool.false_or, Bool.not_true, Bool.not_false, if_true, if_false, ↓reduceIte, Bool.false_eq_true, beq_self_eq_true, reduceCtorEq, String.reduceBEq, Nat.reduceEqDiff, Nat.reduceAdd, Nat.zero_add, Nat.reduceLeDiff, beq_true, beq_false, Int.zero_add, d4, q1]
    obtain ⟨r, hr⟩ : ∃ r : Int, (1 + v) - (1 + v).fmod (1 + u) = r := ⟨_, rfl⟩
    have f1 := Int.fmod_nonneg_of_pos (1 + v) (show 0 < 1 + u by omega)
    have f2 := Int.fmod_lt_of_pos (1 + v) (show 0 < 1 + u by omega)
    have z1 : ((((List.replicate (1 + v).toNat (y.take (1 + u).toNat)).flatten).take r.toNat).length : Int) = r := by
      rw [List.length_take, rep_len, pl]
      have : r.toNat ≤ (1 + v).toNat * (1 + u).toNat := by
        have : 1 * (1 + v).toNat ≤ (1 + u).toNat * (1 + v).toNat := Nat.mul_le_mul_right _ (by omega)
        rw [Nat.mul_comm] 
        omega
      omega
    have e5 : p__law_order_of_5 [.io (PoolD ns a b4 c4), .im (.int m), .im (.int q), .im (.int (1 + v)), .im (DL y), .im (DL (y.take (1 + u).toNat)), .no] =
        some (.nx [.io (PoolD ns a b4 c4), .im (.int m), .im (.int q), .im (.int (1 + v)), .im (DL (((List.replicate (1 + v).toNat (y.take (1 + u).toNat)).flatten).take r.toNat)), .im (DL (y.take (1 + u).toNat)), .no]) := by
      have n0 : ¬ ((1 : Int) + u = 0) := by omega
      have pl2 : (((y.take (1 + u).toNat).length : Nat) : Int) = 1 + u := by rw [pl]; omega
      have le : (1 + u).toNat * (1 + v).toNat ≤ 1000 * 1000 := Nat.mul_le_mul (by omega) (by omega)
      have ok : (-(2 ^ 63) ≤ 1 + v ∧ 1 + v < 2 ^ 63 ∧ (y.take (1 + u).toNat).length * (1 + v).toNat ≤ 1000000) := ⟨by omega, by omega, by rw [pl]; omega⟩
      have q1 : cut ((List.replicate (1 + v).toNat ((y.take (1 + u).toNat).map D.int)).flatten) none (some r) = (((List.replicate (1 + v).toNat (y.take (1 + u).toNat)).flatten).take r.toNat).map D.int := by
        rw [rep_map, cut_map, cut_take _ (by omega)]
      simp -implicitDefEqProofs only [p__law_order_of_5, List.cons_append, List.nil_append, List.replicate, Nat.reduceSub, S.seq, S.set, S.asg, S.own, S.ite, S.nil, S.ret, S.retN, S.drop, S.par, S.brk, S.cont, E.cb, E.var, E.c, E.cons, E.nil, E.rds, E.fzs, E.bin, E.un, E.and, E.or, E.not, E.bool, E.ite, E.lst, E.tup, E.call, E.callB, E.slice, E.part, E.noPart, E.chain, E.dK, E.dT, E.isi, isi, E.mt, E.tyD, E.chg,
    T.ofE, T.tru, T.truth, T.and, T.or, T.not, T.yes, rd, fz, nf, G.name, G.sub, G.setIx, setIm, setOw, putOw, own, kill, argsOf, iosOf, putBack, scalD, rOk, oLen, oInt, oAdd, oSub, oMul, oMod, oDiv, oPow, oNeg, oLt, oLe, oGt, oGe, oIx, oIsN, oIsNotN, oIsB, oIsNotB, isN, isB, oEq, oNe, oIn, oNotIn, oSl, oList, oTuple, muAppend, muExtend, muPop, retOf, keepIo, giveE, wipeE, freeE, turnS, turnL, I.any,
    List.getElem?_cons_succ, List.getElem?_cons_zero, List.set_cons_succ, List.set_cons_zero, Option.bind_some, Option.map_some, Option.getD_some, List.map_cons, List.map_nil, List.take_succ_cons, List.take_zero, List.length_cons, List.length_nil, List.length_map, List.nodup_cons, List.not_mem_nil, List.mem_cons, not_false_eq_true, and_self, or_self, List.nodup_nil, List.all_cons, List.all_nil, Bool.and_self, Bool.and_true, Bool.true_and, Bool.false_and, Bool.and_false, Bool.or_true, Bool.true_or, Bool.or_false, Bool.false_or, Bool.not_true, Bool.not_false, if_true, if_false, ↓reduceIte, Bool.false_eq_true, beq_self_eq_true, reduceCtorEq, String.reduceBEq, Nat.reduceEqDiff, Nat.reduceAdd, Nat.zero_add, Nat.reduceLeDiff, beq_true, beq_false, Int.zero_add, ok, pl2, n0, ne_eq, hr, q1]
    have e3 : p__law_order_of_3 [.io (PoolD ns a b2 c2), .im (.int m), .im (.int q), .im (.int (1 + v)), .im (DL y), .no, .no] =
        some (.nx [.io (PoolD ns a b4 c4), .im (.int m), .im (.int q), .im (.int (1 + v)), .im (DL (((List.replicate (1 + v).toNat (y.take (1 + u).toNat)).flatten).take r.toNat)), .im (DL (y.take (1 + u).toNat)), .no]) := by
      have t : T.ofE (E.bin oEq (E.call [true, false] c__law_draw (E.cons (E.var 0) (E.cons (E.c (.int 3)) E.nil))) (E.c (.int 0))) [.io (PoolD ns a b2 c2), .im (.int m), .im (.int q), .im (.int (1 + v)), .im (DL y), .no, .no] = some (true, [.io (PoolD ns a b3 c3), .im (.int m), .im (.int q), .im (.int (1 + v)), .im (DL y), .no, .no]) := by
        simp -implicitDefEqProofs only [List.cons_append, List.nil_append, List.replicate, Nat.reduceSub, S.seq, S.set, S.asg, S.own, S.ite, S.nil, S.ret, S.retN, S.drop, S.par, S.brk, S.cont, E.cb, E.var, E.c, E.cons, E.nil, E.rds, E.fzs, E.bin, E.un, E.and, E.or, E.not, E.bool, E.ite, E.lst, E.tup, E.call, E.callB, E.slice, E.part, E.noPart, E.chain, E.dK, E.dT, E.isi, isi, E.mt, E.tyD, E.chg,
    T.ofE, T.tru, T.truth, T.and, T.or, T.not, T.yes, rd, fz, nf, G.name, G.sub, G.setIx, setIm, setOw, putOw, own, kill, argsOf, iosOf, putBack, scalD, rOk, oLen, oInt, oAdd, oSub, oMul, oMod, oDiv, oPow, oNeg, oLt, oLe, oGt, oGe, oIx, oIsN, oIsNotN, oIsB, oIsNotB, isN, isB, oEq, oNe, oIn, oNotIn, oSl, oList, oTuple, muAppend, muExtend, muPop, retOf, keepIo, giveE, wipeE, freeE, turnS, turnL, I.any,
    List.getElem?_cons_succ, List.getElem?_cons_zero, List.set_cons_succ, List.set_cons_zero, Option.bind_some, Option.map_some, Option.getD_some, List.map_cons, List.map_nil, List.take_succ_cons, List.take_zero, List.length_cons, List.length_nil, List.length_map, List.nodup_cons, List.not_mem_nil, List.mem_cons, not_false_eq_true, and_self, or_self, List.nodup_nil, List.all_cons, List.all_nil, Bool.and_self, Bool.and_true, Bool.true_and, Bool.false_and, Bool.and_false, Bool.or_true, Bool.true_or, Bool.or_false, Bool.false_or, Bool.not_true, Bool.not_false, if_true, if_false, ↓reduceIte, Bool.false_eq_true, beq_self_eq_true, reduceCtorEq, String.reduceBEq, Nat.reduceEqDiff, Nat.reduceAdd, Nat.zero_add, Nat.reduceLeDiff, beq_true, beq_false, Int.zero_add, d3, eqD_int, decide_eq_true cw]
      exact (ite_t t).trans ((seq_nx e4).trans e5)
    rw [seq_nx e3]
    refine ⟨((List.replicate (1 + v).toNat (y.take (1 + u).toNat)).flatten).take r.toNat, b4, c4, hb4, by omega, by omega, fun z hz => hyq z (List.mem_of_mem_take (rep_mem (List.mem_of_mem_take hz))), ?_⟩
    simp -implicitDefEqProofs only [p__law_order_of_6, done, List.cons_append, List.nil_append, List.replicate, Nat.reduceSub, S.seq, S.set, S.asg, S.own, S.ite, S.nil, S.ret, S.retN, S.drop, S.par, S.brk, S.cont, E.cb, E.var, E.c, E.cons, E.nil, E.rds, E.fzs, E.bin, E.un, E.and, E.or, E.not, E.bool, E.ite, E.lst, E.tup, E.call, E.callB, E.slice, E.part, E.noPart, E.chain, E.dK, E.dT, E.isi, isi, E.mt, E.tyD, E.chg,
    T.ofE, T.tru, T.truth, T.and, T.or, T.not, T.yes, rd, fz, nf, G.name, G.sub, G.setIx, setIm, setOw, putOw, own, kill, argsOf, iosOf, putBack, scalD, rOk, oLen, oInt, oAdd, oSub, oMul, oMod, oDiv, oPow, oNeg, oLt, oLe, oGt, oGe, oIx, oIsN, oIsNotN, oIsB, oIsNotB, isN, isB, oEq, oNe, oIn, oNotIn, oSl, oList, oTuple, muAppend, muExtend, muPop, retOf, keepIo, giveE, wipeE, freeE, turnS, turnL, I.any,
    List.getElem?_cons_succ, List.getElem?_cons_zero, List.set_cons_succ, List.set_cons_zero, Option.bind_some, Option.map_some, Option.getD_some, List.map_cons, List.map_nil, List.take_succ_cons, List.take_zero, List.length_cons, List.length_nil, List.length_map, List.nodup_cons, List.not_mem_nil, List.mem_cons, not_false_eq_true, and_self, or_self, List.nodup_nil, List.all_cons, List.all_nil, Bool.and_self, Bool.and_true, Bool.true_and, Bool.false_and, Bool.and_false, Bool.or_true, Bool.true_or, Bool.or_false, Bool.false_or, Bool.not_true, Bool.not_false, if_true, if_false, ↓reduceIte, Bool.false_eq_true, beq_self_eq_true, reduceCtorEq, String.reduceBEq, Nat.reduceEqDiff, Nat.reduceAdd, Nat.zero_add, Nat.reduceLeDiff, beq_true, beq_false, Int.zero_add]
  · have e3 : p__law_order_of_3 [.io (PoolD ns a b2 c2), .im (.int m), .im (.int q), .im (.int (1 + v)), .im (DL y), .no, .no] = some (.nx [.io (PoolD ns a b3 c3), .im (.int m), .im (.int q), .im (.int (1 + v)), .im (DL y), .no, .no]) := by
      have t : T.ofE (E.bin oEq (E.call [true, false] c__law_draw (E.cons (E.var 0) (E.cons (E.c (.int 3)) E.nil))) (E.c (.int 0))) [.io (PoolD ns a b2 c2), .im (.int m), .im (.int q), .im (.int (1 + v)), .im (DL y), .no, .no] = some (false, [.io (PoolD ns a b3 c3), .im (.int m), .im (.int q), .im (.int (1 + v)), .im (DL y), .no, .no]) := by
        simp -implicitDefEqProofs only [List.cons_append, List.nil_append, List.replicate, Nat.reduceSub, S.seq, S.set, S.asg, S.own, S.ite, S.nil, S.ret, S.retN, S.drop, S.par, S.brk, S.cont, E.cb, E.var, E.c, E.cons, E.nil, E.rds, E.fzs, E.bin, E.un, E.and, E.or, E.not, E.bool, E.ite, E.lst, E.tup, E.call, E.callB, E.slice, E.part, E.noPart, E.chain, E.dK, E.dT, E.isi, isi, E.mt, E.tyD, E.chg,
    T.ofE, T.tru, T.truth, T.and, T.or, T.not, T.yes, rd, fz, nf, G.name, G.sub, G.setIx, setIm, setOw, putOw, own, kill, argsOf, iosOf, putBack, scalD, rOk, oLen, oInt, oAdd, oSub, oMul, oMod, oDiv, oPow, oNeg, oLt, oLe, oGt, oGe, oIx, oIsN, oIsNotN, oIsB, oIsNotB, isN, isB, oEq, oNe, oIn, oNotIn, oSl, oList, oTuple, muAppend, muExtend, muPop, retOf, keepIo, giveE, wipeE, freeE, turnS, turnL, I.any,
    List.getElem?_cons_succ, List.getElem?_cons_zero, List.set_cons_succ, List.set_cons_zero, Option.bind_some, Option.map_some, Option.getD_some, List.map_cons, List.map_nil, List.take_succ_cons, List.take_zero, List.length_cons, List.length_nil, List.length_map, List.nodup_cons, List.not_mem_nil, List.mem_cons, not_false_eq_true, and_self, or_self, List.nodup_nil, List.all_cons, List.all_nil, Bool.and_self, Bool.and_true, Bool.true_and, Bool.false_and, Bool.and_false, Bool.or_true, Bool.true_or, Bool.or_false, Bool.false_or, Bool.not_true, Bool.not_false, if_true, if_false, ↓reduceIte, Bool.false_eq_true, beq_self_eq_true, reduceCtorEq, String.reduceBEq, Nat.reduceEqDiff, Nat.reduceAdd, Nat.zero_add, Nat.reduceLeDiff, beq_true, beq_false, Int.zero_add, d3, eqD_int, decide_eq_false cw]
      exact ite_f t
    rw [seq_nx e3]
    refine ⟨y, b3, c3, hb3, by omega, by omega, hyq, ?_⟩
    simp -implicitDefEqProofs only [p__law_order_of_6, done, List.cons_append, List.nil_append, List.replicate, Nat.reduceSub, S.seq, S.set, S.asg, S.own, S.ite, S.nil, S.ret, S.retN, S.drop, S.par, S.brk, S.cont, E.cb, E.var, E.c, E.cons, E.nil, E.rds, E.fzs, E.bin, E.un, E.and, E.or, E.not, E.bool, E.ite, E.lst, E.tup, E.call, E.callB, E.slice, E.part, E.noPart, E.chain, E.dK, E.dT, E.isi, isi, E.mt, E.tyD, E.chg,
    T.ofE, T.tru, T.truth, T.and, T.or, T.not, T.yes, rd, fz, nf, G.name, G.sub, G.setIx, setIm, setOw, putOw, own, kill, argsOf, iosOf, putBack, scalD, rOk, oLen, oInt, oAdd, oSub, oMul, oMod, oDiv, oPow, oNeg, oLt, oLe, oGt, oGe, oIx, oIsN, oIsNotN, oIsB, oIsNotB, isN, isB, oEq, oNe, oIn, oNotIn, oSl, oList, oTuple, muAppend, muExtend, muPop, retOf, keepIo, giveE, wipeE, freeE, turnS, turnL, I.any,
    List.getElem?_cons_succ, List.getElem?_cons_zero, List.set_cons_succ, List.set_cons_zero, Option.bind_some, Option.map_some, Option.getD_some, List.map_cons, List.map_nil, List.take_succ_cons, List.take_zero, List.length_cons, List.length_nil, List.length_map, List.nodup_cons, List.not_mem_nil, List.mem_cons, not_false_eq_true, and_self, or_self, List.nodup_nil, List.all_cons, List.all_nil, Bool.and_self, Bool.and_true, Bool.true_and, Bool.false_and, Bool.and_false, Bool.or_true, Bool.true_or, Bool.or_false, Bool.false_or, Bool.not_true, Bool.not_false, if_true, if_false, ↓reduceIte, Bool.false_eq_true, beq_self_eq_true, reduceCtorEq, String.reduceBEq, Nat.reduceEqDiff, Nat.reduceAdd, Nat.zero_add, Nat.reduceLeDiff, beq_true, beq_false, Int.zero_add]
theorem pick_ok (ns : List Int) (a b c : Int) (hb : 0 ≤ b) (ds : List D) (h0 : 0 < ds.length) (h1 : ds.length < 1000) : ∃ (d : D) (b' c' : Int), 0 ≤ b' ∧ d ∈ ds ∧ c__law_pick [.io (PoolD ns a b c), .im (.lst ds)] = some (.v d, [.io (PoolD ns a b' c'), .no]) := by
  obtain ⟨v, b1, c1, v0, v1, hb1, d1⟩ := draw_ok ns a b c ds.length hb (by omega) (by omega)
  obtain ⟨d, hd⟩ := atI_in (xs := ds) v0 v1
  refine ⟨d, b1, c1, hb1, ?_, ?_⟩
  · unfold atI at hd
    cases hx : ixN ds.length v with
    | none => rw [hx] at hd; cases hd
    | some j =>
      rw [hx] at hd
      exact List.mem_of_getElem? hd
  · unfold c__law_pick
    rw [run_eq 2 2 _ _ rfl]
    simp -implicitDefEqProofs only [b__law_pick, p__law_pick_1, done, List.cons_append, List.nil_append, List.replicate, Nat.reduceSub, S.seq, S.set, S.asg, S.own, S.ite, S.nil, S.ret, S.retN, S.drop, S.par, S.brk, S.cont, E.cb, E.var, E.c, E.cons, E.nil, E.rds, E.fzs, E.bin, E.un, E.and, E.or, E.not, E.bool, E.ite, E.lst, E.tup, E.call, E.callB, E.slice, E.part, E.noPart, E.chain, E.dK, E.dT, E.isi, isi, E.mt, E.tyD, E.chg,
    T.ofE, T.tru, T.truth, T.and, T.or, T.not, T.yes, rd, fz, nf, G.name, G.sub, G.setIx, setIm, setOw, putOw, own, kill, argsOf, iosOf, putBack, scalD, rOk, oLen, oInt, oAdd, oSub, oMul, oMod, oDiv, oPow, oNeg, oLt, oLe, oGt, oGe, oIx, oIsN, oIsNotN, oIsB, oIsNotB, isN, isB, oEq, oNe, oIn, oNotIn, oSl, oList, oTuple, muAppend, muExtend, muPop, retOf, keepIo, giveE, wipeE, freeE, turnS, turnL, I.any,
    List.getElem?_cons_succ, List.getElem?_cons_zero, List.set_cons_succ, List.set_cons_zero, Option.bind_some, Option.map_some, Option.getD_some, List.map_cons, List.map_nil, List.take_succ_cons, List.take_zero, List.length_cons, List.length_nil, List.length_map, List.nodup_cons, List.not_mem_nil, List.mem_cons, not_false_eq_true, and_self, or_self, List.nodup_nil, List.all_cons, List.all_nil, Bool.and_self, Bool.and_true, Bool.true_and, Bool.false_and, Bool.and_false, Bool.or_true, Bool.true_or, Bool.or_false, Bool.false_or, Bool.not_true, Bool.not_false, if_true, if_false, ↓reduceIte, Bool.false_eq_true, beq_self_eq_true, reduceCtorEq, String.reduceBEq, Nat.reduceEqDiff, Nat.reduceAdd, Nat.zero_add, Nat.reduceLeDiff, beq_true, beq_false, Int.zero_add, d1, hd]
end drawn
end K94

set_option Elab.async false
set_option linter.all false
set_option maxRecDepth 10000
set_option maxHeartbeats 4000000
set_option autoImplicit false
namespace K94
open PySem L2 Dv
/-! ### a turn of the law -/
section turn
theorem same_self {n : Nat} {x : D} (h : Pl n x) : c__law_same n [.im x, .im x] = some (.v (.bl true), [.no, .no]) := by
  rw [same_ok n x x h h, @decide_eq_true (x = x) (Classical.propDecidable _) rfl]
theorem Pl_DL {n : Nat} {xs : List Int} (h : xs.length ≤ 1000000) : Pl (n + 2) (DL xs) := .lst _ (fun d hd => by
  obtain ⟨i, _, rfl⟩ := List.mem_map.mp hd
  exact .int i) (by rw [List.length_map]; exact h)
theorem Pl_DLL {n : Nat} {xs : List (List Int)} (h : xs.length ≤ 1000000) (h2 : ∀ y ∈ xs, y.length ≤ 1000000) : Pl (n + 3) (DLL xs) := .lst _ (fun d hd => by
  obtain ⟨i, hi, rfl⟩ := List.mem_map.mp hd
  exact Pl_DL (h2 i hi)) (by rw [List.length_map]; exact h)
theorem Pl_MD {n : Nat} (m : Option (Nat × Bool)) : Pl (n + 2) (MD m) := by
  cases m with
  | none => exact .non
  | some m =>
    refine .tup _ (fun d hd => ?_) (by show 2 ≤ 1000000; decide)
    simp only [List.mem_cons, List.not_mem_nil, or_false] at hd
    rcases hd with rfl | rfl
    · exact .int _
    · exact .bl _
theorem isN_MD (m : Option (Nat × Bool)) : (!isN (MD m)) = m.isSome := by cases m <;> rfl
theorem turned_ways (t b : Bool) : (if t then true else !b) = decide (b ∈ ways t) := by cases t <;> cases b <;> decide
theorem imgs_sh {x : List Int} (hx : 0 < x.length) (hl : x.length ≤ 1000) : c__law_images [.im (DL x), .im (.str "shifted")] = some (.f (DLL (imgs x false)), [.no, .no]) := law_images_ok hx hl false
theorem turn_ok (ns : List Int) (a b c k : Int) (hb : 0 ≤ b) : ∃ (a' b' c' : Int) (e' : DE), 0 ≤ b' ∧ q_law_2 [.im (.sq (ns.map D.int)), .ow (PoolD ns a b c), .im (.int k), .no, .no, .no, .no, .no, .no, .no, .no, .no, .no, .no, .no, .no, .no] = some (.nx e') ∧ kill e' [2, 3, 4, 5, 6, 7, 8, 9, 10, 11, 12, 13, 14] = [.im (.sq (ns.map D.int)), .ow (PoolD ns a' b' c'), .no, .no, .no, .no, .no, .no, .no, .no, .no, .no, .no, .no, .no, .no, .no] := by
  obtain ⟨a1, b1, c1, hb1, h3⟩ := next_ok ns a b c
  have s3 : p_law_3 [.im (.sq (ns.map D.int)), .ow (PoolD ns a b c), .im (.int k), .no, .no, .no, .no, .no, .no, .no, .no, .no, .no, .no, .no, .no, .no] = some (.nx [.im (.sq (ns.map D.int)), .ow (PoolD ns a1 b1 c1), .im (.int k), .no, .no, .no, .no, .no, .no, .no, .no, .no, .no, .no, .no, .no, .no]) := by
    simp -implicitDefEqProofs only [p_law_3, List.cons_append, List.nil_append, List.replicate, Nat.reduceSub, S.seq, S.set, S.asg, S.own, S.ite, S.nil, S.ret, S.retN, S.drop, S.par, S.brk, S.cont, E.cb, E.var, E.c, E.cons, E.nil, E.rds, E.fzs, E.bin, E.un, E.and, E.or, E.not, E.bool, E.ite, E.lst, E.tup, E.call, E.callB, E.slice, E.part, E.noPart, E.chain, E.dK, E.dT, E.isi, isi, E.mt, E.tyD, E.chg,
    T.ofE, T.tru, T.truth, T.and, T.or, T.not, T.yes, rd, fz, nf, G.name, G.sub, G.setIx, setIm, setOw, putOw, own, kill, argsOf, iosOf, putBack, scalD, rOk, oLen, oInt, oAdd, oSub, oMul, oMod, oDiv, oPow, oNeg, oLt, oLe, oGt, oGe, oIx, oIsN, oIsNotN, oIsB, oIsNotB, isN, isB, oEq, oNe, oIn, oNotIn, oSl, oList, oTuple, muAppend, muExtend, muPop, retOf, keepIo, giveE, wipeE, freeE, turnS, turnL, I.any,
    List.getElem?_cons_succ, List.getElem?_cons_zero, List.set_cons_succ, List.set_cons_zero, Option.bind_some, Option.map_some, Option.getD_some, List.map_cons, List.map_nil, List.take_succ_cons, List.take_zero, List.length_cons, List.length_nil, List.length_map, List.nodup_cons, List.not_mem_nil, List.mem_cons, not_false_eq_true, and_self, or_self, List.nodup_nil, List.all_cons, List.all_nil, Bool.and_self, Bool.and_true, Bool.true_and, Bool.false_and, Bool.and_false, Bool.or_true, Bool.true_or, Bool.or_false, Bool.false_or, Bool.not_true, Bool.not_false, if_true, if_false, ↓reduceIte, Bool.false_eq_true, beq_self_eq_true, reduceCtorEq, String.reduceBEq, Nat.reduceEqDiff, Nat.reduceAdd, Nat.zero_add, Nat.reduceLeDiff, beq_true, beq_false, Int.zero_add, h3]
  obtain ⟨d, b2, c2, hb2, hd, h4⟩ := pick_ok ns a1 b1 c1 hb1 [.str "shifted", .str "turned"] (by decide) (by decide)
  obtain ⟨t, rfl⟩ : ∃ t, d = KD t := by
    simp only [List.mem_cons, List.not_mem_nil, or_false] at hd
    rcases hd with rfl | rfl
    · exact ⟨false, rfl⟩
    · exact ⟨true, rfl⟩
  have s4 : p_law_4 [.im (.sq (ns.map D.int)), .ow (PoolD ns a1 b1 c1), .im (.int k), .no, .no, .no, .no, .no, .no, .no, .no, .no, .no, .no, .no, .no, .no] = some (.nx [.im (.sq (ns.map D.int)), .ow (PoolD ns a1 b2 c2), .im (.int k), .im (KD t), .no, .no, .no, .no, .no, .no, .no, .no, .no, .no, .no, .no, .no]) := by
    simp -implicitDefEqProofs only [p_law_4, List.cons_append, List.nil_append, List.replicate, Nat.reduceSub, S.seq, S.set, S.asg, S.own, S.ite, S.nil, S.ret, S.retN, S.drop, S.par, S.brk, S.cont, E.cb, E.var, E.c, E.cons, E.nil, E.rds, E.fzs, E.bin, E.un, E.and, E.or, E.not, E.bool, E.ite, E.lst, E.tup, E.call, E.callB, E.slice, E.part, E.noPart, E.chain, E.dK, E.dT, E.isi, isi, E.mt, E.tyD, E.chg,
    T.ofE, T.tru, T.truth, T.and, T.or, T.not, T.yes, rd, fz, nf, G.name, G.sub, G.setIx, setIm, setOw, putOw, own, kill, argsOf, iosOf, putBack, scalD, rOk, oLen, oInt, oAdd, oSub, oMul, oMod, oDiv, oPow, oNeg, oLt, oLe, oGt, oGe, oIx, oIsN, oIsNotN, oIsB, oIsNotB, isN, isB, oEq, oNe, oIn, oNotIn, oSl, oList, oTuple, muAppend, muExtend, muPop, retOf, keepIo, giveE, wipeE, freeE, turnS, turnL, I.any,
    List.getElem?_cons_succ, List.getElem?_cons_zero, List.set_cons_succ, List.set_cons_zero, Option.bind_some, Option.map_some, Option.getD_some, List.map_cons, List.map_nil, List.take_succ_cons, List.take_zero, List.length_cons, List.length_nil, List.length_map, List.nodup_cons, List.not_mem_nil, List.mem_cons, not_false_eq_true, and_self, or_self, List.nodup_nil, List.all_cons, List.all_nil, Bool.and_self, Bool.and_true, Bool.true_and, Bool.false_and, Bool.and_false, Bool.or_true, Bool.true_or, Bool.or_false, Bool.false_or, Bool.not_true, Bool.not_false, if_true, if_false, ↓reduceIte, Bool.false_eq_true, beq_self_eq_true, reduceCtorEq, String.reduceBEq, Nat.reduceEqDiff, Nat.reduceAdd, Nat.zero_add, Nat.reduceLeDiff, beq_true, beq_false, Int.zero_add, h4]
  obtain ⟨x, b3, c3, hb3, hx, hx9, hxq, h5⟩ := order_of_ok ns a1 b2 c2 9 3 hb2 (by decide) (by decide) (by decide) (by decide)
  have hl : x.length ≤ 1000 := by omega
  have hl6 : x.length ≤ 1000000 := by omega
  have hi6 : (imgs x t).length ≤ 1000000 := by have := imgs_len (x := x) (t := t); omega
  have s5 : p_law_5 [.im (.sq (ns.map D.int)), .ow (PoolD ns a1 b2 c2), .im (.int k), .im (KD t), .no, .no, .no, .no, .no, .no, .no, .no, .no, .no, .no, .no, .no] = some (.nx [.im (.sq (ns.map D.int)), .ow (PoolD ns a1 b3 c3), .im (.int k), .im (KD t), .im (DL x), .no, .no, .no, .no, .no, .no, .no, .no, .no, .no, .no, .no]) := by
    simp -implicitDefEqProofs only [p_law_5, List.cons_append, List.nil_append, List.replicate, Nat.reduceSub, S.seq, S.set, S.asg, S.own, S.ite, S.nil, S.ret, S.retN, S.drop, S.par, S.brk, S.cont, E.cb, E.var, E.c, E.cons, E.nil, E.rds, E.fzs, E.bin, E.un, E.and, E.or, E.not, E.bool, E.ite, E.lst, E.tup, E.call, E.callB, E.slice, E.part, E.noPart, E.chain, E.dK, E.dT, E.isi, isi, E.mt, E.tyD, E.chg,
    T.ofE, T.tru, T.truth, T.and, T.or, T.not, T.yes, rd, fz, nf, G.name, G.sub, G.setIx, setIm, setOw, putOw, own, kill, argsOf, iosOf, putBack, scalD, rOk, oLen, oInt, oAdd, oSub, oMul, oMod, oDiv, oPow, oNeg, oLt, oLe, oGt, oGe, oIx, oIsN, oIsNotN, oIsB, oIsNotB, isN, isB, oEq, oNe, oIn, oNotIn, oSl, oList, oTuple, muAppend, muExtend, muPop, retOf, keepIo, giveE, wipeE, freeE, turnS, turnL, I.any,
    List.getElem?_cons_succ, List.getElem?_cons_zero, List.set_cons_succ, List.set_cons_zero, Option.bind_some, Option.map_some, Option.getD_some, List.map_cons, List.map_nil, List.take_succ_cons, List.take_zero, List.length_cons, List.length_nil, List.length_map, List.nodup_cons, List.not_mem_nil, List.mem_cons, not_false_eq_true, and_self, or_self, List.nodup_nil, List.all_cons, List.all_nil, Bool.and_self, Bool.and_true, Bool.true_and, Bool.false_and, Bool.and_false, Bool.or_true, Bool.true_or, Bool.or_false, Bool.false_or, Bool.not_true, Bool.not_false, if_true, if_false, ↓reduceIte, Bool.false_eq_true, beq_self_eq_true, reduceCtorEq, String.reduceBEq, Nat.reduceEqDiff, Nat.reduceAdd, Nat.zero_add, Nat.reduceLeDiff, beq_true, beq_false, Int.zero_add, h5]
  have s6 : p_law_6 [.im (.sq (ns.map D.int)), .ow (PoolD ns a1 b3 c3), .im (.int k), .im (KD t), .im (DL x), .no, .no, .no, .no, .no, .no, .no, .no, .no, .no, .no, .no] = some (.nx [.im (.sq (ns.map D.int)), .ow (PoolD ns a1 b3 c3), .im (.int k), .im (KD t), .im (DL x), .im (DL x), .no, .no, .no, .no, .no, .no, .no, .no, .no, .no, .no]) := by
    simp -implicitDefEqProofs only [p_law_6, List.cons_append, List.nil_append, List.replicate, Nat.reduceSub, S.seq, S.set, S.asg, S.own, S.ite, S.nil, S.ret, S.retN, S.drop, S.par, S.brk, S.cont, E.cb, E.var, E.c, E.cons, E.nil, E.rds, E.fzs, E.bin, E.un, E.and, E.or, E.not, E.bool, E.ite, E.lst, E.tup, E.call, E.callB, E.slice, E.part, E.noPart, E.chain, E.dK, E.dT, E.isi, isi, E.mt, E.tyD, E.chg,
    T.ofE, T.tru, T.truth, T.and, T.or, T.not, T.yes, rd, fz, nf, G.name, G.sub, G.setIx, setIm, setOw, putOw, own, kill, argsOf, iosOf, putBack, scalD, rOk, oLen, oInt, oAdd, oSub, oMul, oMod, oDiv, oPow, oNeg, oLt, oLe, oGt, oGe, oIx, oIsN, oIsNotN, oIsB, oIsNotB, isN, isB, oEq, oNe, oIn, oNotIn, oSl, oList, oTuple, muAppend, muExtend, muPop, retOf, keepIo, giveE, wipeE, freeE, turnS, turnL, I.any,
    List.getElem?_cons_succ, List.getElem?_cons_zero, List.set_cons_succ, List.set_cons_zero, Option.bind_some, Option.map_some, Option.getD_some, List.map_cons, List.map_nil, List.take_succ_cons, List.take_zero, List.length_cons, List.length_nil, List.length_map, List.nodup_cons, List.not_mem_nil, List.mem_cons, not_false_eq_true, and_self, or_self, List.nodup_nil, List.all_cons, List.all_nil, Bool.and_self, Bool.and_true, Bool.true_and, Bool.false_and, Bool.and_false, Bool.or_true, Bool.true_or, Bool.or_false, Bool.false_or, Bool.not_true, Bool.not_false, if_true, if_false, ↓reduceIte, Bool.false_eq_true, beq_self_eq_true, reduceCtorEq, String.reduceBEq, Nat.reduceEqDiff, Nat.reduceAdd, Nat.zero_add, Nat.reduceLeDiff, beq_true, beq_false, Int.zero_add]
  have s7 : p_law_7 [.im (.sq (ns.map D.int)), .ow (PoolD ns a1 b3 c3), .im (.int k), .im (KD t), .im (DL x), .im (DL x), .no, .no, .no, .no, .no, .no, .no, .no, .no, .no, .no] = some (.nx [.im (.sq (ns.map D.int)), .ow (PoolD ns a1 b3 c3), .im (.int k), .im (KD t), .im (DL x), .im (DL x), .im (DLL (imgs x t)), .no, .no, .no, .no, .no, .no, .no, .no, .no, .no]) := by
    simp -implicitDefEqProofs only [p_law_7, List.cons_append, List.nil_append, List.replicate, Nat.reduceSub, S.seq, S.set, S.asg, S.own, S.ite, S.nil, S.ret, S.retN, S.drop, S.par, S.brk, S.cont, E.cb, E.var, E.c, E.cons, E.nil, E.rds, E.fzs, E.bin, E.un, E.and, E.or, E.not, E.bool, E.ite, E.lst, E.tup, E.call, E.callB, E.slice, E.part, E.noPart, E.chain, E.dK, E.dT, E.isi, isi, E.mt, E.tyD, E.chg,
    T.ofE, T.tru, T.truth, T.and, T.or, T.not, T.yes, rd, fz, nf, G.name, G.sub, G.setIx, setIm, setOw, putOw, own, kill, argsOf, iosOf, putBack, scalD, rOk, oLen, oInt, oAdd, oSub, oMul, oMod, oDiv, oPow, oNeg, oLt, oLe, oGt, oGe, oIx, oIsN, oIsNotN, oIsB, oIsNotB, isN, isB, oEq, oNe, oIn, oNotIn, oSl, oList, oTuple, muAppend, muExtend, muPop, retOf, keepIo, giveE, wipeE, freeE, turnS, turnL, I.any,
    List.getElem?_cons_succ, List.getElem?_cons_zero, List.set_cons_succ, List.set_cons_zero, Option.bind_some, Option.map_some, Option.getD_some, List.map_cons, List.map_nil, List.take_succ_cons, List.take_zero, List.length_cons, List.length_nil, List.length_map, List.nodup_cons, List.not_mem_nil, List.mem_cons, not_false_eq_true, and_self, or_self, List.nodup_nil, List.all_cons, List.all_nil, Bool.and_self, Bool.and_true, Bool.true_and, Bool.false_and, Bool.and_false, Bool.or_true, Bool.true_or, Bool.or_false, Bool.false_or, Bool.not_true, Bool.not_false, if_true, if_false, ↓reduceIte, Bool.false_eq_true, beq_self_eq_true, reduceCtorEq, String.reduceBEq, Nat.reduceEqDiff, Nat.reduceAdd, Nat.zero_add, Nat.reduceLeDiff, beq_true, beq_false, Int.zero_add, law_images_ok hx hl]
  have q8 := same_self (n := 6) (Pl_DLL (n := 3) hi6 (fun y hy => by rw [imgs_at_len hy]; exact hl6))
  have f6 : (form x t).length ≤ 1000000 := by rw [form_len hx]; exact hl6
  have q8b := same_self (n := 6) (Pl_DL (n := 4) f6)
  have s8 : p_law_8 [.im (.sq (ns.map D.int)), .ow (PoolD ns a1 b3 c3), .im (.int k), .im (KD t), .im (DL x), .im (DL x), .im (DLL (imgs x t)), .no, .no, .no, .no, .no, .no, .no, .no, .no, .no] = some (.nx [.im (.sq (ns.map D.int)), .ow (PoolD ns a1 b3 c3), .im (.int k), .im (KD t), .im (DL x), .im (DL x), .im (DLL (imgs x t)), .no, .no, .no, .no, .no, .no, .no, .no, .no, .no]) := by
    simp -implicitDefEqProofs only [p_law_8, List.cons_append, List.nil_append, List.replicate, Nat.reduceSub, S.seq, S.set, S.asg, S.own, S.ite, S.nil, S.ret, S.retN, S.drop, S.par, S.brk, S.cont, E.cb, E.var, E.c, E.cons, E.nil, E.rds, E.fzs, E.bin, E.un, E.and, E.or, E.not, E.bool, E.ite, E.lst, E.tup, E.call, E.callB, E.slice, E.part, E.noPart, E.chain, E.dK, E.dT, E.isi, isi, E.mt, E.tyD, E.chg,
    T.ofE, T.tru, T.truth, T.and, T.or, T.not, T.yes, rd, fz, nf, G.name, G.sub, G.setIx, setIm, setOw, putOw, own, kill, argsOf, iosOf, putBack, scalD, rOk, oLen, oInt, oAdd, oSub, oMul, oMod, oDiv, oPow, oNeg, oLt, oLe, oGt, oGe, oIx, oIsN, oIsNotN, oIsB, oIsNotB, isN, isB, oEq, oNe, oIn, oNotIn, oSl, oList, oTuple, muAppend, muExtend, muPop, retOf, keepIo, giveE, wipeE, freeE, turnS, turnL, I.any,
    List.getElem?_cons_succ, List.getElem?_cons_zero, List.set_cons_succ, List.set_cons_zero, Option.bind_some, Option.map_some, Option.getD_some, List.map_cons, List.map_nil, List.take_succ_cons, List.take_zero, List.length_cons, List.length_nil, List.length_map, List.nodup_cons, List.not_mem_nil, List.mem_cons, not_false_eq_true, and_self, or_self, List.nodup_nil, List.all_cons, List.all_nil, Bool.and_self, Bool.and_true, Bool.true_and, Bool.false_and, Bool.and_false, Bool.or_true, Bool.true_or, Bool.or_false, Bool.false_or, Bool.not_true, Bool.not_false, if_true, if_false, ↓reduceIte, Bool.false_eq_true, beq_self_eq_true, reduceCtorEq, String.reduceBEq, Nat.reduceEqDiff, Nat.reduceAdd, Nat.zero_add, Nat.reduceLeDiff, beq_true, beq_false, Int.zero_add, images_ok hx hl, form_ok hx hl, atI_form hx, q8, q8b]
  have y10 : decide (form x t = x) = decide (x = form x t) := decide_eq_decide.mpr eq_comm
  have q10 : ∀ b : Bool, c__law_same 6 [.im (.bl b), .im (.bl b)] = some (.v (.bl true), [.no, .no]) := fun b => same_self (n := 6) (.bl b)
  have i10 := is_form_ok (x := form x t) (by rw [form_len hx]; exact hx) (by rw [form_len hx]; exact hl) t
  rw [form_form hx, decide_eq_true rfl] at i10
  have s10 : p_law_10 [.im (.sq (ns.map D.int)), .ow (PoolD ns a1 b3 c3), .im (.int k), .im (KD t), .im (DL x), .im (DL x), .im (DLL (imgs x t)), .no, .no, .no, .no, .no, .no, .no, .no, .no, .no] = some (.nx [.im (.sq (ns.map D.int)), .ow (PoolD ns a1 b3 c3), .im (.int k), .im (KD t), .im (DL x), .im (DL x), .im (DLL (imgs x t)), .no, .no, .no, .no, .no, .no, .no, .no, .no, .no]) := by
    simp -implicitDefEqProofs only [p_law_10, List.cons_append, List.nil_append, List.replicate, Nat.reduceSub, S.seq, S.set, S.asg, S.own, S.ite, S.nil, S.ret, S.retN, S.drop, S.par, S.brk, S.cont, E.cb, E.var, E.c, E.cons, E.nil, E.rds, E.fzs, E.bin, E.un, E.and, E.or, E.not, E.bool, E.ite, E.lst, E.tup, E.call, E.callB, E.slice, E.part, E.noPart, E.chain, E.dK, E.dT, E.isi, isi, E.mt, E.tyD, E.chg,
    T.ofE, T.tru, T.truth, T.and, T.or, T.not, T.yes, rd, fz, nf, G.name, G.sub, G.setIx, setIm, setOw, putOw, own, kill, argsOf, iosOf, putBack, scalD, rOk, oLen, oInt, oAdd, oSub, oMul, oMod, oDiv, oPow, oNeg, oLt, oLe, oGt, oGe, oIx, oIsN, oIsNotN, oIsB, oIsNotB, isN, isB, oEq, oNe, oIn, oNotIn, oSl, oList, oTuple, muAppend, muExtend, muPop, retOf, keepIo, giveE, wipeE, freeE, turnS, turnL, I.any,
    List.getElem?_cons_succ, List.getElem?_cons_zero, List.set_cons_succ, List.set_cons_zero, Option.bind_some, Option.map_some, Option.getD_some, List.map_cons, List.map_nil, List.take_succ_cons, List.take_zero, List.length_cons, List.length_nil, List.length_map, List.nodup_cons, List.not_mem_nil, List.mem_cons, not_false_eq_true, and_self, or_self, List.nodup_nil, List.all_cons, List.all_nil, Bool.and_self, Bool.and_true, Bool.true_and, Bool.false_and, Bool.and_false, Bool.or_true, Bool.true_or, Bool.or_false, Bool.false_or, Bool.not_true, Bool.not_false, if_true, if_false, ↓reduceIte, Bool.false_eq_true, beq_self_eq_true, reduceCtorEq, String.reduceBEq, Nat.reduceEqDiff, Nat.reduceAdd, Nat.zero_add, Nat.reduceLeDiff, beq_true, beq_false, Int.zero_add, is_form_ok hx hl, atI_form hx, eqD_DL, y10, q10, i10]
  have s12 : p_law_12 [.im (.sq (ns.map D.int)), .ow (PoolD ns a1 b3 c3), .im (.int k), .im (KD t), .im (DL x), .im (DL x), .im (DLL (imgs x t)), .no, .no, .no, .no, .no, .no, .no, .no, .no, .no] = some (.nx [.im (.sq (ns.map D.int)), .ow (PoolD ns a1 b3 c3), .im (.int k), .im (KD t), .im (DL x), .im (DL x), .im (DLL (imgs x t)), .im (.int (rep x)), .no, .no, .no, .no, .no, .no, .no, .no, .no]) := by
    simp -implicitDefEqProofs only [p_law_12, List.cons_append, List.nil_append, List.replicate, Nat.reduceSub, S.seq, S.set, S.asg, S.own, S.ite, S.nil, S.ret, S.retN, S.drop, S.par, S.brk, S.cont, E.cb, E.var, E.c, E.cons, E.nil, E.rds, E.fzs, E.bin, E.un, E.and, E.or, E.not, E.bool, E.ite, E.lst, E.tup, E.call, E.callB, E.slice, E.part, E.noPart, E.chain, E.dK, E.dT, E.isi, isi, E.mt, E.tyD, E.chg,
    T.ofE, T.tru, T.truth, T.and, T.or, T.not, T.yes, rd, fz, nf, G.name, G.sub, G.setIx, setIm, setOw, putOw, own, kill, argsOf, iosOf, putBack, scalD, rOk, oLen, oInt, oAdd, oSub, oMul, oMod, oDiv, oPow, oNeg, oLt, oLe, oGt, oGe, oIx, oIsN, oIsNotN, oIsB, oIsNotB, isN, isB, oEq, oNe, oIn, oNotIn, oSl, oList, oTuple, muAppend, muExtend, muPop, retOf, keepIo, giveE, wipeE, freeE, turnS, turnL, I.any,
    List.getElem?_cons_succ, List.getElem?_cons_zero, List.set_cons_succ, List.set_cons_zero, Option.bind_some, Option.map_some, Option.getD_some, List.map_cons, List.map_nil, List.take_succ_cons, List.take_zero, List.length_cons, List.length_nil, List.length_map, List.nodup_cons, List.not_mem_nil, List.mem_cons, not_false_eq_true, and_self, or_self, List.nodup_nil, List.all_cons, List.all_nil, Bool.and_self, Bool.and_true, Bool.true_and, Bool.false_and, Bool.and_false, Bool.or_true, Bool.true_or, Bool.or_false, Bool.false_or, Bool.not_true, Bool.not_false, if_true, if_false, ↓reduceIte, Bool.false_eq_true, beq_self_eq_true, reduceCtorEq, String.reduceBEq, Nat.reduceEqDiff, Nat.reduceAdd, Nat.zero_add, Nat.reduceLeDiff, beq_true, beq_false, Int.zero_add, repeat_ok hx hl]
  obtain ⟨r1, r2, r3, r4, _⟩ := rep_spec hx
  have r0 : ¬ ((rep x : Nat) : Int) = 0 := by omega
  have rm : (x.length : Int).fmod ((rep x : Nat) : Int) = 0 := by
    rw [Int.fmod_eq_emod_of_nonneg _ (by omega), ← Int.natCast_emod, r3]
    rfl
  have s13 : p_law_13 [.im (.sq (ns.map D.int)), .ow (PoolD ns a1 b3 c3), .im (.int k), .im (KD t), .im (DL x), .im (DL x), .im (DLL (imgs x t)), .im (.int (rep x)), .no, .no, .no, .no, .no, .no, .no, .no, .no] = some (.nx [.im (.sq (ns.map D.int)), .ow (PoolD ns a1 b3 c3), .im (.int k), .im (KD t), .im (DL x), .im (DL x), .im (DLL (imgs x t)), .im (.int (rep x)), .no, .no, .no, .no, .no, .no, .no, .no, .no]) := by
    simp -implicitDefEqProofs only [p_law_13, List.cons_append, List.nil_append, List.replicate, Nat.reduceSub, S.seq, S.set, S.asg, S.own, S.ite, S.nil, S.ret, S.retN, S.drop, S.par, S.brk, S.cont, E.cb, E.var, E.c, E.cons, E.nil, E.rds, E.fzs, E.bin, E.un, E.and, E.or, E.not, E.bool, E.ite, E.lst, E.tup, E.call, E.callB, E.slice, E.part, E.noPart, E.chain, E.dK, E.dT, E.isi, isi, E.mt, E.tyD, E.chg,
    T.ofE, T.tru, T.truth, T.and, T.or, T.not, T.yes, rd, fz, nf, G.name, G.sub, G.setIx, setIm, setOw, putOw, own, kill, argsOf, iosOf, putBack, scalD, rOk, oLen, oInt, oAdd, oSub, oMul, oMod, oDiv, oPow, oNeg, oLt, oLe, oGt, oGe, oIx, oIsN, oIsNotN, oIsB, oIsNotB, isN, isB, oEq, oNe, oIn, oNotIn, oSl, oList, oTuple, muAppend, muExtend, muPop, retOf, keepIo, giveE, wipeE, freeE, turnS, turnL, I.any,
    List.getElem?_cons_succ, List.getElem?_cons_zero, List.set_cons_succ, List.set_cons_zero, Option.bind_some, Option.map_some, Option.getD_some, List.map_cons, List.map_nil, List.take_succ_cons, List.take_zero, List.length_cons, List.length_nil, List.length_map, List.nodup_cons, List.not_mem_nil, List.mem_cons, not_false_eq_true, and_self, or_self, List.nodup_nil, List.all_cons, List.all_nil, Bool.and_self, Bool.and_true, Bool.true_and, Bool.false_and, Bool.and_false, Bool.or_true, Bool.true_or, Bool.or_false, Bool.false_or, Bool.not_true, Bool.not_false, if_true, if_false, ↓reduceIte, Bool.false_eq_true, beq_self_eq_true, reduceCtorEq, String.reduceBEq, Nat.reduceEqDiff, Nat.reduceAdd, Nat.zero_add, Nat.reduceLeDiff, beq_true, beq_false, Int.zero_add, ne_eq, r0, rm, eqD_int, eqD_DL, law_begun_ok hx hl6, r4, imgs_sh hx hl, imgs_shift hx, eq_self, decide_true]
  obtain ⟨v, b4, c4, v0, v1, hb4, d4⟩ := draw_ok ns a1 b3 c3 x.length hb3 (by omega) (by omega)
  obtain ⟨u, b5, c5, u0, u1, hb5, d5⟩ := draw_ok ns a1 b4 c4 2 hb4 (by decide) (by decide)
  have s15 : p_law_15 [.im (.sq (ns.map D.int)), .ow (PoolD ns a1 b3 c3), .im (.int k), .im (KD t), .im (DL x), .im (DL x), .im (DLL (imgs x t)), .im (.int (rep x)), .no, .no, .no, .no, .no, .no, .no, .no, .no] = some (.nx [.im (.sq (ns.map D.int)), .ow (PoolD ns a1 b5 c5), .im (.int k), .im (KD t), .im (DL x), .im (DL x), .im (DLL (imgs x t)), .im (.int (rep x)), .ow (DL (begun x v (decide (u = 0)))), .no, .no, .no, .no, .no, .no, .no, .no]) := by
    simp -implicitDefEqProofs only [p_law_15, List.cons_append, List.nil_append, List.replicate, Nat.reduceSub, S.seq, S.set, S.asg, S.own, S.ite, S.nil, S.ret, S.retN, S.drop, S.par, S.brk, S.cont, E.cb, E.var, E.c, E.cons, E.nil, E.rds, E.fzs, E.bin, E.un, E.and, E.or, E.not, E.bool, E.ite, E.lst, E.tup, E.call, E.callB, E.slice, E.part, E.noPart, E.chain, E.dK, E.dT, E.isi, isi, E.mt, E.tyD, E.chg,
    T.ofE, T.tru, T.truth, T.and, T.or, T.not, T.yes, rd, fz, nf, G.name, G.sub, G.setIx, setIm, setOw, putOw, own, kill, argsOf, iosOf, putBack, scalD, rOk, oLen, oInt, oAdd, oSub, oMul, oMod, oDiv, oPow, oNeg, oLt, oLe, oGt, oGe, oIx, oIsN, oIsNotN, oIsB, oIsNotB, isN, isB, oEq, oNe, oIn, oNotIn, oSl, oList, oTuple, muAppend, muExtend, muPop, retOf, keepIo, giveE, wipeE, freeE, turnS, turnL, I.any,
    List.getElem?_cons_succ, List.getElem?_cons_zero, List.set_cons_succ, List.set_cons_zero, Option.bind_some, Option.map_some, Option.getD_some, List.map_cons, List.map_nil, List.take_succ_cons, List.take_zero, List.length_cons, List.length_nil, List.length_map, List.nodup_cons, List.not_mem_nil, List.mem_cons, not_false_eq_true, and_self, or_self, List.nodup_nil, List.all_cons, List.all_nil, Bool.and_self, Bool.and_true, Bool.true_and, Bool.false_and, Bool.and_false, Bool.or_true, Bool.true_or, Bool.or_false, Bool.false_or, Bool.not_true, Bool.not_false, if_true, if_false, ↓reduceIte, Bool.false_eq_true, beq_self_eq_true, reduceCtorEq, String.reduceBEq, Nat.reduceEqDiff, Nat.reduceAdd, Nat.zero_add, Nat.reduceLeDiff, beq_true, beq_false, Int.zero_add, d4, d5, eqD_int, law_begun_ok hx hl6]
  obtain ⟨y, b6, c6, hb6, hyl, hyq, s16⟩ : ∃ (y : List Int) (b6 c6 : Int), 0 ≤ b6 ∧ y.length = x.length ∧ (∀ z ∈ y, 0 ≤ z ∧ z < 3) ∧ p_law_16 [.im (.sq (ns.map D.int)), .ow (PoolD ns a1 b5 c5), .im (.int k), .im (KD t), .im (DL x), .im (DL x), .im (DLL (imgs x t)), .im (.int (rep x)), .ow (DL (begun x v (decide (u = 0)))), .no, .no, .no, .no, .no, .no, .no, .no] = some (.nx [.im (.sq (ns.map D.int)), .ow (PoolD ns a1 b6 c6), .im (.int k), .im (KD t), .im (DL x), .im (DL x), .im (DLL (imgs x t)), .im (.int (rep x)), .ow (DL y), .no, .no, .no, .no, .no, .no, .no, .no]) := by
    have yq : ∀ z ∈ begun x v (decide (u = 0)), 0 ≤ z ∧ z < 3 := fun z hz => hxq z (begun_mem hx hz)
    obtain ⟨w, b6, c6, w0, w1, hb6, d6⟩ := draw_ok ns a1 b5 c5 2 hb5 (by decide) (by decide)
    by_cases cw : w = 0
    · obtain ⟨e, b7, c7, e0, e1, hb7, d7⟩ := draw_ok ns a1 b6 c6 3 hb6 (by decide) (by decide)
      obtain ⟨j, b8, c8, j0, j1, hb8, d8⟩ := draw_ok ns a1 b7 c7 x.length hb7 (by omega) (by omega)
      refine ⟨(begun x v (decide (u = 0))).set j.toNat e, b8, c8, hb8, by rw [List.length_set, begun_len], fun z hz => ?_, ?_⟩
      · rcases List.mem_or_eq_of_mem_set hz with q | q
        · exact yq z q
        · rw [q]; exact ⟨e0, e1⟩
      · have ix : ixN x.length j = some j.toNat := ixN_in j0 j1
        have ds : DL ((begun x v (decide (u = 0))).set j.toNat e) = .lst (((begun x v (decide (u = 0))).map D.int).set j.toNat (.int e)) := by
          show D.lst _ = _
          rw [List.map_set]
        simp -implicitDefEqProofs only [p_law_16, p_law_17, List.cons_append, List.nil_append, List.replicate, Nat.reduceSub, S.seq, S.set, S.asg, S.own, S.ite, S.nil, S.ret, S.retN, S.drop, S.par, S.brk, S.cont, E.cb, E.var, E.c, E.cons, E.nil, E.rds, E.fzs, E.bin, E.un, E.and, E.or, E.not, E.bool, E.ite, E.lst, E.tup, E.call, E.callB, E.slice, E.part, E.noPart, E.chain, E.dK, E.dT, E.isi, isi, E.mt, E.tyD, E.chg,
    T.ofE, T.tru, T.truth, T.and, T.or, T.not, T.yes, rd, fz, nf, G.name, G.sub, G.setIx, setIm, setOw, putOw, own, kill, argsOf, iosOf, putBack, scalD, rOk, oLen, oInt, oAdd, oSub, oMul, oMod, oDiv, oPow, oNeg, oLt, oLe, oGt, oGe, oIx, oIsN, oIsNotN, oIsB, oIsNotB, isN, isB, oEq, oNe, oIn, oNotIn, oSl, oList, oTuple, muAppend, muExtend, muPop, retOf, keepIo, giveE, wipeE, freeE, turnS, turnL, I.any,
    List.getElem?_cons_succ, List.getElem?_cons_zero, List.set_cons_succ, List.set_cons_zero, Option.bind_some, Option.map_some, Option.getD_some, List.map_cons, List.map_nil, List.take_succ_cons, List.take_zero, List.length_cons, List.length_nil, List.length_map, List.nodup_cons, List.not_mem_nil, List.mem_cons, not_false_eq_true, and_self, or_self, List.nodup_nil, List.all_cons, List.all_nil, Bool.and_self, Bool.and_true, Bool.true_and, Bool.false_and, Bool.and_false, Bool.or_true, Bool.true_or, Bool.or_false, Bool.false_or, Bool.not_true, Bool.not_false, if_true, if_false, ↓reduceIte, Bool.false_eq_true, beq_self_eq_true, reduceCtorEq, String.reduceBEq, Nat.reduceEqDiff, Nat.reduceAdd, Nat.zero_add, Nat.reduceLeDiff, beq_true, beq_false, Int.zero_add, d6, d7, d8, eqD_int, cw, decide_true, begun_len, ix, ds]
    · refine ⟨_, b6, c6, hb6, begun_len _ _ _, yq, ?_⟩
      simp -implicitDefEqProofs only [p_law_16, List.cons_append, List.nil_append, List.replicate, Nat.reduceSub, S.seq, S.set, S.asg, S.own, S.ite, S.nil, S.ret, S.retN, S.drop, S.par, S.brk, S.cont, E.cb, E.var, E.c, E.cons, E.nil, E.rds, E.fzs, E.bin, E.un, E.and, E.or, E.not, E.bool, E.ite, E.lst, E.tup, E.call, E.callB, E.slice, E.part, E.noPart, E.chain, E.dK, E.dT, E.isi, isi, E.mt, E.tyD, E.chg,
    T.ofE, T.tru, T.truth, T.and, T.or, T.not, T.yes, rd, fz, nf, G.name, G.sub, G.setIx, setIm, setOw, putOw, own, kill, argsOf, iosOf, putBack, scalD, rOk, oLen, oInt, oAdd, oSub, oMul, oMod, oDiv, oPow, oNeg, oLt, oLe, oGt, oGe, oIx, oIsN, oIsNotN, oIsB, oIsNotB, isN, isB, oEq, oNe, oIn, oNotIn, oSl, oList, oTuple, muAppend, muExtend, muPop, retOf, keepIo, giveE, wipeE, freeE, turnS, turnL, I.any,
    List.getElem?_cons_succ, List.getElem?_cons_zero, List.set_cons_succ, List.set_cons_zero, Option.bind_some, Option.map_some, Option.getD_some, List.map_cons, List.map_nil, List.take_succ_cons, List.take_zero, List.length_cons, List.length_nil, List.length_map, List.nodup_cons, List.not_mem_nil, List.mem_cons, not_false_eq_true, and_self, or_self, List.nodup_nil, List.all_cons, List.all_nil, Bool.and_self, Bool.and_true, Bool.true_and, Bool.false_and, Bool.and_false, Bool.or_true, Bool.true_or, Bool.or_false, Bool.false_or, Bool.not_true, Bool.not_false, if_true, if_false, ↓reduceIte, Bool.false_eq_true, beq_self_eq_true, reduceCtorEq, String.reduceBEq, Nat.reduceEqDiff, Nat.reduceAdd, Nat.zero_add, Nat.reduceLeDiff, beq_true, beq_false, Int.zero_add, d6, eqD_int, cw, decide_false]
  have hy : 0 < y.length := by omega
  have hyl3 : y.length ≤ 1000 := by omega
  have s18 : p_law_18 [.im (.sq (ns.map D.int)), .ow (PoolD ns a1 b6 c6), .im (.int k), .im (KD t), .im (DL x), .im (DL x), .im (DLL (imgs x t)), .im (.int (rep x)), .ow (DL y), .no, .no, .no, .no, .no, .no, .no, .no] = some (.nx [.im (.sq (ns.map D.int)), .ow (PoolD ns a1 b6 c6), .im (.int k), .im (KD t), .im (DL x), .im (DL x), .im (DLL (imgs x t)), .im (.int (rep x)), .im (DL y), .im (MD (move x y t)), .no, .no, .no, .no, .no, .no, .no]) := by
    simp -implicitDefEqProofs only [p_law_18, List.cons_append, List.nil_append, List.replicate, Nat.reduceSub, S.seq, S.set, S.asg, S.own, S.ite, S.nil, S.ret, S.retN, S.drop, S.par, S.brk, S.cont, E.cb, E.var, E.c, E.cons, E.nil, E.rds, E.fzs, E.bin, E.un, E.and, E.or, E.not, E.bool, E.ite, E.lst, E.tup, E.call, E.callB, E.slice, E.part, E.noPart, E.chain, E.dK, E.dT, E.isi, isi, E.mt, E.tyD, E.chg,
    T.ofE, T.tru, T.truth, T.and, T.or, T.not, T.yes, rd, fz, nf, G.name, G.sub, G.setIx, setIm, setOw, putOw, own, kill, argsOf, iosOf, putBack, scalD, rOk, oLen, oInt, oAdd, oSub, oMul, oMod, oDiv, oPow, oNeg, oLt, oLe, oGt, oGe, oIx, oIsN, oIsNotN, oIsB, oIsNotB, isN, isB, oEq, oNe, oIn, oNotIn, oSl, oList, oTuple, muAppend, muExtend, muPop, retOf, keepIo, giveE, wipeE, freeE, turnS, turnL, I.any,
    List.getElem?_cons_succ, List.getElem?_cons_zero, List.set_cons_succ, List.set_cons_zero, Option.bind_some, Option.map_some, Option.getD_some, List.map_cons, List.map_nil, List.take_succ_cons, List.take_zero, List.length_cons, List.length_nil, List.length_map, List.nodup_cons, List.not_mem_nil, List.mem_cons, not_false_eq_true, and_self, or_self, List.nodup_nil, List.all_cons, List.all_nil, Bool.and_self, Bool.and_true, Bool.true_and, Bool.false_and, Bool.and_false, Bool.or_true, Bool.true_or, Bool.or_false, Bool.false_or, Bool.not_true, Bool.not_false, if_true, if_false, ↓reduceIte, Bool.false_eq_true, beq_self_eq_true, reduceCtorEq, String.reduceBEq, Nat.reduceEqDiff, Nat.reduceAdd, Nat.zero_add, Nat.reduceLeDiff, beq_true, beq_false, Int.zero_add, move_to_ok hx hl]
  have q19 := same_self (n := 6) (Pl_MD (n := 4) (move x y t))
  have n19 : (!isN (MD (move x y t))) = decide (form y t = form x t) := by
    rw [isN_MD]
    by_cases q : y ∈ imgs x t
    · rw [(move_iff hx t).mpr q, decide_eq_true ((form_iff hx hy t).mpr q)]
    · rw [decide_eq_false (fun z => q ((form_iff hx hy t).mp z))]
      exact Bool.not_eq_true _ ▸ fun z => q ((move_iff hx t).mp z)
  have s19 : p_law_19 [.im (.sq (ns.map D.int)), .ow (PoolD ns a1 b6 c6), .im (.int k), .im (KD t), .im (DL x), .im (DL x), .im (DLL (imgs x t)), .im (.int (rep x)), .im (DL y), .im (MD (move x y t)), .no, .no, .no, .no, .no, .no, .no] = some (.nx [.im (.sq (ns.map D.int)), .ow (PoolD ns a1 b6 c6), .im (.int k), .im (KD t), .im (DL x), .im (DL x), .im (DLL (imgs x t)), .im (.int (rep x)), .im (DL y), .im (MD (move x y t)), .no, .no, .no, .no, .no, .no, .no]) := by
    simp -implicitDefEqProofs only [p_law_19, List.cons_append, List.nil_append, List.replicate, Nat.reduceSub, S.seq, S.set, S.asg, S.own, S.ite, S.nil, S.ret, S.retN, S.drop, S.par, S.brk, S.cont, E.cb, E.var, E.c, E.cons, E.nil, E.rds, E.fzs, E.bin, E.un, E.and, E.or, E.not, E.bool, E.ite, E.lst, E.tup, E.call, E.callB, E.slice, E.part, E.noPart, E.chain, E.dK, E.dT, E.isi, E.mt, E.tyD, E.chg,
    T.ofE, T.tru, T.truth, T.and, T.or, T.not, T.yes, rd, fz, nf, G.name, G.sub, G.setIx, setIm, setOw, putOw, own, kill, argsOf, iosOf, putBack, scalD, rOk, oInt, oAdd, oSub, oMul, oMod, oDiv, oPow, oNeg, oLt, oLe, oGt, oGe, oIx, oIsN, oIsNotN, oIsB, oIsNotB, oEq, oNe, oIn, oNotIn, oSl, oList, oTuple, muAppend, muExtend, muPop, retOf, keepIo, giveE, wipeE, freeE, turnS, turnL, I.any,
    List.getElem?_cons_succ, List.getElem?_cons_zero, List.set_cons_succ, List.set_cons_zero, Option.bind_some, Option.map_some, Option.getD_some, List.map_cons, List.map_nil, List.take_succ_cons, List.take_zero, List.length_cons, List.length_nil, List.length_map, List.nodup_cons, List.not_mem_nil, List.mem_cons, not_false_eq_true, and_self, or_self, List.nodup_nil, List.all_cons, List.all_nil, Bool.and_self, Bool.and_true, Bool.true_and, Bool.false_and, Bool.and_false, Bool.or_true, Bool.true_or, Bool.or_false, Bool.false_or, Bool.not_true, Bool.not_false, if_true, if_false, ↓reduceIte, Bool.false_eq_true, beq_self_eq_true, reduceCtorEq, String.reduceBEq, Nat.reduceEqDiff, Nat.reduceAdd, Nat.zero_add, Nat.reduceLeDiff, beq_true, beq_false, Int.zero_add, first_move_ok hx hl, q19, n19, form_ok hy hyl3, atI_form hx, eqD_DL, eqD_bl]
  obtain ⟨g, b7, c7, g0, g1, hb7, d7⟩ := draw_ok ns a1 b6 c6 ((x.length : Int) + 2) hb6 (by omega) (by omega)
  obtain ⟨pl, hpl⟩ : ∃ pl, g - 1 = pl := ⟨_, rfl⟩
  have s21 : p_law_21 [.im (.sq (ns.map D.int)), .ow (PoolD ns a1 b6 c6), .im (.int k), .im (KD t), .im (DL x), .im (DL x), .im (DLL (imgs x t)), .im (.int (rep x)), .im (DL y), .im (MD (move x y t)), .no, .no, .no, .no, .no, .no, .no] = some (.nx [.im (.sq (ns.map D.int)), .ow (PoolD ns a1 b7 c7), .im (.int k), .im (KD t), .im (DL x), .im (DL x), .im (DLL (imgs x t)), .im (.int (rep x)), .im (DL y), .im (MD (move x y t)), .im (.int pl), .no, .no, .no, .no, .no, .no]) := by
    simp -implicitDefEqProofs only [p_law_21, List.cons_append, List.nil_append, List.replicate, Nat.reduceSub, S.seq, S.set, S.asg, S.own, S.ite, S.nil, S.ret, S.retN, S.drop, S.par, S.brk, S.cont, E.cb, E.var, E.c, E.cons, E.nil, E.rds, E.fzs, E.bin, E.un, E.and, E.or, E.not, E.bool, E.ite, E.lst, E.tup, E.call, E.callB, E.slice, E.part, E.noPart, E.chain, E.dK, E.dT, E.isi, isi, E.mt, E.tyD, E.chg,
    T.ofE, T.tru, T.truth, T.and, T.or, T.not, T.yes, rd, fz, nf, G.name, G.sub, G.setIx, setIm, setOw, putOw, own, kill, argsOf, iosOf, putBack, scalD, rOk, oLen, oInt, oAdd, oSub, oMul, oMod, oDiv, oPow, oNeg, oLt, oLe, oGt, oGe, oIx, oIsN, oIsNotN, oIsB, oIsNotB, isN, isB, oEq, oNe, oIn, oNotIn, oSl, oList, oTuple, muAppend, muExtend, muPop, retOf, keepIo, giveE, wipeE, freeE, turnS, turnL, I.any,
    List.getElem?_cons_succ, List.getElem?_cons_zero, List.set_cons_succ, List.set_cons_zero, Option.bind_some, Option.map_some, Option.getD_some, List.map_cons, List.map_nil, List.take_succ_cons, List.take_zero, List.length_cons, List.length_nil, List.length_map, List.nodup_cons, List.not_mem_nil, List.mem_cons, not_false_eq_true, and_self, or_self, List.nodup_nil, List.all_cons, List.all_nil, Bool.and_self, Bool.and_true, Bool.true_and, Bool.false_and, Bool.and_false, Bool.or_true, Bool.true_or, Bool.or_false, Bool.false_or, Bool.not_true, Bool.not_false, if_true, if_false, ↓reduceIte, Bool.false_eq_true, beq_self_eq_true, reduceCtorEq, String.reduceBEq, Nat.reduceEqDiff, Nat.reduceAdd, Nat.zero_add, Nat.reduceLeDiff, beq_true, beq_false, Int.zero_add, d7, hpl]
  obtain ⟨h, b8, c8, h0, h1, hb8, d8⟩ := draw_ok ns a1 b7 c7 2 hb7 (by decide) (by decide)
  obtain ⟨bk, hbk⟩ : ∃ bk, decide (h = 0) = bk := ⟨_, rfl⟩
  have s22 : p_law_22 [.im (.sq (ns.map D.int)), .ow (PoolD ns a1 b7 c7), .im (.int k), .im (KD t), .im (DL x), .im (DL x), .im (DLL (imgs x t)), .im (.int (rep x)), .im (DL y), .im (MD (move x y t)), .im (.int pl), .no, .no, .no, .no, .no, .no] = some (.nx [.im (.sq (ns.map D.int)), .ow (PoolD ns a1 b8 c8), .im (.int k), .im (KD t), .im (DL x), .im (DL x), .im (DLL (imgs x t)), .im (.int (rep x)), .im (DL y), .im (MD (move x y t)), .im (.int pl), .im (.bl bk), .no, .no, .no, .no, .no]) := by
    simp -implicitDefEqProofs only [p_law_22, List.cons_append, List.nil_append, List.replicate, Nat.reduceSub, S.seq, S.set, S.asg, S.own, S.ite, S.nil, S.ret, S.retN, S.drop, S.par, S.brk, S.cont, E.cb, E.var, E.c, E.cons, E.nil, E.rds, E.fzs, E.bin, E.un, E.and, E.or, E.not, E.bool, E.ite, E.lst, E.tup, E.call, E.callB, E.slice, E.part, E.noPart, E.chain, E.dK, E.dT, E.isi, isi, E.mt, E.tyD, E.chg,
    T.ofE, T.tru, T.truth, T.and, T.or, T.not, T.yes, rd, fz, nf, G.name, G.sub, G.setIx, setIm, setOw, putOw, own, kill, argsOf, iosOf, putBack, scalD, rOk, oLen, oInt, oAdd, oSub, oMul, oMod, oDiv, oPow, oNeg, oLt, oLe, oGt, oGe, oIx, oIsN, oIsNotN, oIsB, oIsNotB, isN, isB, oEq, oNe, oIn, oNotIn, oSl, oList, oTuple, muAppend, muExtend, muPop, retOf, keepIo, giveE, wipeE, freeE, turnS, turnL, I.any,
    List.getElem?_cons_succ, List.getElem?_cons_zero, List.set_cons_succ, List.set_cons_zero, Option.bind_some, Option.map_some, Option.getD_some, List.map_cons, List.map_nil, List.take_succ_cons, List.take_zero, List.length_cons, List.length_nil, List.length_map, List.nodup_cons, List.not_mem_nil, List.mem_cons, not_false_eq_true, and_self, or_self, List.nodup_nil, List.all_cons, List.all_nil, Bool.and_self, Bool.and_true, Bool.true_and, Bool.false_and, Bool.and_false, Bool.or_true, Bool.true_or, Bool.or_false, Bool.false_or, Bool.not_true, Bool.not_false, if_true, if_false, ↓reduceIte, Bool.false_eq_true, beq_self_eq_true, reduceCtorEq, String.reduceBEq, Nat.reduceEqDiff, Nat.reduceAdd, Nat.zero_add, Nat.reduceLeDiff, beq_true, beq_false, Int.zero_add, d8, eqD_int, hbk]
  have s23 : p_law_23 [.im (.sq (ns.map D.int)), .ow (PoolD ns a1 b8 c8), .im (.int k), .im (KD t), .im (DL x), .im (DL x), .im (DLL (imgs x t)), .im (.int (rep x)), .im (DL y), .im (MD (move x y t)), .im (.int pl), .im (.bl bk), .no, .no, .no, .no, .no] = some (.nx [.im (.sq (ns.map D.int)), .ow (PoolD ns a1 b8 c8), .im (.int k), .im (KD t), .im (DL x), .im (DL x), .im (DLL (imgs x t)), .im (.int (rep x)), .im (DL y), .im (MD (move x y t)), .im (.int pl), .im (.bl bk), .im (.bl (decide ((0 ≤ pl ∧ pl < (x.length : Int)) ∧ bk ∈ ways t ∧ begun x pl bk = y))), .no, .no, .no, .no]) := by
    have tw := turned_ways t bk
    by_cases p1 : 0 ≤ pl
    · by_cases p2 : pl < (x.length : Int)
      · cases p3 : decide (bk ∈ ways t) with
        | true =>
          rw [p3] at tw
          have e : decide ((0 ≤ pl ∧ pl < (x.length : Int)) ∧ bk ∈ ways t ∧ begun x pl bk = y) = decide (begun x pl bk = y) := decide_eq_decide.mpr ⟨fun z => z.2.2, fun z => ⟨⟨p1, p2⟩, of_decide_eq_true p3, z⟩⟩
          rw [e]
          cases t <;> cases bk <;> first
            | (simp -implicitDefEqProofs only [p_law_23, List.cons_append, List.nil_append, List.replicate, Nat.reduceSub, S.seq, S.set, S.asg, S.own, S.ite, S.nil, S.ret, S.retN, S.drop, S.par, S.brk, S.cont, E.cb, E.var, E.c, E.cons, E.nil, E.rds, E.fzs, E.bin, E.un, E.and, E.or, E.not, E.bool, E.ite, E.lst, E.tup, E.call, E.callB, E.slice, E.part, E.noPart, E.chain, E.dK, E.dT, E.isi, isi, E.mt, E.tyD, E.chg,
    T.ofE, T.tru, T.truth, T.and, T.or, T.not, T.yes, rd, fz, nf, G.name, G.sub, G.setIx, setIm, setOw, putOw, own, kill, argsOf, iosOf, putBack, scalD, rOk, oLen, oInt, oAdd, oSub, oMul, oMod, oDiv, oPow, oNeg, oLt, oLe, oGt, oGe, oIx, oIsN, oIsNotN, oIsB, oIsNotB, isN, isB, oEq, oNe, oIn, oNotIn, oSl, oList, oTuple, muAppend, muExtend, muPop, retOf, keepIo, giveE, wipeE, freeE, turnS, turnL, I.any,
    List.getElem?_cons_succ, List.getElem?_cons_zero, List.set_cons_succ, List.set_cons_zero, Option.bind_some, Option.map_some, Option.getD_some, List.map_cons, List.map_nil, List.take_succ_cons, List.take_zero, List.length_cons, List.length_nil, List.length_map, List.nodup_cons, List.not_mem_nil, List.mem_cons, not_false_eq_true, and_self, or_self, List.nodup_nil, List.all_cons, List.all_nil, Bool.and_self, Bool.and_true, Bool.true_and, Bool.false_and, Bool.and_false, Bool.or_true, Bool.true_or, Bool.or_false, Bool.false_or, Bool.not_true, Bool.not_false, if_true, if_false, ↓reduceIte, Bool.false_eq_true, beq_self_eq_true, reduceCtorEq, String.reduceBEq, Nat.reduceEqDiff, Nat.reduceAdd, Nat.zero_add, Nat.reduceLeDiff, beq_true, beq_false, Int.zero_add, eqD_KD, p1, p2, decide_true, law_begun_ok hx hl6, eqD_DL]; done)
            | cases tw
        | false =>
          rw [p3] at tw
          rw [decide_eq_false (p := (0 ≤ pl ∧ pl < (x.length : Int)) ∧ bk ∈ ways t ∧ begun x pl bk = y) (fun z => (of_decide_eq_false p3) z.2.1)]
          cases t <;> cases bk <;> first
            | (simp -implicitDefEqProofs only [p_law_23, List.cons_append, List.nil_append, List.replicate, Nat.reduceSub, S.seq, S.set, S.asg, S.own, S.ite, S.nil, S.ret, S.retN, S.drop, S.par, S.brk, S.cont, E.cb, E.var, E.c, E.cons, E.nil, E.rds, E.fzs, E.bin, E.un, E.and, E.or, E.not, E.bool, E.ite, E.lst, E.tup, E.call, E.callB, E.slice, E.part, E.noPart, E.chain, E.dK, E.dT, E.isi, isi, E.mt, E.tyD, E.chg,
    T.ofE, T.tru, T.truth, T.and, T.or, T.not, T.yes, rd, fz, nf, G.name, G.sub, G.setIx, setIm, setOw, putOw, own, kill, argsOf, iosOf, putBack, scalD, rOk, oLen, oInt, oAdd, oSub, oMul, oMod, oDiv, oPow, oNeg, oLt, oLe, oGt, oGe, oIx, oIsN, oIsNotN, oIsB, oIsNotB, isN, isB, oEq, oNe, oIn, oNotIn, oSl, oList, oTuple, muAppend, muExtend, muPop, retOf, keepIo, giveE, wipeE, freeE, turnS, turnL, I.any,
    List.getElem?_cons_succ, List.getElem?_cons_zero, List.set_cons_succ, List.set_cons_zero, Option.bind_some, Option.map_some, Option.getD_some, List.map_cons, List.map_nil, List.take_succ_cons, List.take_zero, List.length_cons, List.length_nil, List.length_map, List.nodup_cons, List.not_mem_nil, List.mem_cons, not_false_eq_true, and_self, or_self, List.nodup_nil, List.all_cons, List.all_nil, Bool.and_self, Bool.and_true, Bool.true_and, Bool.false_and, Bool.and_false, Bool.or_true, Bool.true_or, Bool.or_false, Bool.false_or, Bool.not_true, Bool.not_false, if_true, if_false, ↓reduceIte, Bool.false_eq_true, beq_self_eq_true, reduceCtorEq, String.reduceBEq, Nat.reduceEqDiff, Nat.reduceAdd, Nat.zero_add, Nat.reduceLeDiff, beq_true, beq_false, Int.zero_add, eqD_KD, p1, p2, decide_true]; done)
            | cases tw
      · rw [decide_eq_false (p := (0 ≤ pl ∧ pl < (x.length : Int)) ∧ bk ∈ ways t ∧ begun x pl bk = y) (fun z => p2 z.1.2)]
        simp -implicitDefEqProofs only [p_law_23, List.cons_append, List.nil_append, List.replicate, Nat.reduceSub, S.seq, S.set, S.asg, S.own, S.ite, S.nil, S.ret, S.retN, S.drop, S.par, S.brk, S.cont, E.cb, E.var, E.c, E.cons, E.nil, E.rds, E.fzs, E.bin, E.un, E.and, E.or, E.not, E.bool, E.ite, E.lst, E.tup, E.call, E.callB, E.slice, E.part, E.noPart, E.chain, E.dK, E.dT, E.isi, isi, E.mt, E.tyD, E.chg,
    T.ofE, T.tru, T.truth, T.and, T.or, T.not, T.yes, rd, fz, nf, G.name, G.sub, G.setIx, setIm, setOw, putOw, own, kill, argsOf, iosOf, putBack, scalD, rOk, oLen, oInt, oAdd, oSub, oMul, oMod, oDiv, oPow, oNeg, oLt, oLe, oGt, oGe, oIx, oIsN, oIsNotN, oIsB, oIsNotB, isN, isB, oEq, oNe, oIn, oNotIn, oSl, oList, oTuple, muAppend, muExtend, muPop, retOf, keepIo, giveE, wipeE, freeE, turnS, turnL, I.any,
    List.getElem?_cons_succ, List.getElem?_cons_zero, List.set_cons_succ, List.set_cons_zero, Option.bind_some, Option.map_some, Option.getD_some, List.map_cons, List.map_nil, List.take_succ_cons, List.take_zero, List.length_cons, List.length_nil, List.length_map, List.nodup_cons, List.not_mem_nil, List.mem_cons, not_false_eq_true, and_self, or_self, List.nodup_nil, List.all_cons, List.all_nil, Bool.and_self, Bool.and_true, Bool.true_and, Bool.false_and, Bool.and_false, Bool.or_true, Bool.true_or, Bool.or_false, Bool.false_or, Bool.not_true, Bool.not_false, if_true, if_false, ↓reduceIte, Bool.false_eq_true, beq_self_eq_true, reduceCtorEq, String.reduceBEq, Nat.reduceEqDiff, Nat.reduceAdd, Nat.zero_add, Nat.reduceLeDiff, beq_true, beq_false, Int.zero_add, p1, p2, decide_true, decide_false]
    · rw [decide_eq_false (p := (0 ≤ pl ∧ pl < (x.length : Int)) ∧ bk ∈ ways t ∧ begun x pl bk = y) (fun z => p1 z.1.1)]
      simp -implicitDefEqProofs only [p_law_23, List.cons_append, List.nil_append, List.replicate, Nat.reduceSub, S.seq, S.set, S.asg, S.own, S.ite, S.nil, S.ret, S.retN, S.drop, S.par, S.brk, S.cont, E.cb, E.var, E.c, E.cons, E.nil, E.rds, E.fzs, E.bin, E.un, E.and, E.or, E.not, E.bool, E.ite, E.lst, E.tup, E.call, E.callB, E.slice, E.part, E.noPart, E.chain, E.dK, E.dT, E.isi, isi, E.mt, E.tyD, E.chg,
    T.ofE, T.tru, T.truth, T.and, T.or, T.not, T.yes, rd, fz, nf, G.name, G.sub, G.setIx, setIm, setOw, putOw, own, kill, argsOf, iosOf, putBack, scalD, rOk, oLen, oInt, oAdd, oSub, oMul, oMod, oDiv, oPow, oNeg, oLt, oLe, oGt, oGe, oIx, oIsN, oIsNotN, oIsB, oIsNotB, isN, isB, oEq, oNe, oIn, oNotIn, oSl, oList, oTuple, muAppend, muExtend, muPop, retOf, keepIo, giveE, wipeE, freeE, turnS, turnL, I.any,
    List.getElem?_cons_succ, List.getElem?_cons_zero, List.set_cons_succ, List.set_cons_zero, Option.bind_some, Option.map_some, Option.getD_some, List.map_cons, List.map_nil, List.take_succ_cons, List.take_zero, List.length_cons, List.length_nil, List.length_map, List.nodup_cons, List.not_mem_nil, List.mem_cons, not_false_eq_true, and_self, or_self, List.nodup_nil, List.all_cons, List.all_nil, Bool.and_self, Bool.and_true, Bool.true_and, Bool.false_and, Bool.and_false, Bool.or_true, Bool.true_or, Bool.or_false, Bool.false_or, Bool.not_true, Bool.not_false, if_true, if_false, ↓reduceIte, Bool.false_eq_true, beq_self_eq_true, reduceCtorEq, String.reduceBEq, Nat.reduceEqDiff, Nat.reduceAdd, Nat.zero_add, Nat.reduceLeDiff, beq_true, beq_false, Int.zero_add, p1, decide_false]
  have s24 : p_law_24 [.im (.sq (ns.map D.int)), .ow (PoolD ns a1 b8 c8), .im (.int k), .im (KD t), .im (DL x), .im (DL x), .im (DLL (imgs x t)), .im (.int (rep x)), .im (DL y), .im (MD (move x y t)), .im (.int pl), .im (.bl bk), .im (.bl (decide ((0 ≤ pl ∧ pl < (x.length : Int)) ∧ bk ∈ ways t ∧ begun x pl bk = y))), .no, .no, .no, .no] = some (.nx [.im (.sq (ns.map D.int)), .ow (PoolD ns a1 b8 c8), .im (.int k), .im (KD t), .im (DL x), .im (DL x), .im (DLL (imgs x t)), .im (.int (rep x)), .im (DL y), .im (MD (move x y t)), .im (.int pl), .im (.bl bk), .im (.bl (decide ((0 ≤ pl ∧ pl < (x.length : Int)) ∧ bk ∈ ways t ∧ begun x pl bk = y))), .no, .no, .no, .no]) := by
    simp -implicitDefEqProofs only [p_law_24, List.cons_append, List.nil_append, List.replicate, Nat.reduceSub, S.seq, S.set, S.asg, S.own, S.ite, S.nil, S.ret, S.retN, S.drop, S.par, S.brk, S.cont, E.cb, E.var, E.c, E.cons, E.nil, E.rds, E.fzs, E.bin, E.un, E.and, E.or, E.not, E.bool, E.ite, E.lst, E.tup, E.call, E.callB, E.slice, E.part, E.noPart, E.chain, E.dK, E.dT, E.isi, isi, E.mt, E.tyD, E.chg,
    T.ofE, T.tru, T.truth, T.and, T.or, T.not, T.yes, rd, fz, nf, G.name, G.sub, G.setIx, setIm, setOw, putOw, own, kill, argsOf, iosOf, putBack, scalD, rOk, oLen, oInt, oAdd, oSub, oMul, oMod, oDiv, oPow, oNeg, oLt, oLe, oGt, oGe, oIx, oIsN, oIsNotN, oIsB, oIsNotB, isN, isB, oEq, oNe, oIn, oNotIn, oSl, oList, oTuple, muAppend, muExtend, muPop, retOf, keepIo, giveE, wipeE, freeE, turnS, turnL, I.any,
    List.getElem?_cons_succ, List.getElem?_cons_zero, List.set_cons_succ, List.set_cons_zero, Option.bind_some, Option.map_some, Option.getD_some, List.map_cons, List.map_nil, List.take_succ_cons, List.take_zero, List.length_cons, List.length_nil, List.length_map, List.nodup_cons, List.not_mem_nil, List.mem_cons, not_false_eq_true, and_self, or_self, List.nodup_nil, List.all_cons, List.all_nil, Bool.and_self, Bool.and_true, Bool.true_and, Bool.false_and, Bool.and_false, Bool.or_true, Bool.true_or, Bool.or_false, Bool.false_or, Bool.not_true, Bool.not_false, if_true, if_false, ↓reduceIte, Bool.false_eq_true, beq_self_eq_true, reduceCtorEq, String.reduceBEq, Nat.reduceEqDiff, Nat.reduceAdd, Nat.zero_add, Nat.reduceLeDiff, beq_true, beq_false, Int.zero_add, judge_ok hx hl, q10, eqD_DL, eq_self, decide_true]
  obtain ⟨d, b9, c9, hb9, hd, h26⟩ := pick_ok ns a1 b8 c8 hb8 [.lst [.int 2, .int 0, .int 1], .lst [.int 1, .int 2, .int 0], .lst [.int 0, .int 2, .int 1]] (by decide) (by decide)
  obtain ⟨nm, rfl, hnm⟩ : ∃ nm : List Int, d = DL nm ∧ nm.length = 3 := by
    simp only [List.mem_cons, List.not_mem_nil, or_false] at hd
    rcases hd with rfl | rfl | rfl
    · exact ⟨[2, 0, 1], rfl, rfl⟩
    · exact ⟨[1, 2, 0], rfl, rfl⟩
    · exact ⟨[0, 2, 1], rfl, rfl⟩
  have s26 : p_law_26 [.im (.sq (ns.map D.int)), .ow (PoolD ns a1 b8 c8), .im (.int k), .im (KD t), .im (DL x), .im (DL x), .im (DLL (imgs x t)), .im (.int (rep x)), .im (DL y), .im (MD (move x y t)), .im (.int pl), .im (.bl bk), .im (.bl (decide ((0 ≤ pl ∧ pl < (x.length : Int)) ∧ bk ∈ ways t ∧ begun x pl bk = y))), .no, .no, .no, .no] = some (.nx [.im (.sq (ns.map D.int)), .ow (PoolD ns a1 b9 c9), .im (.int k), .im (KD t), .im (DL x), .im (DL x), .im (DLL (imgs x t)), .im (.int (rep x)), .im (DL y), .im (MD (move x y t)), .im (.int pl), .im (.bl bk), .im (.bl (decide ((0 ≤ pl ∧ pl < (x.length : Int)) ∧ bk ∈ ways t ∧ begun x pl bk = y))), .im (DL nm), .no, .no, .no]) := by
    simp -implicitDefEqProofs only [p_law_26, List.cons_append, List.nil_append, List.replicate, Nat.reduceSub, S.seq, S.set, S.asg, S.own, S.ite, S.nil, S.ret, S.retN, S.drop, S.par, S.brk, S.cont, E.cb, E.var, E.c, E.cons, E.nil, E.rds, E.fzs, E.bin, E.un, E.and, E.or, E.not, E.bool, E.ite, E.lst, E.tup, E.call, E.callB, E.slice, E.part, E.noPart, E.chain, E.dK, E.dT, E.isi, isi, E.mt, E.tyD, E.chg,
    T.ofE, T.tru, T.truth, T.and, T.or, T.not, T.yes, rd, fz, nf, G.name, G.sub, G.setIx, setIm, setOw, putOw, own, kill, argsOf, iosOf, putBack, scalD, rOk, oLen, oInt, oAdd, oSub, oMul, oMod, oDiv, oPow, oNeg, oLt, oLe, oGt, oGe, oIx, oIsN, oIsNotN, oIsB, oIsNotB, isN, isB, oEq, oNe, oIn, oNotIn, oSl, oList, oTuple, muAppend, muExtend, muPop, retOf, keepIo, giveE, wipeE, freeE, turnS, turnL, I.any,
    List.getElem?_cons_succ, List.getElem?_cons_zero, List.set_cons_succ, List.set_cons_zero, Option.bind_some, Option.map_some, Option.getD_some, List.map_cons, List.map_nil, List.take_succ_cons, List.take_zero, List.length_cons, List.length_nil, List.length_map, List.nodup_cons, List.not_mem_nil, List.mem_cons, not_false_eq_true, and_self, or_self, List.nodup_nil, List.all_cons, List.all_nil, Bool.and_self, Bool.and_true, Bool.true_and, Bool.false_and, Bool.and_false, Bool.or_true, Bool.true_or, Bool.or_false, Bool.false_or, Bool.not_true, Bool.not_false, if_true, if_false, ↓reduceIte, Bool.false_eq_true, beq_self_eq_true, reduceCtorEq, String.reduceBEq, Nat.reduceEqDiff, Nat.reduceAdd, Nat.zero_add, Nat.reduceLeDiff, beq_true, beq_false, Int.zero_add, h26]
  obtain ⟨z, hzl, s27⟩ : ∃ z : List Int, z.length = y.length ∧ p_law_27 [.im (.sq (ns.map D.int)), .ow (PoolD ns a1 b9 c9), .im (.int k), .im (KD t), .im (DL x), .im (DL x), .im (DLL (imgs x t)), .im (.int (rep x)), .im (DL y), .im (MD (move x y t)), .im (.int pl), .im (.bl bk), .im (.bl (decide ((0 ≤ pl ∧ pl < (x.length : Int)) ∧ bk ∈ ways t ∧ begun x pl bk = y))), .im (DL nm), .no, .no, .no] = some (.nx [.im (.sq (ns.map D.int)), .ow (PoolD ns a1 b9 c9), .im (.int k), .im (KD t), .im (DL x), .im (DL x), .im (DLL (imgs x t)), .im (.int (rep x)), .im (DL y), .im (MD (move x y t)), .im (.int pl), .im (.bl bk), .im (.bl (decide ((0 ≤ pl ∧ pl < (x.length : Int)) ∧ bk ∈ ways t ∧ begun x pl bk = y))), .im (DL nm), .im (DL z), .no, .no]) := by
    refine ⟨y.map fun c => (atI nm c).getD 0, by rw [List.length_map], ?_⟩
    have it : I.any (E.var 8) [.im (.sq (ns.map D.int)), .ow (PoolD ns a1 b9 c9), .im (.int k), .im (KD t), .im (DL x), .im (DL x), .im (DLL (imgs x t)), .im (.int (rep x)), .im (DL y), .im (MD (move x y t)), .im (.int pl), .im (.bl bk), .im (.bl (decide ((0 ≤ pl ∧ pl < (x.length : Int)) ∧ bk ∈ ways t ∧ begun x pl bk = y))), .im (DL nm), .no, .no, .no] = some (y.map D.int, [.im (.sq (ns.map D.int)), .ow (PoolD ns a1 b9 c9), .im (.int k), .im (KD t), .im (DL x), .im (DL x), .im (DLL (imgs x t)), .im (.int (rep x)), .im (DL y), .im (MD (move x y t)), .im (.int pl), .im (.bl bk), .im (.bl (decide ((0 ≤ pl ∧ pl < (x.length : Int)) ∧ bk ∈ ways t ∧ begun x pl bk = y))), .im (DL nm), .no, .no, .no]) := by
      simp -implicitDefEqProofs only [List.cons_append, List.nil_append, List.replicate, Nat.reduceSub, S.seq, S.set, S.asg, S.own, S.ite, S.nil, S.ret, S.retN, S.drop, S.par, S.brk, S.cont, E.cb, E.var, E.c, E.cons, E.nil, E.rds, E.fzs, E.bin, E.un, E.and, E.or, E.not, E.bool, E.ite, E.lst, E.tup, E.call, E.callB, E.slice, E.part, E.noPart, E.chain, E.dK, E.dT, E.isi, isi, E.mt, E.tyD, E.chg,
    T.ofE, T.tru, T.truth, T.and, T.or, T.not, T.yes, rd, fz, nf, G.name, G.sub, G.setIx, setIm, setOw, putOw, own, kill, argsOf, iosOf, putBack, scalD, rOk, oLen, oInt, oAdd, oSub, oMul, oMod, oDiv, oPow, oNeg, oLt, oLe, oGt, oGe, oIx, oIsN, oIsNotN, oIsB, oIsNotB, isN, isB, oEq, oNe, oIn, oNotIn, oSl, oList, oTuple, muAppend, muExtend, muPop, retOf, keepIo, giveE, wipeE, freeE, turnS, turnL, I.any,
    List.getElem?_cons_succ, List.getElem?_cons_zero, List.set_cons_succ, List.set_cons_zero, Option.bind_some, Option.map_some, Option.getD_some, List.map_cons, List.map_nil, List.take_succ_cons, List.take_zero, List.length_cons, List.length_nil, List.length_map, List.nodup_cons, List.not_mem_nil, List.mem_cons, not_false_eq_true, and_self, or_self, List.nodup_nil, List.all_cons, List.all_nil, Bool.and_self, Bool.and_true, Bool.true_and, Bool.false_and, Bool.and_false, Bool.or_true, Bool.true_or, Bool.or_false, Bool.false_or, Bool.not_true, Bool.not_false, if_true, if_false, ↓reduceIte, Bool.false_eq_true, beq_self_eq_true, reduceCtorEq, String.reduceBEq, Nat.reduceEqDiff, Nat.reduceAdd, Nat.zero_add, Nat.reduceLeDiff, beq_true, beq_false, Int.zero_add]
    have lc : E.lc [15] (I.any (E.var 8)) (G.name 15) T.yes (E.bin oIx (E.var 13) (E.var 15)) [.im (.sq (ns.map D.int)), .ow (PoolD ns a1 b9 c9), .im (.int k), .im (KD t), .im (DL x), .im (DL x), .im (DLL (imgs x t)), .im (.int (rep x)), .im (DL y), .im (MD (move x y t)), .im (.int pl), .im (.bl bk), .im (.bl (decide ((0 ≤ pl ∧ pl < (x.length : Int)) ∧ bk ∈ ways t ∧ begun x pl bk = y))), .im (DL nm), .no, .no, .no] = some (.f (DL (y.map fun c => (atI nm c).getD 0)), [.im (.sq (ns.map D.int)), .ow (PoolD ns a1 b9 c9), .im (.int k), .im (KD t), .im (DL x), .im (DL x), .im (DLL (imgs x t)), .im (.int (rep x)), .im (DL y), .im (MD (move x y t)), .im (.int pl), .im (.bl bk), .im (.bl (decide ((0 ≤ pl ∧ pl < (x.length : Int)) ∧ bk ∈ ways t ∧ begun x pl bk = y))), .im (DL nm), .no, .no, .no]) := by
      have dn : DL (y.map fun c => (atI nm c).getD 0) = .lst (y.map fun c => D.int ((atI nm c).getD 0)) := by
        show D.lst _ = _
        rw [List.map_map]
        rfl
      rw [dn]
      refine lc_map (enc := D.int) _ it (by omega) rfl rfl rfl fun c hc => ?_
      obtain ⟨c0, c1⟩ := hyq c hc
      obtain ⟨e, he⟩ := atI_in (xs := nm) c0 (by omega)
      simp -implicitDefEqProofs only [List.cons_append, List.nil_append, List.replicate, Nat.reduceSub, S.seq, S.set, S.asg, S.own, S.ite, S.nil, S.ret, S.retN, S.drop, S.par, S.brk, S.cont, E.cb, E.var, E.c, E.cons, E.nil, E.rds, E.fzs, E.bin, E.un, E.and, E.or, E.not, E.bool, E.ite, E.lst, E.tup, E.call, E.callB, E.slice, E.part, E.noPart, E.chain, E.dK, E.dT, E.isi, isi, E.mt, E.tyD, E.chg,
    T.ofE, T.tru, T.truth, T.and, T.or, T.not, T.yes, rd, fz, nf, G.name, G.sub, G.setIx, setIm, setOw, putOw, own, kill, argsOf, iosOf, putBack, scalD, rOk, oLen, oInt, oAdd, oSub, oMul, oMod, oDiv, oPow, oNeg, oLt, oLe, oGt, oGe, oIx, oIsN, oIsNotN, oIsB, oIsNotB, isN, isB, oEq, oNe, oIn, oNotIn, oSl, oList, oTuple, muAppend, muExtend, muPop, retOf, keepIo, giveE, wipeE, freeE, turnS, turnL, I.any,
    List.getElem?_cons_succ, List.getElem?_cons_zero, List.set_cons_succ, List.set_cons_zero, Option.bind_some, Option.map_some, Option.getD_some, List.map_cons, List.map_nil, List.take_succ_cons, List.take_zero, List.length_cons, List.length_nil, List.length_map, List.nodup_cons, List.not_mem_nil, List.mem_cons, not_false_eq_true, and_self, or_self, List.nodup_nil, List.all_cons, List.all_nil, Bool.and_self, Bool.and_true, Bool.true_and, Bool.false_and, Bool.and_false, Bool.or_true, Bool.true_or, Bool.or_false, Bool.false_or, Bool.not_true, Bool.not_false, if_true, if_false, ↓reduceIte, Bool.false_eq_true, beq_self_eq_true, reduceCtorEq, String.reduceBEq, Nat.reduceEqDiff, Nat.reduceAdd, Nat.zero_add, Nat.reduceLeDiff, beq_true, beq_false, Int.zero_add, atI_map, he]
    simp -implicitDefEqProofs only [p_law_27, List.cons_append, List.nil_append, List.replicate, Nat.reduceSub, S.seq, S.set, S.asg, S.own, S.ite, S.nil, S.ret, S.retN, S.drop, S.par, S.brk, S.cont, E.cb, E.var, E.c, E.cons, E.nil, E.rds, E.fzs, E.bin, E.un, E.and, E.or, E.not, E.bool, E.ite, E.lst, E.tup, E.call, E.callB, E.slice, E.part, E.noPart, E.chain, E.dK, E.dT, E.isi, isi, E.mt, E.tyD, E.chg,
    T.ofE, T.tru, T.truth, T.and, T.or, T.not, T.yes, rd, fz, nf, G.name, G.sub, G.setIx, setIm, setOw, putOw, own, kill, argsOf, iosOf, putBack, scalD, rOk, oLen, oInt, oAdd, oSub, oMul, oMod, oDiv, oPow, oNeg, oLt, oLe, oGt, oGe, oIx, oIsN, oIsNotN, oIsB, oIsNotB, isN, isB, oEq, oNe, oIn, oNotIn, oSl, oList, oTuple, muAppend, muExtend, muPop, retOf, keepIo, giveE, wipeE, freeE, turnS, turnL, I.any,
    List.getElem?_cons_succ, List.getElem?_cons_zero, List.set_cons_succ, List.set_cons_zero, Option.bind_some, Option.map_some, Option.getD_some, List.map_cons, List.map_nil, List.take_succ_cons, List.take_zero, List.length_cons, List.length_nil, List.length_map, List.nodup_cons, List.not_mem_nil, List.mem_cons, not_false_eq_true, and_self, or_self, List.nodup_nil, List.all_cons, List.all_nil, Bool.and_self, Bool.and_true, Bool.true_and, Bool.false_and, Bool.and_false, Bool.or_true, Bool.true_or, Bool.or_false, Bool.false_or, Bool.not_true, Bool.not_false, if_true, if_false, ↓reduceIte, Bool.false_eq_true, beq_self_eq_true, reduceCtorEq, String.reduceBEq, Nat.reduceEqDiff, Nat.reduceAdd, Nat.zero_add, Nat.reduceLeDiff, beq_true, beq_false, Int.zero_add, lc]
  have q28 := same_self (n := 6) (Pl_DL (n := 4) (xs := named x) (by rw [named_len]; exact hl6))
  have s28 : p_law_28 [.im (.sq (ns.map D.int)), .ow (PoolD ns a1 b9 c9), .im (.int k), .im (KD t), .im (DL x), .im (DL x), .im (DLL (imgs x t)), .im (.int (rep x)), .im (DL y), .im (MD (move x y t)), .im (.int pl), .im (.bl bk), .im (.bl (decide ((0 ≤ pl ∧ pl < (x.length : Int)) ∧ bk ∈ ways t ∧ begun x pl bk = y))), .im (DL nm), .im (DL z), .no, .no] = some (.nx [.im (.sq (ns.map D.int)), .ow (PoolD ns a1 b9 c9), .im (.int k), .im (KD t), .im (DL x), .im (DL x), .im (DLL (imgs x t)), .im (.int (rep x)), .im (DL y), .im (MD (move x y t)), .im (.int pl), .im (.bl bk), .im (.bl (decide ((0 ≤ pl ∧ pl < (x.length : Int)) ∧ bk ∈ ways t ∧ begun x pl bk = y))), .im (DL nm), .im (DL z), .no, .no]) := by
    simp -implicitDefEqProofs only [p_law_28, List.cons_append, List.nil_append, List.replicate, Nat.reduceSub, S.seq, S.set, S.asg, S.own, S.ite, S.nil, S.ret, S.retN, S.drop, S.par, S.brk, S.cont, E.cb, E.var, E.c, E.cons, E.nil, E.rds, E.fzs, E.bin, E.un, E.and, E.or, E.not, E.bool, E.ite, E.lst, E.tup, E.call, E.callB, E.slice, E.part, E.noPart, E.chain, E.dK, E.dT, E.isi, isi, E.mt, E.tyD, E.chg,
    T.ofE, T.tru, T.truth, T.and, T.or, T.not, T.yes, rd, fz, nf, G.name, G.sub, G.setIx, setIm, setOw, putOw, own, kill, argsOf, iosOf, putBack, scalD, rOk, oLen, oInt, oAdd, oSub, oMul, oMod, oDiv, oPow, oNeg, oLt, oLe, oGt, oGe, oIx, oIsN, oIsNotN, oIsB, oIsNotB, isN, isB, oEq, oNe, oIn, oNotIn, oSl, oList, oTuple, muAppend, muExtend, muPop, retOf, keepIo, giveE, wipeE, freeE, turnS, turnL, I.any,
    List.getElem?_cons_succ, List.getElem?_cons_zero, List.set_cons_succ, List.set_cons_zero, Option.bind_some, Option.map_some, Option.getD_some, List.map_cons, List.map_nil, List.take_succ_cons, List.take_zero, List.length_cons, List.length_nil, List.length_map, List.nodup_cons, List.not_mem_nil, List.mem_cons, not_false_eq_true, and_self, or_self, List.nodup_nil, List.all_cons, List.all_nil, Bool.and_self, Bool.and_true, Bool.true_and, Bool.false_and, Bool.and_false, Bool.or_true, Bool.true_or, Bool.or_false, Bool.false_or, Bool.not_true, Bool.not_false, if_true, if_false, ↓reduceIte, Bool.false_eq_true, beq_self_eq_true, reduceCtorEq, String.reduceBEq, Nat.reduceEqDiff, Nat.reduceAdd, Nat.zero_add, Nat.reduceLeDiff, beq_true, beq_false, Int.zero_add, named_alike_ok hl, law_named_ok hl, q28]
  obtain ⟨pv, _, epv⟩ := plain_mem hx t
  have q30 := same_self (n := 6) (Pl_DL (n := 4) (xs := plain x t) (by rw [← epv, named_len, imgs_at_len ‹_›]; exact hl6))
  have it30 : I.any (E.var 6) [.im (.sq (ns.map D.int)), .ow (PoolD ns a1 b9 c9), .im (.int k), .im (KD t), .im (DL x), .im (DL x), .im (DLL (imgs x t)), .im (.int (rep x)), .im (DL y), .im (MD (move x y t)), .im (.int pl), .im (.bl bk), .im (.bl (decide ((0 ≤ pl ∧ pl < (x.length : Int)) ∧ bk ∈ ways t ∧ begun x pl bk = y))), .im (DL nm), .im (DL z), .no, .no] = some ((imgs x t).map DL, [.im (.sq (ns.map D.int)), .ow (PoolD ns a1 b9 c9), .im (.int k), .im (KD t), .im (DL x), .im (DL x), .im (DLL (imgs x t)), .im (.int (rep x)), .im (DL y), .im (MD (move x y t)), .im (.int pl), .im (.bl bk), .im (.bl (decide ((0 ≤ pl ∧ pl < (x.length : Int)) ∧ bk ∈ ways t ∧ begun x pl bk = y))), .im (DL nm), .im (DL z), .no, .no]) := by
    simp -implicitDefEqProofs only [List.cons_append, List.nil_append, List.replicate, Nat.reduceSub, S.seq, S.set, S.asg, S.own, S.ite, S.nil, S.ret, S.retN, S.drop, S.par, S.brk, S.cont, E.cb, E.var, E.c, E.cons, E.nil, E.rds, E.fzs, E.bin, E.un, E.and, E.or, E.not, E.bool, E.ite, E.lst, E.tup, E.call, E.callB, E.slice, E.part, E.noPart, E.chain, E.dK, E.dT, E.isi, isi, E.mt, E.tyD, E.chg,
    T.ofE, T.tru, T.truth, T.and, T.or, T.not, T.yes, rd, fz, nf, G.name, G.sub, G.setIx, setIm, setOw, putOw, own, kill, argsOf, iosOf, putBack, scalD, rOk, oLen, oInt, oAdd, oSub, oMul, oMod, oDiv, oPow, oNeg, oLt, oLe, oGt, oGe, oIx, oIsN, oIsNotN, oIsB, oIsNotB, isN, isB, oEq, oNe, oIn, oNotIn, oSl, oList, oTuple, muAppend, muExtend, muPop, retOf, keepIo, giveE, wipeE, freeE, turnS, turnL, I.any,
    List.getElem?_cons_succ, List.getElem?_cons_zero, List.set_cons_succ, List.set_cons_zero, Option.bind_some, Option.map_some, Option.getD_some, List.map_cons, List.map_nil, List.take_succ_cons, List.take_zero, List.length_cons, List.length_nil, List.length_map, List.nodup_cons, List.not_mem_nil, List.mem_cons, not_false_eq_true, and_self, or_self, List.nodup_nil, List.all_cons, List.all_nil, Bool.and_self, Bool.and_true, Bool.true_and, Bool.false_and, Bool.and_false, Bool.or_true, Bool.true_or, Bool.or_false, Bool.false_or, Bool.not_true, Bool.not_false, if_true, if_false, ↓reduceIte, Bool.false_eq_true, beq_self_eq_true, reduceCtorEq, String.reduceBEq, Nat.reduceEqDiff, Nat.reduceAdd, Nat.zero_add, Nat.reduceLeDiff, beq_true, beq_false, Int.zero_add]
  have lc30 : E.lc [16] (I.any (E.var 6)) (G.name 16) T.yes (E.call [false] c__law_named (E.cons (E.var 16) E.nil)) [.im (.sq (ns.map D.int)), .ow (PoolD ns a1 b9 c9), .im (.int k), .im (KD t), .im (DL x), .im (DL x), .im (DLL (imgs x t)), .im (.int (rep x)), .im (DL y), .im (MD (move x y t)), .im (.int pl), .im (.bl bk), .im (.bl (decide ((0 ≤ pl ∧ pl < (x.length : Int)) ∧ bk ∈ ways t ∧ begun x pl bk = y))), .im (DL nm), .im (DL z), .no, .no] = some (.f (DLL ((imgs x t).map named)), [.im (.sq (ns.map D.int)), .ow (PoolD ns a1 b9 c9), .im (.int k), .im (KD t), .im (DL x), .im (DL x), .im (DLL (imgs x t)), .im (.int (rep x)), .im (DL y), .im (MD (move x y t)), .im (.int pl), .im (.bl bk), .im (.bl (decide ((0 ≤ pl ∧ pl < (x.length : Int)) ∧ bk ∈ ways t ∧ begun x pl bk = y))), .im (DL nm), .im (DL z), .no, .no]) := by
    rw [← map_DL]
    refine lc_map (enc := DL) (fun y => DL (named y)) it30 hi6 rfl rfl rfl fun y hy => ?_
    simp -implicitDefEqProofs only [List.cons_append, List.nil_append, List.replicate, Nat.reduceSub, S.seq, S.set, S.asg, S.own, S.ite, S.nil, S.ret, S.retN, S.drop, S.par, S.brk, S.cont, E.cb, E.var, E.c, E.cons, E.nil, E.rds, E.fzs, E.bin, E.un, E.and, E.or, E.not, E.bool, E.ite, E.lst, E.tup, E.call, E.callB, E.slice, E.part, E.noPart, E.chain, E.dK, E.dT, E.isi, isi, E.mt, E.tyD, E.chg,
    T.ofE, T.tru, T.truth, T.and, T.or, T.not, T.yes, rd, fz, nf, G.name, G.sub, G.setIx, setIm, setOw, putOw, own, kill, argsOf, iosOf, putBack, scalD, rOk, oLen, oInt, oAdd, oSub, oMul, oMod, oDiv, oPow, oNeg, oLt, oLe, oGt, oGe, oIx, oIsN, oIsNotN, oIsB, oIsNotB, isN, isB, oEq, oNe, oIn, oNotIn, oSl, oList, oTuple, muAppend, muExtend, muPop, retOf, keepIo, giveE, wipeE, freeE, turnS, turnL, I.any,
    List.getElem?_cons_succ, List.getElem?_cons_zero, List.set_cons_succ, List.set_cons_zero, Option.bind_some, Option.map_some, Option.getD_some, List.map_cons, List.map_nil, List.take_succ_cons, List.take_zero, List.length_cons, List.length_nil, List.length_map, List.nodup_cons, List.not_mem_nil, List.mem_cons, not_false_eq_true, and_self, or_self, List.nodup_nil, List.all_cons, List.all_nil, Bool.and_self, Bool.and_true, Bool.true_and, Bool.false_and, Bool.and_false, Bool.or_true, Bool.true_or, Bool.or_false, Bool.false_or, Bool.not_true, Bool.not_false, if_true, if_false, ↓reduceIte, Bool.false_eq_true, beq_self_eq_true, reduceCtorEq, String.reduceBEq, Nat.reduceEqDiff, Nat.reduceAdd, Nat.zero_add, Nat.reduceLeDiff, beq_true, beq_false, Int.zero_add, law_named_ok (show y.length ≤ 1000 by rw [imgs_at_len hy]; exact hl)]
  have so30 := sorted_DLL ((imgs x t).map named)
  have s30 : p_law_30 [.im (.sq (ns.map D.int)), .ow (PoolD ns a1 b9 c9), .im (.int k), .im (KD t), .im (DL x), .im (DL x), .im (DLL (imgs x t)), .im (.int (rep x)), .im (DL y), .im (MD (move x y t)), .im (.int pl), .im (.bl bk), .im (.bl (decide ((0 ≤ pl ∧ pl < (x.length : Int)) ∧ bk ∈ ways t ∧ begun x pl bk = y))), .im (DL nm), .im (DL z), .no, .no] = some (.nx [.im (.sq (ns.map D.int)), .ow (PoolD ns a1 b9 c9), .im (.int k), .im (KD t), .im (DL x), .im (DL x), .im (DLL (imgs x t)), .im (.int (rep x)), .im (DL y), .im (MD (move x y t)), .im (.int pl), .im (.bl bk), .im (.bl (decide ((0 ≤ pl ∧ pl < (x.length : Int)) ∧ bk ∈ ways t ∧ begun x pl bk = y))), .im (DL nm), .im (DL z), .no, .no]) := by
    simp -implicitDefEqProofs only [p_law_30, List.cons_append, List.nil_append, List.replicate, Nat.reduceSub, S.seq, S.set, S.asg, S.own, S.ite, S.nil, S.ret, S.retN, S.drop, S.par, S.brk, S.cont, E.cb, E.var, E.c, E.cons, E.nil, E.rds, E.fzs, E.bin, E.un, E.and, E.or, E.not, E.bool, E.ite, E.lst, E.tup, E.call, E.callB, E.slice, E.part, E.noPart, E.chain, E.dK, E.dT, E.isi, isi, E.mt, E.tyD, E.chg,
    T.ofE, T.tru, T.truth, T.and, T.or, T.not, T.yes, rd, fz, nf, G.name, G.sub, G.setIx, setIm, setOw, putOw, own, kill, argsOf, iosOf, putBack, scalD, rOk, oLen, oInt, oAdd, oSub, oMul, oMod, oDiv, oPow, oNeg, oLt, oLe, oGt, oGe, oIx, oIsN, oIsNotN, oIsB, oIsNotB, isN, isB, oEq, oNe, oIn, oNotIn, oSl, oList, oTuple, muAppend, muExtend, muPop, retOf, keepIo, giveE, wipeE, freeE, turnS, turnL, I.any,
    List.getElem?_cons_succ, List.getElem?_cons_zero, List.set_cons_succ, List.set_cons_zero, Option.bind_some, Option.map_some, Option.getD_some, List.map_cons, List.map_nil, List.take_succ_cons, List.take_zero, List.length_cons, List.length_nil, List.length_map, List.nodup_cons, List.not_mem_nil, List.mem_cons, not_false_eq_true, and_self, or_self, List.nodup_nil, List.all_cons, List.all_nil, Bool.and_self, Bool.and_true, Bool.true_and, Bool.false_and, Bool.and_false, Bool.or_true, Bool.true_or, Bool.or_false, Bool.false_or, Bool.not_true, Bool.not_false, if_true, if_false, ↓reduceIte, Bool.false_eq_true, beq_self_eq_true, reduceCtorEq, String.reduceBEq, Nat.reduceEqDiff, Nat.reduceAdd, Nat.zero_add, Nat.reduceLeDiff, beq_true, beq_false, Int.zero_add, plain_ok hx hl, lc30, so30, plain_at hx, q30]
  have hz : 0 < z.length := by omega
  have n32 : ((imgs x t).any fun i => decide (i.length = z.length) && decide (named i = named z)) = decide (plain z t = plain x t) := by
    by_cases q : plain z t = plain x t
    · rw [decide_eq_true q]
      obtain ⟨i, hi, e1, e2⟩ := (plain_iff hx hz t).mp q
      exact List.any_eq_true.mpr ⟨i, hi, by rw [decide_eq_true e1, decide_eq_true e2]; rfl⟩
    · rw [decide_eq_false q]
      refine List.any_eq_false.mpr fun i hi e => q ((plain_iff hx hz t).mpr ⟨i, hi, ?_⟩)
      rw [Bool.and_eq_true] at e
      exact ⟨of_decide_eq_true e.1, of_decide_eq_true e.2⟩
  have s32 : p_law_32 [.im (.sq (ns.map D.int)), .ow (PoolD ns a1 b9 c9), .im (.int k), .im (KD t), .im (DL x), .im (DL x), .im (DLL (imgs x t)), .im (.int (rep x)), .im (DL y), .im (MD (move x y t)), .im (.int pl), .im (.bl bk), .im (.bl (decide ((0 ≤ pl ∧ pl < (x.length : Int)) ∧ bk ∈ ways t ∧ begun x pl bk = y))), .im (DL nm), .im (DL z), .no, .no] = some (.nx [.im (.sq (ns.map D.int)), .ow (PoolD ns a1 b9 c9), .im (.int k), .im (KD t), .im (DL x), .im (DL x), .im (DLL (imgs x t)), .im (.int (rep x)), .im (DL y), .im (MD (move x y t)), .im (.int pl), .im (.bl bk), .im (.bl (decide ((0 ≤ pl ∧ pl < (x.length : Int)) ∧ bk ∈ ways t ∧ begun x pl bk = y))), .im (DL nm), .im (DL z), .no, .no]) := by
    simp -implicitDefEqProofs only [p_law_32, List.cons_append, List.nil_append, List.replicate, Nat.reduceSub, S.seq, S.set, S.asg, S.own, S.ite, S.nil, S.ret, S.retN, S.drop, S.par, S.brk, S.cont, E.cb, E.var, E.c, E.cons, E.nil, E.rds, E.fzs, E.bin, E.un, E.and, E.or, E.not, E.bool, E.ite, E.lst, E.tup, E.call, E.callB, E.slice, E.part, E.noPart, E.chain, E.dK, E.dT, E.isi, isi, E.mt, E.tyD, E.chg,
    T.ofE, T.tru, T.truth, T.and, T.or, T.not, T.yes, rd, fz, nf, G.name, G.sub, G.setIx, setIm, setOw, putOw, own, kill, argsOf, iosOf, putBack, scalD, rOk, oLen, oInt, oAdd, oSub, oMul, oMod, oDiv, oPow, oNeg, oLt, oLe, oGt, oGe, oIx, oIsN, oIsNotN, oIsB, oIsNotB, isN, isB, oEq, oNe, oIn, oNotIn, oSl, oList, oTuple, muAppend, muExtend, muPop, retOf, keepIo, giveE, wipeE, freeE, turnS, turnL, I.any,
    List.getElem?_cons_succ, List.getElem?_cons_zero, List.set_cons_succ, List.set_cons_zero, Option.bind_some, Option.map_some, Option.getD_some, List.map_cons, List.map_nil, List.take_succ_cons, List.take_zero, List.length_cons, List.length_nil, List.length_map, List.nodup_cons, List.not_mem_nil, List.mem_cons, not_false_eq_true, and_self, or_self, List.nodup_nil, List.all_cons, List.all_nil, Bool.and_self, Bool.and_true, Bool.true_and, Bool.false_and, Bool.and_false, Bool.or_true, Bool.true_or, Bool.or_false, Bool.false_or, Bool.not_true, Bool.not_false, if_true, if_false, ↓reduceIte, Bool.false_eq_true, beq_self_eq_true, reduceCtorEq, String.reduceBEq, Nat.reduceEqDiff, Nat.reduceAdd, Nat.zero_add, Nat.reduceLeDiff, beq_true, beq_false, Int.zero_add, plain_ok hx hl, plain_ok hz (show z.length ≤ 1000 by omega), some_naming_ok hx hl (show z.length ≤ 1000 by omega), n32, eqD_DL, eqD_bl]
  refine ⟨a1, b9, c9, [.im (.sq (ns.map D.int)), .ow (PoolD ns a1 b9 c9), .im (.int k), .im (KD t), .im (DL x), .im (DL x), .im (DLL (imgs x t)), .im (.int (rep x)), .im (DL y), .im (MD (move x y t)), .im (.int pl), .im (.bl bk), .im (.bl (decide ((0 ≤ pl ∧ pl < (x.length : Int)) ∧ bk ∈ ways t ∧ begun x pl bk = y))), .im (DL nm), .im (DL z), .no, .no], hb9, ?_, ?_⟩
  · unfold q_law_2
    rw [seq_nx s3, seq_nx s4, seq_nx s5, seq_nx s6, seq_nx s7, seq_nx s8, seq_nx s10, seq_nx s12, seq_nx s13, seq_nx s15, seq_nx s16, seq_nx s18, seq_nx s19, seq_nx s21, seq_nx s22, seq_nx s23, seq_nx s24, seq_nx s26, seq_nx s27, seq_nx s28, seq_nx s30]
    exact s32
  · rfl
/-- the law holds -/
theorem law_true (ns : List Int) (h : ns.length ≤ 63) : ∃ outs, c_law [.im (.sq (ns.map D.int))] = some (.v (.bl true), outs) := by
  obtain ⟨b, hb, hp⟩ := pool_ok ns
  have s1 : p_law_1 [.im (.sq (ns.map D.int)), .no, .no, .no, .no, .no, .no, .no, .no, .no, .no, .no, .no, .no, .no, .no, .no] = some (.nx [.im (.sq (ns.map D.int)), .ow (PoolD ns 0 b 0), .no, .no, .no, .no, .no, .no, .no, .no, .no, .no, .no, .no, .no, .no, .no]) := by
    simp -implicitDefEqProofs only [p_law_1, List.cons_append, List.nil_append, List.replicate, Nat.reduceSub, S.seq, S.set, S.asg, S.own, S.ite, S.nil, S.ret, S.retN, S.drop, S.par, S.brk, S.cont, E.cb, E.var, E.c, E.cons, E.nil, E.rds, E.fzs, E.bin, E.un, E.and, E.or, E.not, E.bool, E.ite, E.lst, E.tup, E.call, E.callB, E.slice, E.part, E.noPart, E.chain, E.dK, E.dT, E.isi, isi, E.mt, E.tyD, E.chg,
    T.ofE, T.tru, T.truth, T.and, T.or, T.not, T.yes, rd, fz, nf, G.name, G.sub, G.setIx, setIm, setOw, putOw, own, kill, argsOf, iosOf, putBack, scalD, rOk, oLen, oInt, oAdd, oSub, oMul, oMod, oDiv, oPow, oNeg, oLt, oLe, oGt, oGe, oIx, oIsN, oIsNotN, oIsB, oIsNotB, isN, isB, oEq, oNe, oIn, oNotIn, oSl, oList, oTuple, muAppend, muExtend, muPop, retOf, keepIo, giveE, wipeE, freeE, turnS, turnL, I.any,
    List.getElem?_cons_succ, List.getElem?_cons_zero, List.set_cons_succ, List.set_cons_zero, Option.bind_some, Option.map_some, Option.getD_some, List.map_cons, List.map_nil, List.take_succ_cons, List.take_zero, List.length_cons, List.length_nil, List.length_map, List.nodup_cons, List.not_mem_nil, List.mem_cons, not_false_eq_true, and_self, or_self, List.nodup_nil, List.all_cons, List.all_nil, Bool.and_self, Bool.and_true, Bool.true_and, Bool.false_and, Bool.and_false, Bool.or_true, Bool.true_or, Bool.or_false, Bool.false_or, Bool.not_true, Bool.not_false, if_true, if_false, ↓reduceIte, Bool.false_eq_true, beq_self_eq_true, reduceCtorEq, String.reduceBEq, Nat.reduceEqDiff, Nat.reduceAdd, Nat.zero_add, Nat.reduceLeDiff, beq_true, beq_false, Int.zero_add, hp]
  obtain ⟨e', h2, a', b', c', hb', he⟩ := loop_inv (g := G.name 2) (body := q_law_2) (ks := [2, 3, 4, 5, 6, 7, 8, 9, 10, 11, 12, 13, 14]) (enc := fun k : Nat => D.int (k : Int)) (xs := List.range 4)
    (e := [.im (.sq (ns.map D.int)), .ow (PoolD ns 0 b 0), .no, .no, .no, .no, .no, .no, .no, .no, .no, .no, .no, .no, .no, .no, .no]) (Inv := fun e => ∃ a b c : Int, 0 ≤ b ∧ e = [.im (.sq (ns.map D.int)), .ow (PoolD ns a b c), .no, .no, .no, .no, .no, .no, .no, .no, .no, .no, .no, .no, .no, .no, .no]) (fun k _ e => by
      rintro ⟨a, b, c, hb, rfl⟩
      obtain ⟨a', b', c', e', hb', h1, h2⟩ := turn_ok ns a b c (k : Int) hb
      refine ⟨_, ?_, a', b', c', hb', h2⟩
      have t : turnS (G.name 2) q_law_2 [2, 3, 4, 5, 6, 7, 8, 9, 10, 11, 12, 13, 14] (.int (k : Int)) [.im (.sq (ns.map D.int)), .ow (PoolD ns a b c), .no, .no, .no, .no, .no, .no, .no, .no, .no, .no, .no, .no, .no, .no, .no] =
          (q_law_2 [.im (.sq (ns.map D.int)), .ow (PoolD ns a b c), .im (.int k), .no, .no, .no, .no, .no, .no, .no, .no, .no, .no, .no, .no, .no, .no]).bind fun o => match o with
            | .nx e2 => some (.nx (kill e2 [2, 3, 4, 5, 6, 7, 8, 9, 10, 11, 12, 13, 14]))
            | .ct e2 => some (.nx (kill e2 [2, 3, 4, 5, 6, 7, 8, 9, 10, 11, 12, 13, 14]))
            | .bk e2 => some (.bk (kill e2 [2, 3, 4, 5, 6, 7, 8, 9, 10, 11, 12, 13, 14]))
            | .rt r e2 => some (.rt r e2) := rfl
      rw [t, h1]
      rfl) ⟨0, b, 0, hb, rfl⟩
  subst he
  have s2 : p_law_2 [.im (.sq (ns.map D.int)), .ow (PoolD ns 0 b 0), .no, .no, .no, .no, .no, .no, .no, .no, .no, .no, .no, .no, .no, .no, .no] = some (.nx [.im (.sq (ns.map D.int)), .ow (PoolD ns a' b' c'), .no, .no, .no, .no, .no, .no, .no, .no, .no, .no, .no, .no, .no, .no, .no]) :=
    (for_of (rng1_of (j := 4) rfl rfl (by decide) (by decide))).trans h2
  refine ⟨[.no], ?_⟩
  unfold c_law
  rw [run_eq 1 17 _ _ rfl]
  show done 1 17 (S.seq _ (S.seq _ _) [.im (.sq (ns.map D.int)), .no, .no, .no, .no, .no, .no, .no, .no, .no, .no, .no, .no, .no, .no, .no, .no]) = _
  rw [seq_nx s1, seq_nx s2]
  exact done_rt (r := .v (.bl true)) rfl rfl
end turn
end K94

open PySem PySem.W PyProof.Rows
set_option maxRecDepth 100000 in
set_option maxHeartbeats 0 in
theorem PySem.Challenge.cw_loomwork_k94_whole_stripes_alike_holds : PySem.Challenge.rw_loomwork_k94_whole_stripes_alike.Holds := by
  w_on; o_law; k_head; (case hw => w_witness2)
  k_fill
  refine L2.walk_of (l := PySem.Challenge.rw_loomwork_k94_whole_stripes_alike) (n := 63) (k := 7) (x := "script") (CX := fun _ => L2.CX0) (sp := fun w => Dv.spLaw _) rfl (by decide) rfl ⟨rfl, by decide, by decide⟩ (fun w h Y => PySem.W.kIn_of Y) ?F (fun _ _ a ns hl _ hS => ⟨a, ns, rfl, hS, hl, fun _ => rfl⟩) (fun _ _ _ _ _ h => h)
  case F =>
    intro w mg fa h KX G hmg
    refine' K94.all_mk KX G hmg ?a1 ?l1 ?c1 ?k1 ?a2 ?l2 ?c2 ?k2 ?a3 ?l3 ?c3 ?k3 ?a4 ?l4 ?c4 ?k4 ?a5 ?l5 ?c5 ?k5 ?a6 ?l6 ?c6 ?k6 ?a7 ?l7 ?c7 ?k7 ?a8 ?l8 ?c8 ?k8 ?a9 ?l9 ?c9 ?k9 ?a10 ?l10 ?c10 ?k10 ?a11 ?l11 ?c11 ?k11 ?a12 ?l12 ?c12 ?k12 ?a13 ?l13 ?c13 ?k13 ?a14 ?l14 ?c14 ?k14 ?a15 ?l15 ?c15 ?k15 ?a16 ?l16 ?c16 ?k16 ?a17 ?l17 ?c17 ?k17 ?a18 ?l18 ?c18 ?k18 ?a19 ?l19 ?c19 ?k19 ?a20 ?l20 ?c20 ?k20 ?a21 ?l21 ?c21 ?k21 ?a22 ?l22 ?c22 ?k22 ?a23 ?l23 ?c23 ?k23 ?a24 ?l24 ?c24 ?k24 ?z0 ?z1 ?z2 ?z3 ?z4 ?z5 ?z6 ?z7 ?z8 ?z9 ?z10 K94.law_true
    (case a1 => k_is)
    (case l1 => k_is)
    (case c1 => k_is)
    (case k1 => k_is)
    (case a2 => k_is)
    (case l2 => k_is)
    (case c2 => k_is)
    (case k2 => k_is)
    (case a3 => k_is)
    (case l3 => k_is)
    (case c3 => k_is)
    (case k3 => k_is)
    (case a4 => k_is)
    (case l4 => k_is)
    (case c4 => k_is)
    (case k4 => k_is)
    (case a5 => k_is)
    (case l5 => k_is)
    (case c5 => k_is)
    (case k5 => k_is)
    (case a6 => k_is)
    (case l6 => k_is)
    (case c6 => k_is)
    (case k6 => k_is)
    (case a7 => k_is)
    (case l7 => k_is)
    (case c7 => k_is)
    (case k7 => k_is)
    (case a8 => k_is)
    (case l8 => k_is)
    (case c8 => k_is)
    (case k8 => k_is)
    (case a9 => k_is)
    (case l9 => k_is)
    (case c9 => k_is)
    (case k9 => k_is)
    (case a10 => k_is)
    (case l10 => k_is)
    (case c10 => k_is)
    (case k10 => k_is)
    (case a11 => k_is)
    (case l11 => k_is)
    (case c11 => k_is)
    (case k11 => k_is)
    (case a12 => k_is)
    (case l12 => k_is)
    (case c12 => k_is)
    (case k12 => k_is)
    (case a13 => k_is)
    (case l13 => k_is)
    (case c13 => k_is)
    (case k13 => k_is)
    (case a14 => k_is)
    (case l14 => k_is)
    (case c14 => k_is)
    (case k14 => k_is)
    (case a15 => k_is)
    (case l15 => k_is)
    (case c15 => k_is)
    (case k15 => k_is)
    (case a16 => k_is)
    (case l16 => k_is)
    (case c16 => k_is)
    (case k16 => k_is)
    (case a17 => k_is)
    (case l17 => k_is)
    (case c17 => k_is)
    (case k17 => k_is)
    (case a18 => k_is)
    (case l18 => k_is)
    (case c18 => k_is)
    (case k18 => k_is)
    (case a19 => k_is)
    (case l19 => k_is)
    (case c19 => k_is)
    (case k19 => k_is)
    (case a20 => k_is)
    (case l20 => k_is)
    (case c20 => k_is)
    (case k20 => k_is)
    (case a21 => k_is)
    (case l21 => k_is)
    (case c21 => k_is)
    (case k21 => k_is)
    (case a22 => k_is)
    (case l22 => k_is)
    (case c22 => k_is)
    (case k22 => k_is)
    (case a23 => k_is)
    (case l23 => k_is)
    (case c23 => k_is)
    (case k23 => k_is)
    (case a24 => k_is)
    (case l24 => k_is)
    (case c24 => k_is)
    (case k24 => k_is)
    (case z0 => k_is)
    (case z1 => k_is)
    (case z2 => k_is)
    (case z3 => k_is)
    (case z4 => k_is)
    (case z5 => k_is)
    (case z6 => k_is)
    (case z7 => k_is)
    (case z8 => k_is)
    (case z9 => k_is)
    (case z10 => k_is)
