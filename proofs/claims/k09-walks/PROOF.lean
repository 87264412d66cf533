import PyProof.Rows.All
import Wide.All
import OpenK.AllK
import Wide.FinOn
import HandS.ForMost
import HandS.Walk
import HandS.IsInst
import HandS.TupAny
import HandS.SortInts
import HandS.Style
import HandS.DictComp
import HandS.More
import KE.GoesEnum
import HandS.SetFor
import HandS.Strs
import PySem.Challenge.RW_whobeatwhom_k09_whole_walks_of_four_hund
import HandS.HeadHook1
set_option Elab.async false
set_option linter.all false
set_option maxRecDepth 100000
/-! VLa: Python data as trees, what stands for them in the abstract heap, ownership, the store. -/
namespace VL
open PySem L2

/-- data as a tree -/
inductive D where
  | non | bl (b : Bool) | int (i : Int) | str (x : Str)
  | tup (ds : List D) | lst (ds : List D)
  | dicK (ks : List Key) (ds : List D) | dicT (ks : List (List Key)) (ds : List D)
  | obj (C : Addr) (ns : List Str) (ds : List D)
  | fn (a : Addr)

mutual
/-- v stands for the data in the frozen heap F -/
def Rp (K : PySem.W.Frag) (F : Hp) : D → V → Prop
  | .non, v => v = .non
  | .bl b, v => v = .bl b
  | .int i, v => v = .int i
  | .str x, v => v = .str x
  | .tup ds, v => ∃ a vs, v = .ref a ∧ SqT K F a vs ∧ RpL K F ds vs
  | .lst ds, v => ∃ a vs, v = .ref a ∧ SqL K F a vs ∧ RpL K F ds vs
  | .dicK ks ds, v => ∃ a vs, v = .ref a ∧ Rd F a (.dK (ks.zip vs)) ∧ ks.length = ds.length ∧ RpL K F ds vs
  | .dicT ks ds, v => ∃ a vs, v = .ref a ∧ Rd F a (.dT (ks.zip vs)) ∧ ks.length = ds.length ∧ RpL K F ds vs
  | .obj C ns ds, v => ∃ a dx vs, v = .ref a ∧ F a = some (.ins C dx (ns.zip vs)) ∧ ns.length = ds.length ∧ RpL K F ds vs
  | .fn a, v => v = .ref a
def RpL (K : PySem.W.Frag) (F : Hp) : List D → List V → Prop
  | [], vs => vs = []
  | d :: ds, vs => ∃ v r, vs = v :: r ∧ Rp K F d v ∧ RpL K F ds r
end

section
variable {K : PySem.W.Frag} {F F' : Hp}
theorem Same.rd {a : Addr} {u : HO} (e : Same F F') (h : Rd F a u) : Rd F' a u := by
  rcases h with h | ⟨o, h⟩
  · exact .inl (e _ _ h)
  · exact .inr ⟨o, e _ _ h⟩
theorem Same.tupT {a : Addr} {xs : List V} (e : Same F F') (h : SqT K F a xs) : SqT K F' a xs := by
  rcases h with (h | ⟨o, h⟩) | h
  · exact .inl (.inl (e _ _ h))
  · exact .inl (.inr ⟨o, e _ _ h⟩)
  · exact .inr h
mutual
theorem Rp.mono (e : Same F F') : ∀ (d : D) (v : V), Rp K F d v → Rp K F' d v
  | .non, _, h => h
  | .bl _, _, h => h
  | .int _, _, h => h
  | .str _, _, h => h
  | .tup ds, v, h => by
    obtain ⟨a, vs, e1, h1, h2⟩ := (show ∃ a vs, v = .ref a ∧ SqT K F a vs ∧ RpL K F ds vs by simpa only [Rp] using h)
    simp only [Rp]
    exact ⟨a, vs, e1, Same.tupT e h1, RpL.mono e ds vs h2⟩
  | .lst ds, v, h => by
    obtain ⟨a, vs, e1, h1, h2⟩ := (show ∃ a vs, v = .ref a ∧ SqL K F a vs ∧ RpL K F ds vs by simpa only [Rp] using h)
    simp only [Rp]
    exact ⟨a, vs, e1, Same.seq e h1, RpL.mono e ds vs h2⟩
  | .dicK ks ds, v, h => by
    simp only [Rp] at h ⊢
    obtain ⟨a, vs, e1, h1, h3, h2⟩ := h
    exact ⟨a, vs, e1, Same.rd e h1, h3, RpL.mono e ds vs h2⟩
  | .dicT ks ds, v, h => by
    simp only [Rp] at h ⊢
    obtain ⟨a, vs, e1, h1, h3, h2⟩ := h
    exact ⟨a, vs, e1, Same.rd e h1, h3, RpL.mono e ds vs h2⟩
  | .obj C ns ds, v, h => by
    simp only [Rp] at h ⊢
    obtain ⟨a, dx, vs, e1, h1, h3, h2⟩ := h
    exact ⟨a, dx, vs, e1, e _ _ h1, h3, RpL.mono e ds vs h2⟩
  | .fn _, _, h => h
theorem RpL.mono (e : Same F F') : ∀ (ds : List D) (vs : List V), RpL K F ds vs → RpL K F' ds vs
  | [], _, h => h
  | d :: ds, vs, h => by
    simp only [RpL] at h ⊢
    obtain ⟨v, r, e1, h1, h2⟩ := h
    exact ⟨v, r, e1, Rp.mono e d v h1, RpL.mono e ds r h2⟩
end
theorem RpL.nil : RpL K F [] [] := rfl
theorem RpL.cons {d : D} {ds : List D} {v : V} {vs : List V} (h : Rp K F d v) (t : RpL K F ds vs) : RpL K F (d :: ds) (v :: vs) := by
  simp only [RpL]; exact ⟨v, vs, rfl, h, t⟩
theorem RpL.nil_inv {vs : List V} (h : RpL K F [] vs) : vs = [] := h
theorem RpL.cons_inv {d : D} {ds : List D} {vs : List V} (h : RpL K F (d :: ds) vs) : ∃ v r, vs = v :: r ∧ Rp K F d v ∧ RpL K F ds r := by
  simpa only [RpL] using h
theorem RpL.length : ∀ {ds : List D} {vs : List V}, RpL K F ds vs → ds.length = vs.length
  | [], vs, h => by rw [RpL.nil_inv h]; rfl
  | d :: ds, vs, h => by
    obtain ⟨v, r, rfl, _, t⟩ := RpL.cons_inv h
    simp [RpL.length t]
theorem RpL.get : ∀ {ds : List D} {vs : List V} {i : Nat} {d : D}, RpL K F ds vs → ds[i]? = some d → ∃ v, vs[i]? = some v ∧ Rp K F d v
  | [], _, _, _, _, e => by simp at e
  | d :: ds, vs, 0, x, h, e => by
    obtain ⟨v, r, rfl, h1, _⟩ := RpL.cons_inv h
    simp at e; subst e; exact ⟨v, rfl, h1⟩
  | d :: ds, vs, i + 1, x, h, e => by
    obtain ⟨v, r, rfl, _, t⟩ := RpL.cons_inv h
    obtain ⟨u, e1, e2⟩ := RpL.get (i := i) t (by simpa using e)
    exact ⟨u, by simpa using e1, e2⟩
theorem RpL.getV : ∀ {ds : List D} {vs : List V} {i : Nat} {v : V}, RpL K F ds vs → vs[i]? = some v → ∃ d, ds[i]? = some d ∧ Rp K F d v
  | [], vs, i, v, h, e => by rw [RpL.nil_inv h] at e; simp at e
  | d :: ds, vs, 0, x, h, e => by
    obtain ⟨v, r, rfl, h1, _⟩ := RpL.cons_inv h
    simp at e; subst e; exact ⟨d, rfl, h1⟩
  | d :: ds, vs, i + 1, x, h, e => by
    obtain ⟨v, r, rfl, _, t⟩ := RpL.cons_inv h
    obtain ⟨u, e1, e2⟩ := RpL.getV (i := i) t (by simpa using e)
    exact ⟨u, by simpa using e1, e2⟩
theorem RpL.append : ∀ {ds es : List D} {vs ws : List V}, RpL K F ds vs → RpL K F es ws → RpL K F (ds ++ es) (vs ++ ws)
  | [], es, vs, ws, h, t => by rw [RpL.nil_inv h]; exact t
  | d :: ds, es, vs, ws, h, t => by
    obtain ⟨v, r, rfl, h1, h2⟩ := RpL.cons_inv h
    exact RpL.cons h1 (RpL.append h2 t)
theorem RpL.of_get : ∀ {ds : List D} {vs : List V}, ds.length = vs.length → (∀ (i : Nat) (d : D) (v : V), ds[i]? = some d → vs[i]? = some v → Rp K F d v) → RpL K F ds vs
  | [], [], _, _ => RpL.nil
  | [], _ :: _, h, _ => by simp at h
  | _ :: _, [], h, _ => by simp at h
  | d :: ds, v :: vs, h, k => RpL.cons (k 0 d v rfl rfl) (RpL.of_get (by simpa using h) fun i x y e1 e2 => k (i + 1) x y (by simpa using e1) (by simpa using e2))
theorem RpL.get2 {ds : List D} {vs : List V} (h : RpL K F ds vs) : ∀ (i : Nat) (d : D) (v : V), ds[i]? = some d → vs[i]? = some v → Rp K F d v := fun i d v e1 e2 => by
  obtain ⟨u, e3, r⟩ := RpL.get h e1
  rw [e2] at e3; cases e3; exact r
theorem RpL.set {ds : List D} {vs : List V} {d : D} {v : V} (i : Nat) (h : RpL K F ds vs) (r : Rp K F d v) : RpL K F (ds.set i d) (vs.set i v) := by
  refine RpL.of_get (by simp [RpL.length h]) fun j x y e1 e2 => ?_
  have hl := RpL.length h
  by_cases hj : i = j
  · subst hj
    by_cases hi : i < ds.length
    · rw [List.getElem?_set_self hi] at e1; rw [List.getElem?_set_self (by omega)] at e2
      cases e1; cases e2; exact r
    · rw [List.getElem?_eq_none (by simpa using hi)] at e1; cases e1
  · rw [List.getElem?_set_ne hj] at e1 e2
    exact RpL.get2 h j x y e1 e2
theorem RpL.take {ds : List D} {vs : List V} (n : Nat) (h : RpL K F ds vs) : RpL K F (ds.take n) (vs.take n) := by
  have hl := RpL.length h
  refine RpL.of_get (by simp [hl]) fun j x y e1 e2 => ?_
  rw [List.getElem?_take] at e1 e2
  split at e1
  · rename_i hj; rw [if_pos hj] at e2; exact RpL.get2 h j x y e1 e2
  · cases e1
theorem RpL.drop {ds : List D} {vs : List V} (n : Nat) (h : RpL K F ds vs) : RpL K F (ds.drop n) (vs.drop n) := by
  have hl := RpL.length h
  refine RpL.of_get (by simp [hl]) fun j x y e1 e2 => ?_
  rw [List.getElem?_drop] at e1 e2
  exact RpL.get2 h _ x y e1 e2
theorem RpL.snoc {ds : List D} {vs : List V} {d : D} {v : V} (h : RpL K F ds vs) (r : Rp K F d v) : RpL K F (ds ++ [d]) (vs ++ [v]) := h.append (RpL.cons r RpL.nil)
theorem RpL.reverse {ds : List D} {vs : List V} (h : RpL K F ds vs) : RpL K F ds.reverse vs.reverse := by
  have hl := RpL.length h
  refine RpL.of_get (by simp [hl]) fun j x y e1 e2 => ?_
  have hj : j < ds.length := by
    have := (List.getElem?_eq_some_iff.mp e1).1
    simpa using this
  rw [List.getElem?_reverse hj] at e1
  rw [List.getElem?_reverse (by omega)] at e2
  rw [← hl] at e2
  exact RpL.get2 h _ x y e1 e2
/-- ints -/
theorem RpL.ints_inv : ∀ {ns : List Int} {vs : List V}, RpL K F (ns.map D.int) vs → vs = ns.map V.int
  | [], vs, h => RpL.nil_inv h
  | n :: ns, vs, h => by
    obtain ⟨v, r, rfl, h1, h2⟩ := RpL.cons_inv h
    have h1 : v = .int n := by simpa only [Rp] using h1
    rw [h1, RpL.ints_inv h2]; rfl
theorem RpL.ints : ∀ (ns : List Int), RpL K F (ns.map D.int) (ns.map V.int)
  | [] => RpL.nil
  | n :: ns => RpL.cons (by simp only [Rp]) (RpL.ints ns)
theorem RpL.bls_inv : ∀ {ns : List Bool} {vs : List V}, RpL K F (ns.map D.bl) vs → vs = ns.map V.bl
  | [], vs, h => RpL.nil_inv h
  | n :: ns, vs, h => by
    obtain ⟨v, r, rfl, h1, h2⟩ := RpL.cons_inv h
    have h1 : v = .bl n := by simpa only [Rp] using h1
    rw [h1, RpL.bls_inv h2]; rfl
end

/-! ### ownership -/
/-- the shape of what is owned: z: frozen; seq s: an owned list or dict of such; obj f: an owned instance, its attributes by name -/
inductive Sh where
  | z | seq (s : Sh) | obj (f : Str → Sh)

def OwL (R : D → V → List Addr → Prop) : List D → List V → List Addr → Prop
  | [], vs, fp => vs = [] ∧ fp = []
  | d :: ds, vs, fp => ∃ v r f1 f2, vs = v :: r ∧ R d v f1 ∧ OwL R ds r f2 ∧ fp = f1 ++ f2
def OwF (R : Str → D → V → List Addr → Prop) : List Str → List D → List V → List Addr → Prop
  | [], ds, vs, fp => ds = [] ∧ vs = [] ∧ fp = []
  | n :: ns, ds, vs, fp => ∃ d dr v r f1 f2, ds = d :: dr ∧ vs = v :: r ∧ R n d v f1 ∧ OwF R ns dr r f2 ∧ fp = f1 ++ f2
def SeqOw (K : PySem.W.Frag) (H F : Hp) (R : D → V → List Addr → Prop) : D → V → List Addr → Prop
  | .lst ds, v, fp => ∃ a vs fp', v = .ref a ∧ H a = some (.lst vs) ∧ OwL R ds vs fp' ∧ fp = a :: fp'
  | .dicK ks ds, v, fp => ∃ a vs fp', v = .ref a ∧ H a = some (.dK (ks.zip vs)) ∧ ks.length = ds.length ∧ OwL R ds vs fp' ∧ fp = a :: fp'
  | .dicT ks ds, v, fp => ∃ a vs fp', v = .ref a ∧ H a = some (.dT (ks.zip vs)) ∧ ks.length = ds.length ∧ OwL R ds vs fp' ∧ fp = a :: fp'
  | d, v, fp => Rp K F d v ∧ fp = []
def ObjOw (K : PySem.W.Frag) (H F : Hp) (R : Str → D → V → List Addr → Prop) : D → V → List Addr → Prop
  | .obj C ns ds, v, fp => ∃ a dx vs fp', v = .ref a ∧ H a = some (.ins C dx (ns.zip vs)) ∧ OwF R ns ds vs fp' ∧ fp = a :: fp'
  | d, v, fp => Rp K F d v ∧ fp = []
def Ow (K : PySem.W.Frag) (H F : Hp) : Sh → D → V → List Addr → Prop
  | .z => fun d v fp => Rp K F d v ∧ fp = []
  | .seq s => SeqOw K H F (Ow K H F s)
  | .obj f => ObjOw K H F (fun n => Ow K H F (f n))

section
variable {K : PySem.W.Frag} {H H' F F' : Hp}
theorem OwL.mono {R R' : D → V → List Addr → Prop} : ∀ {ds : List D} {vs : List V} {fp : List Addr}, OwL R ds vs fp → (∀ d v f, (∀ a ∈ f, a ∈ fp) → R d v f → R' d v f) → OwL R' ds vs fp
  | [], _, _, h, _ => h
  | d :: ds, vs, fp, h, k => by
    obtain ⟨v, r, f1, f2, rfl, h1, h2, rfl⟩ := h
    exact ⟨v, r, f1, f2, rfl, k _ _ _ (fun a m => List.mem_append_left _ m) h1, OwL.mono h2 (fun d v f m q => k d v f (fun a z => List.mem_append_right _ (m a z)) q), rfl⟩
theorem OwF.mono {R R' : Str → D → V → List Addr → Prop} : ∀ {ns : List Str} {ds : List D} {vs : List V} {fp : List Addr}, OwF R ns ds vs fp → (∀ n d v f, (∀ a ∈ f, a ∈ fp) → R n d v f → R' n d v f) → OwF R' ns ds vs fp
  | [], _, _, _, h, _ => h
  | n :: ns, ds, vs, fp, h, k => by
    obtain ⟨d, dr, v, r, f1, f2, rfl, rfl, h1, h2, rfl⟩ := h
    exact ⟨d, dr, v, r, f1, f2, rfl, rfl, k _ _ _ _ (fun a m => List.mem_append_left _ m) h1, OwF.mono h2 (fun n d v f m q => k n d v f (fun a z => List.mem_append_right _ (m a z)) q), rfl⟩
theorem OwL.length {R : D → V → List Addr → Prop} : ∀ {ds : List D} {vs : List V} {fp : List Addr}, OwL R ds vs fp → ds.length = vs.length
  | [], _, _, h => by rw [h.1]; rfl
  | d :: ds, vs, fp, h => by
    obtain ⟨v, r, f1, f2, rfl, _, h2, _⟩ := h
    simp [OwL.length h2]
theorem OwF.length {R : Str → D → V → List Addr → Prop} : ∀ {ns : List Str} {ds : List D} {vs : List V} {fp : List Addr}, OwF R ns ds vs fp → ns.length = ds.length ∧ ns.length = vs.length
  | [], _, _, _, h => by rw [h.1, h.2.1]; exact ⟨rfl, rfl⟩
  | n :: ns, ds, vs, fp, h => by
    obtain ⟨d, dr, v, r, f1, f2, rfl, rfl, _, h2, _⟩ := h
    have := OwF.length h2
    simp [this.1, ← this.2]
/-- the owned part is as it was, the frozen part has grown -/
theorem Ow.mono (e : Same F F') : ∀ {s : Sh} {d : D} {v : V} {fp : List Addr}, Ow K H F s d v fp → (∀ a ∈ fp, ∀ o, H a = some o → H' a = some o) → Ow K H' F' s d v fp := by
  intro s
  induction s with
  | z => intro d v fp h _; exact ⟨Rp.mono e _ _ h.1, h.2⟩
  | seq s ih =>
    intro d v fp h k
    cases d with
    | lst ds =>
      obtain ⟨a, vs, fp', e1, e2, h, rfl⟩ := h
      exact ⟨a, vs, fp', e1, k a List.mem_cons_self _ e2, OwL.mono h (fun d v f m q => ih q fun b hb => k b (List.mem_cons_of_mem _ (m b hb))), rfl⟩
    | dicK ks ds =>
      obtain ⟨a, vs, fp', e1, e2, e3, h, rfl⟩ := h
      exact ⟨a, vs, fp', e1, k a List.mem_cons_self _ e2, e3, OwL.mono h (fun d v f m q => ih q fun b hb => k b (List.mem_cons_of_mem _ (m b hb))), rfl⟩
    | dicT ks ds =>
      obtain ⟨a, vs, fp', e1, e2, e3, h, rfl⟩ := h
      exact ⟨a, vs, fp', e1, k a List.mem_cons_self _ e2, e3, OwL.mono h (fun d v f m q => ih q fun b hb => k b (List.mem_cons_of_mem _ (m b hb))), rfl⟩
    | _ => exact ⟨Rp.mono e _ _ h.1, h.2⟩
  | obj f ih =>
    intro d v fp h k
    cases d with
    | obj C ns ds =>
      obtain ⟨a, dx, vs, fp', e1, e2, h, rfl⟩ := h
      exact ⟨a, dx, vs, fp', e1, k a List.mem_cons_self _ e2, OwF.mono h (fun n d v f m q => ih n q fun b hb => k b (List.mem_cons_of_mem _ (m b hb))), rfl⟩
    | _ => exact ⟨Rp.mono e _ _ h.1, h.2⟩
theorem OwL.live {R : D → V → List Addr → Prop} (k : ∀ d v f, R d v f → ∀ a ∈ f, ∃ o, H a = some o) : ∀ {ds : List D} {vs : List V} {fp : List Addr}, OwL R ds vs fp → ∀ a ∈ fp, ∃ o, H a = some o
  | [], _, _, h, a, m => by rw [h.2] at m; cases m
  | d :: ds, vs, fp, h, a, m => by
    obtain ⟨v, r, f1, f2, rfl, h1, h2, rfl⟩ := h
    exact (List.mem_append.mp m).elim (k _ _ _ h1 a) (OwL.live k h2 a)
theorem OwF.live {R : Str → D → V → List Addr → Prop} (k : ∀ n d v f, R n d v f → ∀ a ∈ f, ∃ o, H a = some o) : ∀ {ns : List Str} {ds : List D} {vs : List V} {fp : List Addr}, OwF R ns ds vs fp → ∀ a ∈ fp, ∃ o, H a = some o
  | [], _, _, _, h, a, m => by rw [h.2.2] at m; cases m
  | n :: ns, ds, vs, fp, h, a, m => by
    obtain ⟨d, dr, v, r, f1, f2, rfl, rfl, h1, h2, rfl⟩ := h
    exact (List.mem_append.mp m).elim (k _ _ _ _ h1 a) (OwF.live k h2 a)
theorem Ow.live : ∀ {s : Sh} {d : D} {v : V} {fp : List Addr}, Ow K H F s d v fp → ∀ a ∈ fp, ∃ o, H a = some o := by
  intro s
  induction s with
  | z => intro d v fp h a m; rw [h.2] at m; cases m
  | seq s ih =>
    intro d v fp h a m
    cases d with
    | lst ds =>
      obtain ⟨b, vs, fp', e1, e2, h, rfl⟩ := h
      rcases List.mem_cons.mp m with rfl | m
      · exact ⟨_, e2⟩
      · exact OwL.live (fun d v f q => ih q) h a m
    | dicK ks ds =>
      obtain ⟨b, vs, fp', e1, e2, e3, h, rfl⟩ := h
      rcases List.mem_cons.mp m with rfl | m
      · exact ⟨_, e2⟩
      · exact OwL.live (fun d v f q => ih q) h a m
    | dicT ks ds =>
      obtain ⟨b, vs, fp', e1, e2, e3, h, rfl⟩ := h
      rcases List.mem_cons.mp m with rfl | m
      · exact ⟨_, e2⟩
      · exact OwL.live (fun d v f q => ih q) h a m
    | _ => rw [h.2] at m; cases m
  | obj f ih =>
    intro d v fp h a m
    cases d with
    | obj C ns ds =>
      obtain ⟨b, dx, vs, fp', e1, e2, h, rfl⟩ := h
      rcases List.mem_cons.mp m with rfl | m
      · exact ⟨_, e2⟩
      · exact OwF.live (fun n d v f q => ih n q) h a m
    | _ => rw [h.2] at m; cases m
theorem OwL.rp {R : D → V → List Addr → Prop} : ∀ {ds : List D} {vs : List V} {fp : List Addr}, OwL R ds vs fp → (∀ d v f, (∀ a ∈ f, a ∈ fp) → R d v f → Rp K F d v) → RpL K F ds vs
  | [], _, _, h, _ => h.1
  | d :: ds, vs, fp, h, k => by
    obtain ⟨v, r, f1, f2, rfl, h1, h2, rfl⟩ := h
    exact RpL.cons (k _ _ _ (fun a m => List.mem_append_left _ m) h1) (OwL.rp h2 fun d v f m q => k d v f (fun a z => List.mem_append_right _ (m a z)) q)
theorem OwF.rp {R : Str → D → V → List Addr → Prop} : ∀ {ns : List Str} {ds : List D} {vs : List V} {fp : List Addr}, OwF R ns ds vs fp → (∀ n d v f, (∀ a ∈ f, a ∈ fp) → R n d v f → Rp K F d v) → RpL K F ds vs
  | [], _, _, _, h, _ => by rw [h.1, h.2.1]; exact RpL.nil
  | n :: ns, ds, vs, fp, h, k => by
    obtain ⟨d, dr, v, r, f1, f2, rfl, rfl, h1, h2, rfl⟩ := h
    exact RpL.cons (k _ _ _ _ (fun a m => List.mem_append_left _ m) h1) (OwF.rp h2 fun n d v f m q => k n d v f (fun a z => List.mem_append_right _ (m a z)) q)
/-- in a heap that holds the frozen part and the owned objects the data is read whole -/
theorem Ow.rp (e : Same F F') : ∀ {s : Sh} {d : D} {v : V} {fp : List Addr}, Ow K H F s d v fp → (∀ a ∈ fp, ∀ o, H a = some o → F' a = some o) → Rp K F' d v := by
  intro s
  induction s with
  | z => intro d v fp h _; exact Rp.mono e _ _ h.1
  | seq s ih =>
    intro d v fp h k
    cases d with
    | lst ds =>
      obtain ⟨a, vs, fp', e1, e2, h, rfl⟩ := h
      simp only [Rp]
      exact ⟨a, vs, e1, SqL.of (k a List.mem_cons_self _ e2), OwL.rp h fun d v f m q => ih q fun b hb => k b (List.mem_cons_of_mem _ (m b hb))⟩
    | dicK ks ds =>
      obtain ⟨a, vs, fp', e1, e2, e3, h, rfl⟩ := h
      simp only [Rp]
      exact ⟨a, vs, e1, .inl (k a List.mem_cons_self _ e2), e3, OwL.rp h fun d v f m q => ih q fun b hb => k b (List.mem_cons_of_mem _ (m b hb))⟩
    | dicT ks ds =>
      obtain ⟨a, vs, fp', e1, e2, e3, h, rfl⟩ := h
      simp only [Rp]
      exact ⟨a, vs, e1, .inl (k a List.mem_cons_self _ e2), e3, OwL.rp h fun d v f m q => ih q fun b hb => k b (List.mem_cons_of_mem _ (m b hb))⟩
    | _ => exact Rp.mono e _ _ h.1
  | obj f ih =>
    intro d v fp h k
    cases d with
    | obj C ns ds =>
      obtain ⟨a, dx, vs, fp', e1, e2, h, rfl⟩ := h
      have hl := (OwF.length h).1
      simp only [Rp]
      exact ⟨a, dx, vs, e1, k a List.mem_cons_self _ e2, hl, OwF.rp h fun n d v f m q => ih n q fun b hb => k b (List.mem_cons_of_mem _ (m b hb))⟩
    | _ => exact Rp.mono e _ _ h.1
end

/-! ### the store -/
abbrev Slot := Option (Sh × D)
abbrev Sto := List Slot
structure RelW (K : PySem.W.Frag) (G : Hp) (ρ : Sto) (σ : St) (H F : Hp) (fps : Nat → List Addr) : Prop where
  slot : ∀ i s d, ρ[i]? = some (some (s, d)) → ∃ v, σ[i]? = some (some v) ∧ Ow K H F s d v (fps i)
  nd : ∀ i, (fps i).Nodup
  dis : ∀ i j a, a ∈ fps i → a ∈ fps j → i = j
  out : ∀ i a, a ∈ fps i → F a = none ∧ G a = none ∧ ∃ o, H a = some o
  len : ρ.length = σ.length
  sub : Same F H
  gsub : Same G H
  fg : ∀ a o, F a = some o → G a = none
/-- ρ tells the slots σ over the heap H: F the frozen part, G what must stay -/
def Rel (K : PySem.W.Frag) (G : Hp) (ρ : Sto) (σ : St) (H F : Hp) : Prop := ∃ fps, RelW K G ρ σ H F fps

section
variable {K : PySem.W.Frag} {G ρ σ H H' F F'}
theorem Rel.sub (h : Rel K G ρ σ H F) : Same F H := let ⟨_, w⟩ := h; w.sub
theorem Rel.gsub (h : Rel K G ρ σ H F) : Same G H := let ⟨_, w⟩ := h; w.gsub
theorem Rel.len (h : Rel K G ρ σ H F) : ρ.length = σ.length := let ⟨_, w⟩ := h; w.len
theorem Same.upd {H : Hp} {p : Addr} {o : HO} (h : H p = none) : Same H (upd H p o) := fun b u e => by rw [upd_ne (ne_of_none e h)]; exact e
/-- new objects that nobody tells -/
theorem Rel.grow (h : Rel K G ρ σ H F) (e : Same H H') : Rel K G ρ σ H' F := by
  obtain ⟨fps, w⟩ := h
  refine ⟨fps, fun i s d q => ?_, w.nd, w.dis, fun i a m => ?_, w.len, fun a o q => e _ _ (w.sub _ _ q), fun a o q => e _ _ (w.gsub _ _ q), w.fg⟩
  · obtain ⟨v, q1, q2⟩ := w.slot i s d q
    exact ⟨v, q1, q2.mono (Same.refl _) fun a _ o q => e a o q⟩
  · obtain ⟨q1, q2, o, q3⟩ := w.out i a m
    exact ⟨q1, q2, o, e _ _ q3⟩
/-- a new frozen object -/
theorem Rel.put {p : Addr} {o : HO} (h : Rel K G ρ σ H F) (hp : H p = none) : Rel K G ρ σ (L2.upd H p o) (L2.upd F p o) := by
  obtain ⟨fps, w⟩ := h
  have hF : F p = none := Same.free w.sub hp
  have hG : G p = none := Same.free w.gsub hp
  have ne : ∀ i a, a ∈ fps i → a ≠ p := fun i a m z => by
    obtain ⟨_, _, o, q⟩ := w.out i a m
    rw [z, hp] at q; cases q
  refine ⟨fps, fun i s d q => ?_, w.nd, w.dis, fun i a m => ?_, w.len, fun a u q => ?_, fun a u q => ?_, fun a u q => ?_⟩
  · obtain ⟨v, q1, q2⟩ := w.slot i s d q
    exact ⟨v, q1, q2.mono (Same.upd hF) fun a m o q => by rw [upd_ne (ne i a m)]; exact q⟩
  · obtain ⟨q1, q2, o, q3⟩ := w.out i a m
    exact ⟨by rw [upd_ne (ne i a m)]; exact q1, q2, o, by rw [upd_ne (ne i a m)]; exact q3⟩
  · by_cases z : a = p
    · subst z; rw [upd_same] at q ⊢; exact q
    · rw [upd_ne z] at q ⊢; exact w.sub _ _ q
  · exact Same.upd hp a u (w.gsub a u q)
  · by_cases z : a = p
    · rw [z]; exact hG
    · rw [upd_ne z] at q; exact w.fg a u q
theorem Rel.get {i : Nat} {s : Sh} {d : D} (h : Rel K G ρ σ H F) (e : ρ[i]? = some (some (s, d))) : ∃ v fp, σ[i]? = some (some v) ∧ Ow K H F s d v fp := by
  obtain ⟨fps, w⟩ := h
  obtain ⟨v, q1, q2⟩ := w.slot i s d e
  exact ⟨v, _, q1, q2⟩
theorem Rel.getz {i : Nat} {d : D} (h : Rel K G ρ σ H F) (e : ρ[i]? = some (some (.z, d))) : ∃ v, σ[i]? = some (some v) ∧ Rp K F d v := by
  obtain ⟨v, fp, q1, q2⟩ := h.get e
  exact ⟨v, q1, q2.1⟩
theorem Rel.get0 {s : Sh} {d : D} {v : V} (h : Rel K G (some (s, d) :: ρ) (some v :: σ) H F) : ∃ fp, Ow K H F s d v fp := by
  obtain ⟨u, fp, q1, q2⟩ := h.get (i := 0) rfl
  simp at q1; subst q1; exact ⟨fp, q2⟩
/-- the footprints with one more ahead -/
def shiftF (f0 : List Addr) (fps : Nat → List Addr) : Nat → List Addr
  | 0 => f0
  | i + 1 => fps i
theorem Rel.addz {d : D} {v : V} (h : Rel K G ρ σ H F) (r : Rp K F d v) : Rel K G (some (.z, d) :: ρ) (some v :: σ) H F := by
  obtain ⟨fps, w⟩ := h
  refine ⟨shiftF [] fps, fun i s d' q => ?_, fun i => ?_, fun i j a m1 m2 => ?_, fun i a m => ?_, by simp [w.len], w.sub, w.gsub, w.fg⟩
  · cases i with
    | zero => simp at q; obtain ⟨rfl, rfl⟩ := q; exact ⟨v, rfl, r, rfl⟩
    | succ i => exact w.slot i s d' (by simpa using q)
  · cases i with
    | zero => exact List.nodup_nil
    | succ i => exact w.nd i
  · cases i with
    | zero => cases m1
    | succ i =>
      cases j with
      | zero => cases m2
      | succ j => exact congrArg _ (w.dis i j a m1 m2)
  · cases i with
    | zero => cases m
    | succ i => exact w.out i a m
theorem Rel.drop {x : Slot} {y : Option V} (h : Rel K G (x :: ρ) (y :: σ) H F) : Rel K G ρ σ H F := by
  obtain ⟨fps, w⟩ := h
  refine ⟨fun i => fps (i + 1), fun i s d q => ?_, fun i => w.nd _, fun i j a m1 m2 => ?_, fun i a m => w.out _ a m, by simpa using w.len, w.sub, w.gsub, w.fg⟩
  · obtain ⟨v, q1, q2⟩ := w.slot (i + 1) s d (by simpa using q)
    exact ⟨v, by simpa using q1, q2⟩
  · have := w.dis (i + 1) (j + 1) a m1 m2; omega
/-- the slot ahead goes to the i-th place -/
theorem Rel.store {i : Nat} {s : Sh} {d : D} {v : V} (h : Rel K G (some (s, d) :: ρ) (some v :: σ) H F) : Rel K G (ρ.set i (some (s, d))) (σ.set i (some v)) H F := by
  obtain ⟨fps, w⟩ := h
  have hl : ρ.length = σ.length := by simpa using w.len
  refine ⟨fun j => if j = i then fps 0 else fps (j + 1), fun j s' d' q => ?_, fun j => ?_, fun j k a m1 m2 => ?_, fun j a m => ?_, by simp [hl], w.sub, w.gsub, w.fg⟩
  · by_cases hj : j = i
    · subst hj
      have hi : j < ρ.length := by
        have := (List.getElem?_eq_some_iff.mp q).1; simpa using this
      rw [List.getElem?_set_self hi] at q
      cases q
      rw [List.getElem?_set_self (by omega)]
      obtain ⟨u, q1, q2⟩ := w.slot 0 s d rfl
      simp at q1; subst q1
      simp only [if_true]
      exact ⟨v, rfl, q2⟩
    · rw [List.getElem?_set_ne (Ne.symm hj)] at q
      rw [List.getElem?_set_ne (Ne.symm hj), if_neg hj]
      obtain ⟨u, q1, q2⟩ := w.slot (j + 1) s' d' (by simpa using q)
      exact ⟨u, by simpa using q1, q2⟩
  · show (if j = i then fps 0 else fps (j + 1)).Nodup
    split
    · exact w.nd 0
    · exact w.nd _
  · have m1 : a ∈ (if j = i then fps 0 else fps (j + 1)) := m1
    have m2 : a ∈ (if k = i then fps 0 else fps (k + 1)) := m2
    split at m1 <;> split at m2
    · omega
    · have := w.dis _ _ a m1 m2; omega
    · have := w.dis _ _ a m1 m2; omega
    · have := w.dis _ _ a m1 m2; omega
  · have m : a ∈ (if j = i then fps 0 else fps (j + 1)) := m
    split at m
    · exact w.out _ a m
    · exact w.out _ a m
theorem Rel.storez {i : Nat} {d : D} {v : V} (h : Rel K G ρ σ H F) (r : Rp K F d v) : Rel K G (ρ.set i (some (.z, d))) (σ.set i (some v)) H F := (h.addz r).store
/-- a slot is forgotten -/
theorem Rel.forget {i : Nat} (h : Rel K G ρ σ H F) : Rel K G (ρ.set i none) σ H F := by
  obtain ⟨fps, w⟩ := h
  refine ⟨fps, fun j s' d' q => ?_, w.nd, w.dis, w.out, by simp [w.len], w.sub, w.gsub, w.fg⟩
  by_cases hj : j = i
  · subst hj
    rw [List.getElem?_set] at q
    simp at q
  · rw [List.getElem?_set_ne (Ne.symm hj)] at q
    exact w.slot j s' d' q
theorem Rel.forgetV {i : Nat} {o : Option V} (h : Rel K G ρ σ H F) : Rel K G (ρ.set i none) (σ.set i o) H F := by
  obtain ⟨fps, w⟩ := h
  refine ⟨fps, fun j s' d' q => ?_, w.nd, w.dis, w.out, by simp [w.len], w.sub, w.gsub, w.fg⟩
  by_cases hj : j = i
  · subst hj
    rw [List.getElem?_set] at q
    simp at q
  · rw [List.getElem?_set_ne (Ne.symm hj)] at q ⊢
    exact w.slot j s' d' q
/-- the i-th slot is moved ahead -/
theorem Rel.move {i : Nat} {s : Sh} {d : D} (h : Rel K G ρ σ H F) (e : ρ[i]? = some (some (s, d))) : ∃ v, σ[i]? = some (some v) ∧ Rel K G (some (s, d) :: ρ.set i none) (some v :: σ) H F := by
  obtain ⟨fps, w⟩ := h
  obtain ⟨v, q1, q2⟩ := w.slot i s d e
  refine ⟨v, q1, shiftF (fps i) (fun j => if j = i then [] else fps j), fun j s' d' q => ?_, fun j => ?_, fun j k a m1 m2 => ?_, fun j a m => ?_, by simp [w.len], w.sub, w.gsub, w.fg⟩
  · cases j with
    | zero => simp at q; obtain ⟨rfl, rfl⟩ := q; exact ⟨v, rfl, q2⟩
    | succ j =>
      have q : (ρ.set i none)[j]? = some (some (s', d')) := by simpa using q
      by_cases hj : j = i
      · subst hj; rw [List.getElem?_set] at q; simp at q
      · rw [List.getElem?_set_ne (Ne.symm hj)] at q
        obtain ⟨u, q3, q4⟩ := w.slot j s' d' q
        refine ⟨u, by simpa using q3, ?_⟩
        show Ow K H F s' d' u (if j = i then [] else fps j)
        rw [if_neg hj]; exact q4
  · cases j with
    | zero => exact w.nd i
    | succ j =>
      show (if j = i then [] else fps j).Nodup
      split
      · exact List.nodup_nil
      · exact w.nd j
  · cases j with
    | zero =>
      cases k with
      | zero => rfl
      | succ k =>
        have m2 : a ∈ (if k = i then [] else fps k) := m2
        split at m2
        · cases m2
        · exact absurd (w.dis i k a m1 m2) (Ne.symm ‹_›)
    | succ j =>
      have m1 : a ∈ (if j = i then [] else fps j) := m1
      split at m1
      · cases m1
      · cases k with
        | zero => exact absurd (w.dis j i a m1 m2) ‹_›
        | succ k =>
          have m2 : a ∈ (if k = i then [] else fps k) := m2
          split at m2
          · cases m2
          · exact congrArg _ (w.dis j k a m1 m2)
  · cases j with
    | zero => exact w.out i a m
    | succ j =>
      have m : a ∈ (if j = i then [] else fps j) := m
      split at m
      · cases m
      · exact w.out j a m
/-- what is ahead is frozen -/
theorem Rel.freeze {s : Sh} {d : D} {v : V} (h : Rel K G (some (s, d) :: ρ) (some v :: σ) H F) : ∃ F', Same F F' ∧ Rel K G (some (.z, d) :: ρ) (some v :: σ) H F' ∧ Rp K F' d v := by
  obtain ⟨fps, w⟩ := h
  obtain ⟨u, q1, q2⟩ := w.slot 0 s d rfl
  simp at q1; subst q1
  let F' : Hp := fun a => if a ∈ fps 0 then H a else F a
  have e : Same F F' := fun a o q => by
    show (if a ∈ fps 0 then H a else F a) = some o
    split
    · rename_i m
      have := (w.out 0 a m).1
      rw [q] at this; cases this
    · exact q
  have r : Rp K F' d v := q2.rp e fun a m o q => by
    show (if a ∈ fps 0 then H a else F a) = some o
    rw [if_pos m]; exact q
  have hs : Same F' H := fun a o q => by
    have q : (if a ∈ fps 0 then H a else F a) = some o := q
    split at q
    · exact q
    · exact w.sub a o q
  refine ⟨F', e, ?_, r⟩
  have base : Rel K G ρ σ H F' := by
    refine ⟨fun i => fps (i + 1), fun i s' d' q => ?_, fun i => w.nd _, fun i j a m1 m2 => ?_, fun i a m => ?_, by simpa using w.len, hs, w.gsub, fun a o q => ?_⟩
    · obtain ⟨v', q3, q4⟩ := w.slot (i + 1) s' d' (by simpa using q)
      exact ⟨v', by simpa using q3, q4.mono e fun a _ o q => q⟩
    · have := w.dis (i + 1) (j + 1) a m1 m2; omega
    · obtain ⟨q3, q4, q5⟩ := w.out (i + 1) a m
      refine ⟨?_, q4, q5⟩
      show (if a ∈ fps 0 then H a else F a) = none
      rw [if_neg (fun m0 => by have := w.dis _ _ a m0 m; omega)]; exact q3
    · have q : (if a ∈ fps 0 then H a else F a) = some o := q
      split at q
      · exact (w.out 0 a ‹_›).2.1
      · exact w.fg a o q
  exact base.addz r
/-- what is ahead is hidden in what must stay -/
theorem Rel.frame {x : Slot} {y : Option V} (h : Rel K G (x :: ρ) (y :: σ) H F) : ∃ G', Rel K G' ρ σ H F ∧
    ∀ ρ' σ' H' F', Same F F' → Rel K G' ρ' σ' H' F' → Rel K G (x :: ρ') (y :: σ') H' F' := by
  obtain ⟨fps, w⟩ := h
  let G' : Hp := fun a => if a ∈ fps 0 then H a else G a
  have hG : Same G G' := fun a o q => by
    show (if a ∈ fps 0 then H a else G a) = some o
    split
    · exact w.gsub a o q
    · exact q
  refine ⟨G', ⟨fun i => fps (i + 1), fun i s' d' q => ?_, fun i => w.nd _, fun i j a m1 m2 => ?_, fun i a m => ?_, by simpa using w.len, w.sub, fun a o q => ?_, fun a o q => ?_⟩, ?_⟩
  · obtain ⟨v', q3, q4⟩ := w.slot (i + 1) s' d' (by simpa using q)
    exact ⟨v', by simpa using q3, q4⟩
  · have := w.dis (i + 1) (j + 1) a m1 m2; omega
  · obtain ⟨q3, q4, q5⟩ := w.out (i + 1) a m
    refine ⟨q3, ?_, q5⟩
    show (if a ∈ fps 0 then H a else G a) = none
    rw [if_neg (fun m0 => by have := w.dis _ _ a m0 m; omega)]; exact q4
  · have q : (if a ∈ fps 0 then H a else G a) = some o := q
    split at q
    · exact q
    · exact w.gsub a o q
  · show (if a ∈ fps 0 then H a else G a) = none
    split
    · have := (w.out 0 a ‹_›).1
      rw [q] at this; cases this
    · exact w.fg a o q
  · rintro ρ' σ' H' F' e ⟨fps', w'⟩
    have k0 : ∀ a ∈ fps 0, ∀ o, H a = some o → H' a = some o := fun a m o q => w'.gsub a o (by
      show (if a ∈ fps 0 then H a else G a) = some o
      rw [if_pos m]; exact q)
    have g0 : ∀ a ∈ fps 0, ∃ o, G' a = some o := fun a m => by
      obtain ⟨_, _, o, q⟩ := w.out 0 a m
      exact ⟨o, by show (if a ∈ fps 0 then H a else G a) = some o; rw [if_pos m]; exact q⟩
    refine ⟨shiftF (fps 0) fps', fun i s' d' q => ?_, fun i => ?_, fun i j a m1 m2 => ?_, fun i a m => ?_, by simp [w'.len], w'.sub, fun a o q => w'.gsub a o (hG a o q), fun a o q => ?_⟩
    · cases i with
      | zero =>
        obtain ⟨v', q3, q4⟩ := w.slot 0 s' d' (by simpa using q)
        exact ⟨v', by simpa using q3, q4.mono e k0⟩
      | succ i => exact w'.slot i s' d' (by simpa using q)
    · cases i with
      | zero => exact w.nd 0
      | succ i => exact w'.nd i
    · have x0 : ∀ i a, a ∈ fps 0 → a ∈ fps' i → False := fun i a m1 m2 => by
        obtain ⟨o, q⟩ := g0 a m1
        have := (w'.out i a m2).2.1
        rw [q] at this; cases this
      cases i with
      | zero =>
        cases j with
        | zero => rfl
        | succ j => exact (x0 j a m1 m2).elim
      | succ i =>
        cases j with
        | zero => exact (x0 i a m2 m1).elim
        | succ j => exact congrArg _ (w'.dis i j a m1 m2)
    · cases i with
      | zero =>
        obtain ⟨q1, q2, o, q3⟩ := w.out 0 a m
        obtain ⟨o', q4⟩ := g0 a m
        refine ⟨?_, q2, o, k0 a m o q3⟩
        cases q5 : F' a with
        | none => rfl
        | some u => have := w'.fg a u q5; rw [q4] at this; cases this
      | succ i =>
        obtain ⟨q1, q2, q3⟩ := w'.out i a m
        refine ⟨q1, ?_, q3⟩
        exact Same.free hG q2
    · have := w'.fg a o q
      exact Same.free hG this
end
end VL

set_option Elab.async false
set_option linter.all false
set_option maxRecDepth 100000
/-! VLb: judgements by value: expressions (pure, fresh, with effects), tests, arguments, targets, what is walked, statements, calls. -/
namespace VL
open PySem L2

/-! ### the readings -/
/-- pure: the value is told at shape s (z: frozen; else borrowed) -/
def tP (K : PySem.W.Frag) (s : Sh) (f : Sto → Option D) : TE := fun σ H Q => ∃ G ρ F d, f ρ = some d ∧ Rel K G ρ σ H F ∧
  ∀ v H' F', Same F F' → Same H H' → Rel K G ρ σ H' F' → (∃ fp, Ow K H' F' s d v fp) → Q v H'
/-- pure: the value is new, owned at shape s -/
def tPF (K : PySem.W.Frag) (s : Sh) (f : Sto → Option D) : TE := fun σ H Q => ∃ G ρ F d, f ρ = some d ∧ Rel K G ρ σ H F ∧
  ∀ v H' F', Same F F' → Same H H' → Rel K G (some (s, d) :: ρ) (some v :: σ) H' F' → Q v H'
/-- with effects: a frozen value -/
def tE (K : PySem.W.Frag) (f : Sto → Option (D × Sto)) : TE := fun σ H Q => ∃ G ρ F d ρ', f ρ = some (d, ρ') ∧ Rel K G ρ σ H F ∧
  ∀ v H' F', Same F F' → Rel K G ρ' σ H' F' → Rp K F' d v → Q v H'
/-- with effects: a new value, owned at shape s -/
def tEF (K : PySem.W.Frag) (s : Sh) (f : Sto → Option (D × Sto)) : TE := fun σ H Q => ∃ G ρ F d ρ', f ρ = some (d, ρ') ∧ Rel K G ρ σ H F ∧
  ∀ v H' F', Same F F' → Rel K G (some (s, d) :: ρ') (some v :: σ) H' F' → Q v H'
def tPT (K : PySem.W.Frag) (f : Sto → Option Bool) : TT := fun σ H Q => ∃ G ρ F b, f ρ = some b ∧ Rel K G ρ σ H F ∧
  ∀ H' F', Same F F' → Same H H' → Rel K G ρ σ H' F' → Q b H'
def tET (K : PySem.W.Frag) (f : Sto → Option (Bool × Sto)) : TT := fun σ H Q => ∃ G ρ F b ρ', f ρ = some (b, ρ') ∧ Rel K G ρ σ H F ∧
  ∀ H' F', Same F F' → Rel K G ρ' σ H' F' → Q b H'
def tPA (K : PySem.W.Frag) (f : Sto → Option (List D)) : TA := fun σ H Q => ∃ G ρ F ds, f ρ = some ds ∧ Rel K G ρ σ H F ∧
  ∀ vs H' F', Same F F' → Same H H' → Rel K G ρ σ H' F' → RpL K F' ds vs → Q vs H'
def tEA (K : PySem.W.Frag) (f : Sto → Option (List D × Sto)) : TA := fun σ H Q => ∃ G ρ F ds ρ', f ρ = some (ds, ρ') ∧ Rel K G ρ σ H F ∧
  ∀ vs H' F', Same F F' → Rel K G ρ' σ H' F' → RpL K F' ds vs → Q vs H'

abbrev PV (X : Cx) (s : Sh) (e : Expr) (f : Sto → Option D) : Prop := PE X e (tP X.K s f)
abbrev FP (X : Cx) (s : Sh) (e : Expr) (f : Sto → Option D) : Prop := PE X e (tPF X.K s f)
abbrev EV (X : Cx) (e : Expr) (f : Sto → Option (D × Sto)) : Prop := PE X e (tE X.K f)
abbrev EF (X : Cx) (s : Sh) (e : Expr) (f : Sto → Option (D × Sto)) : Prop := PE X e (tEF X.K s f)
abbrev PTV (X : Cx) (e : Expr) (f : Sto → Option Bool) : Prop := PT X e (tPT X.K f)
abbrev ETV (X : Cx) (e : Expr) (f : Sto → Option (Bool × Sto)) : Prop := PT X e (tET X.K f)
abbrev PWV (X : Cx) (e : Expr) (f : Sto → Option Bool) : Prop := PW X e (tPT X.K f)
abbrev EWV (X : Cx) (e : Expr) (f : Sto → Option (Bool × Sto)) : Prop := PW X e (tET X.K f)
abbrev PAV (X : Cx) (es : List Expr) (f : Sto → Option (List D)) : Prop := PA X es (tPA X.K f)
abbrev EAV (X : Cx) (es : List Expr) (f : Sto → Option (List D × Sto)) : Prop := PA X es (tEA X.K f)

/-! ### readings made weaker -/
section
variable {X : Cx}
theorem pe_imp {e : Expr} {t t' : TE} (h : PE X e t) (k : ∀ σ H Q, t' σ H Q → t σ H Q) : PE X e t' := ⟨fun pins s σ H Q I q => h.run pins s σ H Q I (k σ H Q q)⟩
theorem pt_imp {e : Expr} {t t' : TT} (h : PT X e t) (k : ∀ σ H Q, t' σ H Q → t σ H Q) : PT X e t' := ⟨fun pins s σ H Q I q => h.run pins s σ H Q I (k σ H Q q)⟩
theorem pw_imp {e : Expr} {t t' : TT} (h : PW X e t) (k : ∀ σ H Q, t' σ H Q → t σ H Q) : PW X e t' := ⟨fun wh pins s σ H Q I q => h.run wh pins s σ H Q I (k σ H Q q)⟩
theorem pa_imp {e : List Expr} {t t' : TA} (h : PA X e t) (k : ∀ σ H Q, t' σ H Q → t σ H Q) : PA X e t' := ⟨fun pos pins s σ H Q I q => h.run pos pins s σ H Q I (k σ H Q q)⟩
theorem ps_imp {e : Stmt} {t t' : TS} (h : PS X e t) (k : ∀ D σ H, t' D σ H → t D σ H) : PS X e t' := ⟨fun pins s σ H D I q => h.run pins s σ H D I (k D σ H q)⟩
theorem pss_imp {e : List Stmt} {t t' : TS} (h : PSs X e t) (k : ∀ D σ H, t' D σ H → t D σ H) : PSs X e t' := ⟨fun pins s σ H D I q => h.run pins s σ H D I (k D σ H q)⟩
theorem pg_imp {e : Expr} {t t' : TG} (h : PG X e t) (k : ∀ v σ H Q, t' v σ H Q → t v σ H Q) : PG X e t' := ⟨fun pins s σ H v u Q I r q => h.run pins s σ H v u Q I r (k v σ H Q q)⟩
theorem pi_imp {tg e : Expr} {t t' : TI} (h : PI X tg e t) (k : ∀ σ H R, t' σ H R → t σ H R) : PI X tg e t' := ⟨fun pins s σ H R I q => h.run pins s σ H R I (k σ H R q)⟩

/-! ### from one kind to another -/
variable {s : Sh} {e : Expr} {f : Sto → Option D} {fe : Sto → Option (D × Sto)}
/-- what is new is read, frozen -/
theorem FP.pv (h : FP X s e f) : PV X .z e f := by
  refine pe_imp h fun σ H Q ⟨G, ρ, F, d, e1, R, k⟩ => ⟨G, ρ, F, d, e1, R, fun v H' F' s1 s2 R' => ?_⟩
  obtain ⟨F2, s3, R2, r⟩ := R'.freeze
  exact k v H' F2 (s1.trans s3) s2 R2.drop ⟨[], r, rfl⟩
/-- what is new is read as it is -/
theorem FP.pb (h : FP X s e f) : PV X s e f := by
  refine pe_imp h fun σ H Q ⟨G, ρ, F, d, e1, R, k⟩ => ⟨G, ρ, F, d, e1, R, fun v H' F' s1 s2 R' => ?_⟩
  exact k v H' F' s1 s2 R'.drop R'.get0
/-- a frozen value is new at z -/
theorem PV.fp (h : PV X .z e f) : FP X .z e f := by
  refine pe_imp h fun σ H Q ⟨G, ρ, F, d, e1, R, k⟩ => ⟨G, ρ, F, d, e1, R, fun v H' F' s1 s2 R' ⟨fp, r⟩ => ?_⟩
  exact k v H' F' s1 s2 (R'.addz r.1)
def up (f : Sto → Option D) : Sto → Option (D × Sto) := fun ρ => (f ρ).map fun d => (d, ρ)
theorem up_some {ρ ρ' : Sto} {d : D} (h : up f ρ = some (d, ρ')) : f ρ = some d ∧ ρ' = ρ := by
  unfold up at h
  cases q : f ρ with
  | none => rw [q] at h; cases h
  | some x => rw [q] at h; cases h; exact ⟨rfl, rfl⟩
theorem PV.ev (h : PV X .z e f) : EV X e (up f) := by
  refine pe_imp h fun σ H Q ⟨G, ρ, F, d, ρ', e1, R, k⟩ => ?_
  obtain ⟨e2, rfl⟩ := up_some e1
  exact ⟨G, ρ', F, d, e2, R, fun v H' F' s1 s2 R' ⟨fp, r⟩ => k v H' F' s1 R' r.1⟩
theorem FP.ef (h : FP X s e f) : EF X s e (up f) := by
  refine pe_imp h fun σ H Q ⟨G, ρ, F, d, ρ', e1, R, k⟩ => ?_
  obtain ⟨e2, rfl⟩ := up_some e1
  exact ⟨G, ρ', F, d, e2, R, fun v H' F' s1 s2 R' => k v H' F' s1 R'⟩
theorem EF.ev (h : EF X s e fe) : EV X e fe := by
  refine pe_imp h fun σ H Q ⟨G, ρ, F, d, ρ', e1, R, k⟩ => ⟨G, ρ, F, d, ρ', e1, R, fun v H' F' s1 R' => ?_⟩
  obtain ⟨F2, s3, R2, r⟩ := R'.freeze
  exact k v H' F2 (s1.trans s3) R2.drop r
theorem EV.ef (h : EV X e fe) : EF X .z e fe := by
  refine pe_imp h fun σ H Q ⟨G, ρ, F, d, ρ', e1, R, k⟩ => ⟨G, ρ, F, d, ρ', e1, R, fun v H' F' s1 R' r => ?_⟩
  exact k v H' F' s1 (R'.addz r)
/-- a borrowed value that holds no object -/
def isSc : D → Bool
  | .non => true | .bl _ => true | .int _ => true | .str _ => true | .fn _ => true
  | _ => false
theorem Ow.sc {K : PySem.W.Frag} {H F : Hp} {d : D} (hd : isSc d = true) : ∀ {s : Sh} {v : V} {fp : List Addr}, Ow K H F s d v fp → Rp K F d v := by
  intro s v fp h
  cases s with
  | z => exact h.1
  | seq s => cases d <;> first | exact h.1 | cases hd
  | obj g => cases d <;> first | exact h.1 | cases hd
def vSc (f : Sto → Option D) : Sto → Option D := fun ρ => (f ρ).bind fun d => if isSc d then some d else none
theorem PV.sc (h : PV X s e f) : PV X .z e (vSc f) := by
  refine pe_imp h fun σ H Q ⟨G, ρ, F, d, e1, R, k⟩ => ?_
  unfold vSc at e1
  cases q : f ρ with
  | none => rw [q] at e1; cases e1
  | some x =>
    rw [q] at e1
    simp only [Option.bind_some] at e1
    split at e1
    · rename_i hs
      cases e1
      exact ⟨G, ρ, F, _, q, R, fun v H' F' s1 s2 R' ⟨fp, r⟩ => k v H' F' s1 s2 R' ⟨[], r.sc hs, rfl⟩⟩
    · cases e1
end

/-! ### names and constants -/
section
variable {X : Cx}
/-- the value of slot i, told at shape s -/
def vVar (i : Nat) : Sto → Option D := fun ρ => match ρ[i]? with
  | some (some (_, d)) => some d
  | _ => none
def vVarZ (i : Nat) : Sto → Option D := fun ρ => match ρ[i]? with
  | some (some (.z, d)) => some d
  | _ => none
def vVarS (i : Nat) : Sto → Option D := fun ρ => match ρ[i]? with
  | some (some (.seq .z, d)) => some d
  | _ => none
def vVarSS (i : Nat) : Sto → Option D := fun ρ => match ρ[i]? with
  | some (some (.seq (.seq .z), d)) => some d
  | _ => none
def vC (d : D) : Sto → Option D := fun _ => some d
theorem pv_varZ {i : Nat} {x : Str} {pos : Pos} (hN : X.N[i]? = some x) (hv : Vis X.env.scope x) (hd : (x == ("__debug__" : Str)) = false := by decide) (hcd : (x == ("__classdict__" : Str)) = false := by decide) : PV X .z (.Name x pos) (vVarZ i) := by
  refine pe_imp (pe_var hN hv hd hcd) fun σ H Q ⟨G, ρ, F, d, e1, R, k⟩ => ?_
  unfold vVarZ at e1
  split at e1
  · rename_i q; cases e1
    obtain ⟨v, q1, q2⟩ := R.getz q
    exact ⟨v, q1, k v H F (Same.refl _) (Same.refl _) R ⟨[], q2, rfl⟩⟩
  · cases e1
theorem pv_varS {i : Nat} {x : Str} {pos : Pos} (hN : X.N[i]? = some x) (hv : Vis X.env.scope x) (hd : (x == ("__debug__" : Str)) = false := by decide) (hcd : (x == ("__classdict__" : Str)) = false := by decide) : PV X (.seq .z) (.Name x pos) (vVarS i) := by
  refine pe_imp (pe_var hN hv hd hcd) fun σ H Q ⟨G, ρ, F, d, e1, R, k⟩ => ?_
  unfold vVarS at e1
  split at e1
  · rename_i q; cases e1
    obtain ⟨v, fp, q1, q2⟩ := R.get q
    exact ⟨v, q1, k v H F (Same.refl _) (Same.refl _) R ⟨fp, q2⟩⟩
  · cases e1
theorem pv_varSS {i : Nat} {x : Str} {pos : Pos} (hN : X.N[i]? = some x) (hv : Vis X.env.scope x) (hd : (x == ("__debug__" : Str)) = false := by decide) (hcd : (x == ("__classdict__" : Str)) = false := by decide) : PV X (.seq (.seq .z)) (.Name x pos) (vVarSS i) := by
  refine pe_imp (pe_var hN hv hd hcd) fun σ H Q ⟨G, ρ, F, d, e1, R, k⟩ => ?_
  unfold vVarSS at e1
  split at e1
  · rename_i q; cases e1
    obtain ⟨v, fp, q1, q2⟩ := R.get q
    exact ⟨v, q1, k v H F (Same.refl _) (Same.refl _) R ⟨fp, q2⟩⟩
  · cases e1
/-- an owned local is given away: the slot is empty behind it -/
def vMove (i : Nat) : Sto → Option (D × Sto) := fun ρ => match ρ[i]? with
  | some (some (.seq .z, d)) => some (d, ρ.set i none)
  | _ => none
theorem ef_move {i : Nat} {x : Str} {pos : Pos} (hN : X.N[i]? = some x) (hv : Vis X.env.scope x) (hd : (x == ("__debug__" : Str)) = false := by decide) (hcd : (x == ("__classdict__" : Str)) = false := by decide) : EF X (.seq .z) (.Name x pos) (vMove i) := by
  refine pe_imp (pe_var hN hv hd hcd) fun σ H Q ⟨G, ρ, F, d, ρ', e1, R, k⟩ => ?_
  unfold vMove at e1
  split at e1
  · rename_i q; cases e1
    obtain ⟨v, q1, q2⟩ := R.move q
    exact ⟨v, q1, k v H F (Same.refl _) q2⟩
  · cases e1
/-- an owned local is frozen where it stands -/
def vFrz (i : Nat) : Sto → Option (D × Sto) := fun ρ => match ρ[i]? with
  | some (some (_, d)) => some (d, ρ.set i (some (.z, d)))
  | _ => none
theorem Rel.frzAt {K : PySem.W.Frag} {G H F : Hp} {ρ : Sto} {σ : St} {i : Nat} {s : Sh} {d : D} (R : Rel K G ρ σ H F) (q : ρ[i]? = some (some (s, d))) : ∃ v F', σ[i]? = some (some v) ∧ Same F F' ∧ Rel K G (ρ.set i (some (.z, d))) σ H F' ∧ Rp K F' d v := by
  obtain ⟨v, q1, R1⟩ := R.move q
  obtain ⟨F', s1, R2, r⟩ := R1.freeze
  refine ⟨v, F', q1, s1, ?_, r⟩
  have R3 := R2.store (i := i)
  rw [List.set_set] at R3
  have e : σ.set i (some v) = σ := by
    obtain ⟨hi, he⟩ := List.getElem?_eq_some_iff.mp q1
    rw [← he]; exact List.set_getElem_self hi
  rw [e] at R3
  exact R3
theorem ev_frz {i : Nat} {x : Str} {pos : Pos} (hN : X.N[i]? = some x) (hv : Vis X.env.scope x) (hd : (x == ("__debug__" : Str)) = false := by decide) (hcd : (x == ("__classdict__" : Str)) = false := by decide) : EV X (.Name x pos) (vFrz i) := by
  refine pe_imp (pe_var hN hv hd hcd) fun σ H Q ⟨G, ρ, F, d, ρ', e1, R, k⟩ => ?_
  unfold vFrz at e1
  split at e1
  · rename_i q; cases e1
    obtain ⟨v, F', q1, s1, R2, r⟩ := R.frzAt q
    exact ⟨v, q1, k v H F' s1 R2 r⟩
  · cases e1
theorem pv_c {e : Expr} {d : D} {v : V} (h : PE X e (tC v)) (r : ∀ F, Rp X.K F d v) : PV X .z e (vC d) := by
  refine pe_imp h fun σ H Q ⟨G, ρ, F, d', e1, R, k⟩ => ?_
  cases e1
  exact k v H F (Same.refl _) (Same.refl _) R ⟨[], r F, rfl⟩
theorem pv_int {i j pos} : PV X .z (.Constant (.int i) j pos) (vC (.int i)) := pv_c pe_int fun _ => by simp only [Rp]
theorem pv_bl {i j pos} : PV X .z (.Constant (.bool i) j pos) (vC (.bl i)) := pv_c pe_bl fun _ => by simp only [Rp]
theorem pv_non {j pos} : PV X .z (.Constant .none j pos) (vC .non) := pv_c pe_non fun _ => by simp only [Rp]
theorem pv_str {x j pos} : PV X .z (.Constant (.str x) j pos) (vC (.str x)) := pv_c pe_str fun _ => by simp only [Rp]
/-- a module's int -/
theorem pv_glob {x : Str} {i : Int} {t : Tok} {pos : Pos} (hg : Gl X x) (hm : X.mg x = some (.int i t)) (hd : (x == ("__debug__" : Str)) = false := by decide) : PV X .z (.Name x pos) (vC (.int i)) := pv_c (v := .int i) (pe_glob hg hm (show RelV (.int i) (.int i t) from ⟨t, rfl⟩) hd) fun _ => by simp only [Rp]
end

/-! ### operators by values -/
/-- two values in (told at s1, s2), a frozen value out, nothing is changed but by new objects -/
def OpD (K : PySem.W.Frag) (s1 s2 : Sh) (r : R2) (g : D → D → Option D) : Prop :=
  ∀ x y d, g x y = some d → ∀ G ρ σ H F v u Q, Rel K G ρ σ H F → (∃ fp, Ow K H F s1 x v fp) → (∃ fp, Ow K H F s2 y u fp) →
    (∀ w H' F', Same F F' → Same H H' → Rel K G ρ σ H' F' → Rp K F' d w → Q w H') → r v u H Q
/-- the same, a new value out -/
def OpF (K : PySem.W.Frag) (s1 s2 s : Sh) (r : R2) (g : D → D → Option D) : Prop :=
  ∀ x y d, g x y = some d → ∀ G ρ σ H F v u Q, Rel K G ρ σ H F → (∃ fp, Ow K H F s1 x v fp) → (∃ fp, Ow K H F s2 y u fp) →
    (∀ w H' F', Same F F' → Same H H' → Rel K G (some (s, d) :: ρ) (some w :: σ) H' F' → Q w H') → r v u H Q
def v2 (g : D → D → Option D) (fa fb : Sto → Option D) : Sto → Option D := fun ρ => (fa ρ).bind fun x => (fb ρ).bind fun y => g x y
def e2 (g : D → D → Option D) (fa fb : Sto → Option (D × Sto)) : Sto → Option (D × Sto) := fun ρ => (fa ρ).bind fun x => (fb x.2).bind fun y => (g x.1 y.1).map fun d => (d, y.2)
theorem v2_some {g : D → D → Option D} {fa fb : Sto → Option D} {ρ : Sto} {d : D} (h : v2 g fa fb ρ = some d) : ∃ x y, fa ρ = some x ∧ fb ρ = some y ∧ g x y = some d := by
  unfold v2 at h
  cases q : fa ρ with
  | none => rw [q] at h; cases h
  | some x =>
    cases q2 : fb ρ with
    | none => rw [q, q2] at h; cases h
    | some y => rw [q, q2] at h; exact ⟨x, y, rfl, rfl, h⟩
theorem e2_some {g : D → D → Option D} {fa fb : Sto → Option (D × Sto)} {ρ ρ' : Sto} {d : D} (h : e2 g fa fb ρ = some (d, ρ')) : ∃ x ρ1 y, fa ρ = some (x, ρ1) ∧ fb ρ1 = some (y, ρ') ∧ g x y = some d := by
  unfold e2 at h
  cases q : fa ρ with
  | none => rw [q] at h; cases h
  | some x =>
    rw [q] at h
    simp only [Option.bind_some] at h
    cases q2 : fb x.2 with
    | none => rw [q2] at h; cases h
    | some y =>
      rw [q2] at h
      simp only [Option.bind_some] at h
      cases q3 : g x.1 y.1 with
      | none => rw [q3] at h; cases h
      | some z => rw [q3] at h; cases h; exact ⟨x.1, x.2, y.1, rfl, q2, q3⟩
section
variable {X : Cx} {a b : Expr} {s1 s2 s : Sh} {fa fb : Sto → Option D} {ga gb : Sto → Option (D × Sto)} {r : R2} {g : D → D → Option D}
theorem Ow.keep {K : PySem.W.Frag} {H H' F F' : Hp} {s : Sh} {d : D} {v : V} (h : ∃ fp, Ow K H F s d v fp) (e : Same F F') (e2 : Same H H') : ∃ fp, Ow K H' F' s d v fp :=
  let ⟨fp, q⟩ := h; ⟨fp, q.mono e fun a _ o z => e2 a o z⟩
theorem tOp_pv (hg : OpD X.K s1 s2 r g) (σ : St) (H : Hp) (Q : VK) (h : tP X.K .z (v2 g fa fb) σ H Q) : tOp r (tP X.K s1 fa) (tP X.K s2 fb) σ H Q := by
  obtain ⟨G, ρ, F, d, e1, R, k⟩ := h
  obtain ⟨x, y, q1, q2, q3⟩ := v2_some e1
  refine ⟨G, ρ, F, x, q1, R, fun v H1 F1 f1 h1 R1 r1 => ?_⟩
  refine ⟨G, ρ, F1, y, q2, R1, fun u H2 F2 f2 h2 R2 r2 => ?_⟩
  exact hg x y d q3 G ρ σ H2 F2 v u Q R2 (Ow.keep r1 f2 h2) r2 fun w H3 F3 f3 h3 R3 r3 => k w H3 F3 (f1.trans (f2.trans f3)) (h1.trans (h2.trans h3)) R3 ⟨[], r3, rfl⟩
theorem tOp_fp (hg : OpF X.K s1 s2 s r g) (σ : St) (H : Hp) (Q : VK) (h : tPF X.K s (v2 g fa fb) σ H Q) : tOp r (tP X.K s1 fa) (tP X.K s2 fb) σ H Q := by
  obtain ⟨G, ρ, F, d, e1, R, k⟩ := h
  obtain ⟨x, y, q1, q2, q3⟩ := v2_some e1
  refine ⟨G, ρ, F, x, q1, R, fun v H1 F1 f1 h1 R1 r1 => ?_⟩
  refine ⟨G, ρ, F1, y, q2, R1, fun u H2 F2 f2 h2 R2 r2 => ?_⟩
  exact hg x y d q3 G ρ σ H2 F2 v u Q R2 (Ow.keep r1 f2 h2) r2 fun w H3 F3 f3 h3 R3 => k w H3 F3 (f1.trans (f2.trans f3)) (h1.trans (h2.trans h3)) R3
theorem tOp_ev (hg : OpD X.K .z .z r g) (σ : St) (H : Hp) (Q : VK) (h : tE X.K (e2 g ga gb) σ H Q) : tOp r (tE X.K ga) (tE X.K gb) σ H Q := by
  obtain ⟨G, ρ, F, d, ρ', e1, R, k⟩ := h
  obtain ⟨x, ρ1, y, q1, q2, q3⟩ := e2_some e1
  refine ⟨G, ρ, F, x, ρ1, q1, R, fun v H1 F1 f1 R1 r1 => ?_⟩
  refine ⟨G, ρ1, F1, y, ρ', q2, R1, fun u H2 F2 f2 R2 r2 => ?_⟩
  exact hg x y d q3 G ρ' σ H2 F2 v u Q R2 ⟨[], Rp.mono f2 _ _ r1, rfl⟩ ⟨[], r2, rfl⟩ fun w H3 F3 f3 h3 R3 r3 => k w H3 F3 (f1.trans (f2.trans f3)) R3 r3
variable {pos : Pos}
theorem pv_bin {op : Operator} (ho : OpR X (binaryOp op) r) (hg : OpD X.K s1 s2 r g) (ha : PV X s1 a fa) (hb : PV X s2 b fb) : PV X .z (.BinOp a op b pos) (v2 g fa fb) := pe_imp (pe_op ho ha hb) (tOp_pv hg)
theorem fp_bin {op : Operator} (ho : OpR X (binaryOp op) r) (hg : OpF X.K s1 s2 s r g) (ha : PV X s1 a fa) (hb : PV X s2 b fb) : FP X s (.BinOp a op b pos) (v2 g fa fb) := pe_imp (pe_op ho ha hb) (tOp_fp hg)
theorem ev_bin {op : Operator} (ho : OpR X (binaryOp op) r) (hg : OpD X.K .z .z r g) (ha : EV X a ga) (hb : EV X b gb) : EV X (.BinOp a op b pos) (e2 g ga gb) := pe_imp (pe_op ho ha hb) (tOp_ev hg)
/-- a comparison as a value -/
theorem pv_cmp {op : CmpOp} (ho : OpR X (compareOp op) r) (hg : OpD X.K s1 s2 r g) (ha : PV X s1 a fa) (hb : PV X s2 b fb) (hm : behindInMarks op b = false) : PV X .z (.Compare a [op] [b] pos) (v2 g fa fb) := pe_imp (pe_cmpR ho ha hb hm) (tOp_pv hg)
theorem ev_cmp {op : CmpOp} (ho : OpR X (compareOp op) r) (hg : OpD X.K .z .z r g) (ha : EV X a ga) (hb : EV X b gb) (hm : behindInMarks op b = false) : EV X (.Compare a [op] [b] pos) (e2 g ga gb) := pe_imp (pe_cmpR ho ha hb hm) (tOp_ev hg)
/-- a subscript -/
theorem pv_ix (ho : IxR X r) (hg : OpD X.K s1 s2 r g) (ha : PV X s1 a fa) (hb : PV X s2 b fb) (hs : PlainIx b) : PV X .z (.Subscript a b pos) (v2 g fa fb) := pe_imp (pe_ix ho ha hb hs) (tOp_pv hg)
theorem ev_ix (ho : IxR X r) (hg : OpD X.K .z .z r g) (ha : EV X a ga) (hb : EV X b gb) (hs : PlainIx b) : EV X (.Subscript a b pos) (e2 g ga gb) := pe_imp (pe_ix ho ha hb hs) (tOp_ev hg)
/-- one value -/
def UnD (K : PySem.W.Frag) (r : V → Hp → VK → Prop) (g : D → Option D) : Prop :=
  ∀ x d, g x = some d → ∀ G ρ σ H F v Q, Rel K G ρ σ H F → Rp K F x v → (∀ w, Rp K F d w → Q w H) → r v H Q
def v1 (g : D → Option D) (fa : Sto → Option D) : Sto → Option D := fun ρ => (fa ρ).bind g
def e1 (g : D → Option D) (fa : Sto → Option (D × Sto)) : Sto → Option (D × Sto) := fun ρ => (fa ρ).bind fun x => (g x.1).map fun d => (d, x.2)
theorem v1_some {g : D → Option D} {fa : Sto → Option D} {ρ : Sto} {d : D} (h : v1 g fa ρ = some d) : ∃ x, fa ρ = some x ∧ g x = some d := by
  unfold v1 at h
  cases q : fa ρ with
  | none => rw [q] at h; cases h
  | some x => rw [q] at h; exact ⟨x, rfl, h⟩
theorem e1_some {g : D → Option D} {fa : Sto → Option (D × Sto)} {ρ ρ' : Sto} {d : D} (h : e1 g fa ρ = some (d, ρ')) : ∃ x, fa ρ = some (x, ρ') ∧ g x = some d := by
  unfold e1 at h
  cases q : fa ρ with
  | none => rw [q] at h; cases h
  | some x =>
    rw [q] at h
    simp only [Option.bind_some] at h
    cases q3 : g x.1 with
    | none => rw [q3] at h; cases h
    | some z => rw [q3] at h; cases h; exact ⟨x.1, rfl, q3⟩
theorem pv_un {op : UnaryOp} {r1 : V → Hp → VK → Prop} {g1 : D → Option D} (ho : UnR X (unaryOp op) r1) (hg : UnD X.K r1 g1) (ha : PV X .z a fa) : PV X .z (.UnaryOp op a pos) (v1 g1 fa) := by
  refine pe_imp (pe_un ho ha) fun σ H Q ⟨G, ρ, F, d, q, R, k⟩ => ?_
  obtain ⟨x, q1, q2⟩ := v1_some q
  exact ⟨G, ρ, F, x, q1, R, fun v H1 F1 f1 h1 R1 ⟨fp, r1⟩ => hg x d q2 G ρ σ H1 F1 v Q R1 r1.1 fun w rw => k w H1 F1 f1 h1 R1 ⟨[], rw, rfl⟩⟩
end

/-! ### tests -/
section
variable {X : Cx} {a b c : Expr} {s1 s2 s : Sh} {fa fb : Sto → Option D} {ga gb : Sto → Option (D × Sto)} {r : R2} {g : D → D → Option D} {pos : Pos}
/-- a value that is a bool, as a test -/
def vB (fa : Sto → Option D) : Sto → Option Bool := fun ρ => match fa ρ with
  | some (.bl k) => some k
  | _ => none
def eB (fa : Sto → Option (D × Sto)) : Sto → Option (Bool × Sto) := fun ρ => match fa ρ with
  | some (.bl k, ρ') => some (k, ρ')
  | _ => none
theorem pt_valV {e : Expr} (h : PV X .z e fa) (he : ∀ whole, isTrue e X.env whole = (do let v ← whole; standAt e.pos; holding [v] (truthy v)) := by intro _; rfl) : PTV X e (vB fa) := by
  refine pt_imp (pt_val h he) fun σ H Q ⟨G, ρ, F, d, q, R, k⟩ => ?_
  unfold vB at q
  split at q
  · rename_i b q2
    cases q
    refine ⟨G, ρ, F, _, q2, R, fun v H1 F1 f1 h1 R1 ⟨fp, r1⟩ => ?_⟩
    have e : v = .bl d := by simpa only [Rp] using r1.1
    exact ⟨d, e, k H1 F1 f1 h1 R1⟩
  · cases q
theorem pt_valE {e : Expr} (h : EV X e ga) (he : ∀ whole, isTrue e X.env whole = (do let v ← whole; standAt e.pos; holding [v] (truthy v)) := by intro _; rfl) : ETV X e (eB ga) := by
  refine pt_imp (pt_val h he) fun σ H Q ⟨G, ρ, F, d, ρ', q, R, k⟩ => ?_
  unfold eB at q
  split at q
  · rename_i b q2
    cases q
    refine ⟨G, ρ, F, _, ρ', q2, R, fun v H1 F1 f1 R1 r1 => ?_⟩
    have e : v = .bl d := by simpa only [Rp] using r1
    exact ⟨d, e, k H1 F1 f1 R1⟩
  · cases q
theorem tTest_pv (hg : OpD X.K s1 s2 r g) (σ : St) (H : Hp) (Q : Bool → Hp → Prop) (h : tPT X.K (vB (v2 g fa fb)) σ H Q) : tTest (tOp r (tP X.K s1 fa) (tP X.K s2 fb)) σ H Q := by
  obtain ⟨G, ρ, F, d, q, R, k⟩ := h
  unfold vB at q
  split at q
  · rename_i b q2
    cases q
    refine tOp_pv (g := g) hg σ H _ ⟨G, ρ, F, _, q2, R, fun v H1 F1 f1 h1 R1 ⟨fp, r1⟩ => ?_⟩
    have e : v = .bl d := by simpa only [Rp] using r1.1
    exact ⟨d, e, k H1 F1 f1 h1 R1⟩
  · cases q
theorem tTest_ev (hg : OpD X.K .z .z r g) (σ : St) (H : Hp) (Q : Bool → Hp → Prop) (h : tET X.K (eB (e2 g ga gb)) σ H Q) : tTest (tOp r (tE X.K ga) (tE X.K gb)) σ H Q := by
  obtain ⟨G, ρ, F, d, ρ', q, R, k⟩ := h
  unfold eB at q
  split at q
  · rename_i b q2
    cases q
    refine tOp_ev (g := g) hg σ H _ ⟨G, ρ, F, _, ρ', q2, R, fun v H1 F1 f1 R1 r1 => ?_⟩
    have e : v = .bl d := by simpa only [Rp] using r1
    exact ⟨d, e, k H1 F1 f1 R1⟩
  · cases q
theorem pt_cmpV {op : CmpOp} (ho : OpR X (compareOp op) r) (hg : OpD X.K s1 s2 r g) (ha : PV X s1 a fa) (hb : PV X s2 b fb) (hm : behindInMarks op b = false) : PTV X (.Compare a [op] [b] pos) (vB (v2 g fa fb)) := pt_imp (pt_cmpR ho ha hb hm) (tTest_pv hg)
theorem pt_cmpE {op : CmpOp} (ho : OpR X (compareOp op) r) (hg : OpD X.K .z .z r g) (ha : EV X a ga) (hb : EV X b gb) (hm : behindInMarks op b = false) : ETV X (.Compare a [op] [b] pos) (eB (e2 g ga gb)) := pt_imp (pt_cmpR ho ha hb hm) (tTest_ev hg)

variable {ta tb : Sto → Option Bool} {ua ub : Sto → Option (Bool × Sto)} {rest : List Expr}
def upT (f : Sto → Option Bool) : Sto → Option (Bool × Sto) := fun ρ => (f ρ).map fun d => (d, ρ)
theorem PTV.etv {f : Sto → Option Bool} (h : PTV X a f) : ETV X a (upT f) := by
  refine pt_imp h fun σ H Q ⟨G, ρ, F, d, ρ', q, R, k⟩ => ?_
  unfold upT at q
  cases q2 : f ρ with
  | none => rw [q2] at q; cases q
  | some x => rw [q2] at q; cases q; exact ⟨G, _, F, _, q2, R, fun H' F' s1 s2 R' => k H' F' s1 R'⟩
def tAndF (f g : Sto → Option Bool) : Sto → Option Bool := fun ρ => (f ρ).bind fun c => if c then g ρ else some false
def tOrF (f g : Sto → Option Bool) : Sto → Option Bool := fun ρ => (f ρ).bind fun c => if c then some true else g ρ
def tNotF (f : Sto → Option Bool) : Sto → Option Bool := fun ρ => (f ρ).map fun c => !c
theorem pw_and1V (ha : PTV X a ta) : PWV X (.BoolOp .And [a] pos) ta := pw_and1 ha
theorem pw_or1V (ha : PTV X a ta) : PWV X (.BoolOp .Or [a] pos) ta := pw_or1 ha
theorem pw_andV (ha : PTV X a ta) (hb : PWV X (.BoolOp .And (b :: rest) pos) tb) : PWV X (.BoolOp .And (a :: b :: rest) pos) (tAndF ta tb) := by
  refine pw_imp (pw_and ha hb) fun σ H Q ⟨G, ρ, F, d, q, R, k⟩ => ?_
  unfold tAndF at q
  cases q2 : ta ρ with
  | none => rw [q2] at q; cases q
  | some x =>
    rw [q2] at q
    simp only [Option.bind_some] at q
    refine ⟨G, ρ, F, x, q2, R, fun H1 F1 f1 h1 R1 => ?_⟩
    cases x with
    | true =>
      simp only [if_true] at q ⊢
      exact ⟨G, ρ, F1, d, q, R1, fun H2 F2 f2 h2 R2 => k H2 F2 (f1.trans f2) (h1.trans h2) R2⟩
    | false =>
      simp only [Bool.false_eq_true, if_false] at q ⊢
      cases q
      exact k H1 F1 f1 h1 R1
theorem pw_orV (ha : PTV X a ta) (hb : PWV X (.BoolOp .Or (b :: rest) pos) tb) : PWV X (.BoolOp .Or (a :: b :: rest) pos) (tOrF ta tb) := by
  refine pw_imp (pw_or ha hb) fun σ H Q ⟨G, ρ, F, d, q, R, k⟩ => ?_
  unfold tOrF at q
  cases q2 : ta ρ with
  | none => rw [q2] at q; cases q
  | some x =>
    rw [q2] at q
    simp only [Option.bind_some] at q
    refine ⟨G, ρ, F, x, q2, R, fun H1 F1 f1 h1 R1 => ?_⟩
    cases x with
    | false =>
      simp only [Bool.false_eq_true, if_false] at q ⊢
      exact ⟨G, ρ, F1, d, q, R1, fun H2 F2 f2 h2 R2 => k H2 F2 (f1.trans f2) (h1.trans h2) R2⟩
    | true =>
      simp only [if_true] at q ⊢
      cases q
      exact k H1 F1 f1 h1 R1
theorem pt_notV (ha : PTV X a ta) : PTV X (.UnaryOp .Not a pos) (tNotF ta) := by
  refine pt_imp (pt_not ha) fun σ H Q ⟨G, ρ, F, d, q, R, k⟩ => ?_
  unfold tNotF at q
  cases q2 : ta ρ with
  | none => rw [q2] at q; cases q
  | some x => rw [q2] at q; cases q; exact ⟨G, ρ, F, x, q2, R, k⟩
theorem PWV.pt {e : Expr} (h : PWV X e ta) : PTV X e ta := PW.pt h
/-- as values (bools) -/
def vAndF (f g : Sto → Option D) : Sto → Option D := fun ρ => match f ρ with
  | some (.bl true) => g ρ
  | some (.bl false) => some (.bl false)
  | _ => none
def vOrF (f g : Sto → Option D) : Sto → Option D := fun ρ => match f ρ with
  | some (.bl true) => some (.bl true)
  | some (.bl false) => g ρ
  | _ => none
def vNotF (f : Sto → Option D) : Sto → Option D := fun ρ => match f ρ with
  | some (.bl c) => some (.bl (!c))
  | _ => none
theorem pv_one {op} (h : PV X .z a fa) : PV X .z (.BoolOp op [a] pos) fa := pe_one h
theorem pv_and (ha : PV X .z a fa) (hb : PV X .z (.BoolOp .And (b :: rest) pos) fb) : PV X .z (.BoolOp .And (a :: b :: rest) pos) (vAndF fa fb) := by
  refine pe_imp (pe_and ha hb) fun σ H Q ⟨G, ρ, F, d, q, R, k⟩ => ?_
  unfold vAndF at q
  split at q
  · rename_i q2
    refine ⟨G, ρ, F, _, q2, R, fun v H1 F1 f1 h1 R1 ⟨fp, r1⟩ => ⟨true, by simpa only [Rp] using r1.1, ?_⟩⟩
    simp only [if_true]
    exact ⟨G, ρ, F1, d, q, R1, fun v2 H2 F2 f2 h2 R2 r2 => k v2 H2 F2 (f1.trans f2) (h1.trans h2) R2 r2⟩
  · rename_i q2
    cases q
    refine ⟨G, ρ, F, _, q2, R, fun v H1 F1 f1 h1 R1 ⟨fp, r1⟩ => ⟨false, by simpa only [Rp] using r1.1, ?_⟩⟩
    simp only [Bool.false_eq_true, if_false]
    exact k _ H1 F1 f1 h1 R1 ⟨[], by simp only [Rp], rfl⟩
  · cases q
theorem pv_or (ha : PV X .z a fa) (hb : PV X .z (.BoolOp .Or (b :: rest) pos) fb) : PV X .z (.BoolOp .Or (a :: b :: rest) pos) (vOrF fa fb) := by
  refine pe_imp (pe_or ha hb) fun σ H Q ⟨G, ρ, F, d, q, R, k⟩ => ?_
  unfold vOrF at q
  split at q
  · rename_i q2
    cases q
    refine ⟨G, ρ, F, _, q2, R, fun v H1 F1 f1 h1 R1 ⟨fp, r1⟩ => ⟨true, by simpa only [Rp] using r1.1, ?_⟩⟩
    simp only [if_true]
    exact k _ H1 F1 f1 h1 R1 ⟨[], by simp only [Rp], rfl⟩
  · rename_i q2
    refine ⟨G, ρ, F, _, q2, R, fun v H1 F1 f1 h1 R1 ⟨fp, r1⟩ => ⟨false, by simpa only [Rp] using r1.1, ?_⟩⟩
    simp only [Bool.false_eq_true, if_false]
    exact ⟨G, ρ, F1, d, q, R1, fun v2 H2 F2 f2 h2 R2 r2 => k v2 H2 F2 (f1.trans f2) (h1.trans h2) R2 r2⟩
  · cases q
theorem pv_not (ha : PV X .z a fa) : PV X .z (.UnaryOp .Not a pos) (vNotF fa) := by
  refine pe_imp (pe_not ha) fun σ H Q ⟨G, ρ, F, d, q, R, k⟩ => ?_
  unfold vNotF at q
  split at q
  · rename_i c q2
    cases q
    refine ⟨G, ρ, F, _, q2, R, fun v H1 F1 f1 h1 R1 ⟨fp, r1⟩ => ⟨c, by simpa only [Rp] using r1.1, ?_⟩⟩
    exact k _ H1 F1 f1 h1 R1 ⟨[], by simp only [Rp], rfl⟩
  · cases q
/-- a if t else b -/
def vIf (t : Sto → Option Bool) (f g : Sto → Option D) : Sto → Option D := fun ρ => (t ρ).bind fun c => if c then f ρ else g ρ
def eIf (t : Sto → Option (Bool × Sto)) (f g : Sto → Option (D × Sto)) : Sto → Option (D × Sto) := fun ρ => (t ρ).bind fun c => if c.1 then f c.2 else g c.2
theorem pv_if (ht : PTV X c ta) (ha : PV X s a fa) (hb : PV X s b fb) : PV X s (.IfExp c a b pos) (vIf ta fa fb) := by
  refine pe_imp (pe_ifExp ht ha hb) fun σ H Q ⟨G, ρ, F, d, q, R, k⟩ => ?_
  unfold vIf at q
  cases q2 : ta ρ with
  | none => rw [q2] at q; cases q
  | some x =>
    rw [q2] at q
    simp only [Option.bind_some] at q
    refine ⟨G, ρ, F, x, q2, R, fun H1 F1 f1 h1 R1 => ?_⟩
    cases x with
    | true =>
      simp only [if_true] at q ⊢
      exact ⟨G, ρ, F1, d, q, R1, fun v H2 F2 f2 h2 R2 => k v H2 F2 (f1.trans f2) (h1.trans h2) R2⟩
    | false =>
      simp only [Bool.false_eq_true, if_false] at q ⊢
      exact ⟨G, ρ, F1, d, q, R1, fun v H2 F2 f2 h2 R2 => k v H2 F2 (f1.trans f2) (h1.trans h2) R2⟩
theorem ev_if (ht : ETV X c ua) (ha : EV X a ga) (hb : EV X b gb) : EV X (.IfExp c a b pos) (eIf ua ga gb) := by
  refine pe_imp (pe_ifExp ht ha hb) fun σ H Q ⟨G, ρ, F, d, ρ', q, R, k⟩ => ?_
  unfold eIf at q
  cases q2 : ua ρ with
  | none => rw [q2] at q; cases q
  | some x =>
    obtain ⟨x, ρ1⟩ := x
    rw [q2] at q
    simp only [Option.bind_some] at q
    refine ⟨G, ρ, F, x, ρ1, q2, R, fun H1 F1 f1 R1 => ?_⟩
    cases x with
    | true =>
      simp only [if_true] at q ⊢
      exact ⟨G, ρ1, F1, d, ρ', q, R1, fun v H2 F2 f2 R2 => k v H2 F2 (f1.trans f2) R2⟩
    | false =>
      simp only [Bool.false_eq_true, if_false] at q ⊢
      exact ⟨G, ρ1, F1, d, ρ', q, R1, fun v H2 F2 f2 R2 => k v H2 F2 (f1.trans f2) R2⟩
end

/-! ### argument lists, displays -/
section
variable {X : Cx} {e : Expr} {es : List Expr} {s : Sh} {fa : Sto → Option D} {fs : Sto → Option (List D)} {ga : Sto → Option (D × Sto)} {gs : Sto → Option (List D × Sto)} {pos : Pos}
def aNil : Sto → Option (List D) := fun _ => some []
def aCons (f : Sto → Option D) (g : Sto → Option (List D)) : Sto → Option (List D) := fun ρ => (f ρ).bind fun d => (g ρ).map fun ds => d :: ds
def bNil : Sto → Option (List D × Sto) := fun ρ => some ([], ρ)
def bCons (f : Sto → Option (D × Sto)) (g : Sto → Option (List D × Sto)) : Sto → Option (List D × Sto) := fun ρ => (f ρ).bind fun d => (g d.2).map fun ds => (d.1 :: ds.1, ds.2)
theorem pav_nil : PAV X [] aNil := pa_imp pa_nil fun σ H Q ⟨G, ρ, F, ds, q, R, k⟩ => by
  cases q
  exact k [] H F (Same.refl _) (Same.refl _) R RpL.nil
theorem pav_cons (ha : PV X .z e fa) (hr : PAV X es fs) (hs : starEach (e :: es) X.env = (false, eval e X.env) :: starEach es X.env := by rfl) : PAV X (e :: es) (aCons fa fs) := by
  refine pa_imp (pa_cons ha hr hs) fun σ H Q ⟨G, ρ, F, ds, q, R, k⟩ => ?_
  unfold aCons at q
  cases q1 : fa ρ with
  | none => rw [q1] at q; cases q
  | some x =>
    cases q2 : fs ρ with
    | none => rw [q1, q2] at q; cases q
    | some xs =>
      rw [q1, q2] at q
      cases q
      refine ⟨G, ρ, F, x, q1, R, fun v H1 F1 f1 h1 R1 ⟨fp, r1⟩ => ?_⟩
      exact ⟨G, ρ, F1, xs, q2, R1, fun vs H2 F2 f2 h2 R2 r2 => k _ H2 F2 (f1.trans f2) (h1.trans h2) R2 (RpL.cons (Rp.mono f2 _ _ r1.1) r2)⟩
theorem eav_nil : EAV X [] bNil := pa_imp pa_nil fun σ H Q ⟨G, ρ, F, ds, ρ', q, R, k⟩ => by
  cases q
  exact k [] H F (Same.refl _) R RpL.nil
theorem eav_cons (ha : EV X e ga) (hr : EAV X es gs) (hs : starEach (e :: es) X.env = (false, eval e X.env) :: starEach es X.env := by rfl) : EAV X (e :: es) (bCons ga gs) := by
  refine pa_imp (pa_cons ha hr hs) fun σ H Q ⟨G, ρ, F, ds, ρ', q, R, k⟩ => ?_
  unfold bCons at q
  cases q1 : ga ρ with
  | none => rw [q1] at q; cases q
  | some x =>
    obtain ⟨x, ρ1⟩ := x
    rw [q1] at q
    simp only [Option.bind_some] at q
    cases q2 : gs ρ1 with
    | none => rw [q2] at q; cases q
    | some xs =>
      obtain ⟨xs, ρ2⟩ := xs
      rw [q2] at q
      cases q
      refine ⟨G, ρ, F, x, ρ1, q1, R, fun v H1 F1 f1 R1 r1 => ?_⟩
      exact ⟨G, ρ1, F1, xs, _, q2, R1, fun vs H2 F2 f2 R2 r2 => k _ H2 F2 (f1.trans f2) R2 (RpL.cons (Rp.mono f2 _ _ r1) r2)⟩
/-- a tuple, a list of frozen items -/
def vTup (fs : Sto → Option (List D)) : Sto → Option D := fun ρ => (fs ρ).bind fun ds => if ds.length ≤ 1000000 then some (.tup ds) else none
def vLst (fs : Sto → Option (List D)) : Sto → Option D := fun ρ => (fs ρ).bind fun ds => if ds.length ≤ 1000000 then some (.lst ds) else none
def eTup (fs : Sto → Option (List D × Sto)) : Sto → Option (D × Sto) := fun ρ => (fs ρ).bind fun ds => if ds.1.length ≤ 1000000 then some (.tup ds.1, ds.2) else none
def eLst (fs : Sto → Option (List D × Sto)) : Sto → Option (D × Sto) := fun ρ => (fs ρ).bind fun ds => if ds.1.length ≤ 1000000 then some (.lst ds.1, ds.2) else none
theorem mill_line {n : Nat} (h : n ≤ 1000000) : n ≤ sizeLine := by rw [sizeLine_eq]; omega
theorem Rel.putTup {K : PySem.W.Frag} {G H F : Hp} {ρ : Sto} {σ : St} {ds : List D} {vs : List V} {p : Addr} (R : Rel K G ρ σ H F) (r : RpL K F ds vs) (hp : H p = none) :
    Rel K G ρ σ (upd H p (.tup vs)) (upd F p (.tup vs)) ∧ Same F (upd F p (.tup vs)) ∧ Same H (upd H p (.tup vs)) ∧ Rp K (upd F p (.tup vs)) (.tup ds) (.ref p) := by
  have hF : F p = none := Same.free R.sub hp
  refine ⟨R.put hp, Same.upd hF, Same.upd hp, ?_⟩
  simp only [Rp]
  exact ⟨p, vs, rfl, SqT.of upd_same, RpL.mono (Same.upd hF) _ _ r⟩
theorem OwL.z {K : PySem.W.Frag} {H F : Hp} : ∀ {ds : List D} {vs : List V}, RpL K F ds vs → OwL (Ow K H F .z) ds vs []
  | [], vs, h => ⟨h, rfl⟩
  | d :: ds, vs, h => by
    obtain ⟨v, r, rfl, h1, h2⟩ := RpL.cons_inv h
    exact ⟨v, r, [], [], rfl, ⟨h1, rfl⟩, OwL.z h2, rfl⟩
theorem OwL.unz {K : PySem.W.Frag} {H F : Hp} : ∀ {ds : List D} {vs : List V} {fp : List Addr}, OwL (Ow K H F .z) ds vs fp → RpL K F ds vs ∧ fp = []
  | [], vs, fp, h => h
  | d :: ds, vs, fp, h => by
    obtain ⟨v, r, f1, f2, rfl, ⟨h1, rfl⟩, h2, rfl⟩ := h
    obtain ⟨h3, rfl⟩ := OwL.unz h2
    exact ⟨RpL.cons h1 h3, rfl⟩
/-- a new owned object ahead -/
theorem Rel.addNew {K : PySem.W.Frag} {G H F : Hp} {ρ : Sto} {σ : St} {p : Addr} {o : HO} {s : Sh} {d : D} (R : Rel K G ρ σ H F) (hp : H p = none) (h : Ow K (upd H p o) F s d (.ref p) [p]) :
    Rel K G (some (s, d) :: ρ) (some (.ref p) :: σ) (upd H p o) F := by
  obtain ⟨fps, w⟩ := R
  have hF : F p = none := Same.free w.sub hp
  have hG : G p = none := Same.free w.gsub hp
  have ne : ∀ i, p ∉ fps i := fun i m => by
    obtain ⟨_, _, u, q⟩ := w.out i p m
    rw [hp] at q; cases q
  have R' : Rel K G ρ σ (upd H p o) F := Rel.grow ⟨fps, w⟩ (Same.upd hp)
  refine ⟨shiftF [p] fps, fun i s' d' q => ?_, fun i => ?_, fun i j a m1 m2 => ?_, fun i a m => ?_, by simp [w.len], fun a u q => Same.upd hp a u (w.sub a u q), fun a u q => Same.upd hp a u (w.gsub a u q), w.fg⟩
  · cases i with
    | zero => simp at q; obtain ⟨rfl, rfl⟩ := q; exact ⟨_, rfl, h⟩
    | succ i =>
      obtain ⟨v, q1, q2⟩ := w.slot i s' d' (by simpa using q)
      exact ⟨v, by simpa using q1, q2.mono (Same.refl _) fun a _ u z => Same.upd hp a u z⟩
  · cases i with
    | zero => exact List.nodup_cons.mpr ⟨by simp, List.nodup_nil⟩
    | succ i => exact w.nd i
  · cases i with
    | zero =>
      cases j with
      | zero => rfl
      | succ j =>
        have e : a = p := by simpa [shiftF] using m1
        exact (ne j (e ▸ m2)).elim
    | succ i =>
      cases j with
      | zero =>
        have e : a = p := by simpa [shiftF] using m2
        exact (ne i (e ▸ m1)).elim
      | succ j => exact congrArg _ (w.dis i j a m1 m2)
  · cases i with
    | zero =>
      have e : a = p := by simpa [shiftF] using m
      subst e
      exact ⟨hF, hG, o, upd_same⟩
    | succ i =>
      obtain ⟨q1, q2, u, q3⟩ := w.out i a m
      exact ⟨q1, q2, u, Same.upd hp a u q3⟩
theorem Rel.addLst {K : PySem.W.Frag} {G H F : Hp} {ρ : Sto} {σ : St} {ds : List D} {vs : List V} {p : Addr} (R : Rel K G ρ σ H F) (r : RpL K F ds vs) (hp : H p = none) :
    Rel K G (some (.seq .z, .lst ds) :: ρ) (some (.ref p) :: σ) (upd H p (.lst vs)) F :=
  R.addNew hp ⟨p, vs, [], rfl, upd_same, OwL.z r, rfl⟩
theorem pv_tup {k : Nat} (h : PAV X es fs) : PV X .z (.Tuple es k pos) (vTup fs) := by
  refine pe_imp (pe_tup h) fun σ H Q ⟨G, ρ, F, d, q, R, k⟩ => ?_
  unfold vTup at q
  cases q1 : fs ρ with
  | none => rw [q1] at q; cases q
  | some xs =>
    rw [q1] at q
    simp only [Option.bind_some] at q
    split at q
    · rename_i hz
      cases q
      refine ⟨G, ρ, F, xs, q1, R, fun vs H1 F1 f1 h1 R1 r1 => ⟨?_, fun p hp => ?_⟩⟩
      · rw [← RpL.length r1]; exact mill_line hz
      · obtain ⟨R2, f2, h2, r2⟩ := R1.putTup r1 hp
        exact k _ _ _ (f1.trans f2) (h1.trans h2) R2 ⟨[], r2, rfl⟩
    · cases q
theorem fp_lst (h : PAV X es fs) : FP X (.seq .z) (.List es pos) (vLst fs) := by
  refine pe_imp (pe_lst h) fun σ H Q ⟨G, ρ, F, d, q, R, k⟩ => ?_
  unfold vLst at q
  cases q1 : fs ρ with
  | none => rw [q1] at q; cases q
  | some xs =>
    rw [q1] at q
    simp only [Option.bind_some] at q
    split at q
    · rename_i hz
      cases q
      refine ⟨G, ρ, F, xs, q1, R, fun vs H1 F1 f1 h1 R1 r1 => ⟨?_, fun p hp => ?_⟩⟩
      · rw [← RpL.length r1]; exact mill_line hz
      · exact k _ _ _ f1 (h1.trans (Same.upd hp)) (R1.addLst r1 hp)
    · cases q
theorem ev_tup {k : Nat} (h : EAV X es gs) : EV X (.Tuple es k pos) (eTup gs) := by
  refine pe_imp (pe_tup h) fun σ H Q ⟨G, ρ, F, d, ρ', q, R, k⟩ => ?_
  unfold eTup at q
  cases q1 : gs ρ with
  | none => rw [q1] at q; cases q
  | some xs =>
    obtain ⟨xs, ρ1⟩ := xs
    rw [q1] at q
    simp only [Option.bind_some] at q
    split at q
    · rename_i hz
      cases q
      refine ⟨G, ρ, F, xs, _, q1, R, fun vs H1 F1 f1 R1 r1 => ⟨?_, fun p hp => ?_⟩⟩
      · rw [← RpL.length r1]; exact mill_line hz
      · obtain ⟨R2, f2, h2, r2⟩ := R1.putTup r1 hp
        exact k _ _ _ (f1.trans f2) R2 r2
    · cases q
theorem ef_lst (h : EAV X es gs) : EF X (.seq .z) (.List es pos) (eLst gs) := by
  refine pe_imp (pe_lst h) fun σ H Q ⟨G, ρ, F, d, ρ', q, R, k⟩ => ?_
  unfold eLst at q
  cases q1 : gs ρ with
  | none => rw [q1] at q; cases q
  | some xs =>
    obtain ⟨xs, ρ1⟩ := xs
    rw [q1] at q
    simp only [Option.bind_some] at q
    split at q
    · rename_i hz
      cases q
      refine ⟨G, ρ, F, xs, _, q1, R, fun vs H1 F1 f1 R1 r1 => ⟨?_, fun p hp => ?_⟩⟩
      · rw [← RpL.length r1]; exact mill_line hz
      · exact k _ _ _ f1 (R1.addLst r1 hp)
    · cases q
end
end VL

set_option Elab.async false
set_option linter.all false
set_option maxRecDepth 100000
/-! VLc: what is walked, targets, comprehensions, statements, loops. -/
namespace VL
open PySem L2

/-! ### stores made from one another -/
section
variable {K : PySem.W.Frag} {G H H' F F' : Hp} {ρ ρ1 : Sto} {σ σ1 : St}
theorem OwL.snoc {R : D → V → List Addr → Prop} {d : D} {v : V} {f : List Addr} (r : R d v f) : ∀ {ds : List D} {vs : List V} {fp : List Addr}, OwL R ds vs fp → OwL R (ds ++ [d]) (vs ++ [v]) (fp ++ f)
  | [], vs, fp, h => by
    obtain ⟨rfl, rfl⟩ := h
    exact ⟨v, [], f, [], rfl, r, ⟨rfl, rfl⟩, by simp⟩
  | e :: ds, vs, fp, h => by
    obtain ⟨u, t, f1, f2, rfl, h1, h2, rfl⟩ := h
    exact ⟨u, t ++ [v], f1, f2 ++ f, rfl, h1, OwL.snoc r h2, by simp⟩
/-- an owned list ahead takes what stands next -/
theorem Rel.snoc {s : Sh} {ds : List D} {d : D} {va v : V} (h : Rel K G (some (.seq s, .lst ds) :: some (s, d) :: ρ) (some va :: some v :: σ) H F) :
    ∃ a vs, va = .ref a ∧ H a = some (.lst vs) ∧ vs.length = ds.length ∧ Rel K G (some (.seq s, .lst (ds ++ [d])) :: ρ) (some va :: σ) (upd H a (.lst (vs ++ [v]))) F := by
  obtain ⟨fps, w⟩ := h
  obtain ⟨u, q1, q2⟩ := w.slot 0 _ _ rfl
  simp at q1; subst q1
  obtain ⟨a, vs, fp', rfl, ha, ho, hf⟩ := q2
  obtain ⟨u, q3, q4⟩ := w.slot 1 _ _ rfl
  simp at q3; subst q3
  have n0 := w.nd 0
  rw [hf] at n0
  have a0 : a ∈ fps 0 := by rw [hf]; exact List.mem_cons_self
  have ne1 : ∀ j, j ≠ 0 → ∀ b ∈ fps j, b ≠ a := fun j hj b m z => hj (w.dis j 0 b m (by rw [z]; exact a0))
  have k1 : ∀ b o, b ≠ a → H b = some o → upd H a (.lst (vs ++ [v])) b = some o := fun b o hb e => by rw [upd_ne hb]; exact e
  refine ⟨a, vs, rfl, ha, (OwL.length ho).symm, shiftF (a :: (fp' ++ fps 1)) (fun j => fps (j + 2)), fun i s' d' q => ?_, fun i => ?_, fun i j b m1 m2 => ?_, fun i b m => ?_, by simpa using w.len, fun b o q => ?_, fun b o q => ?_, w.fg⟩
  · cases i with
    | zero =>
      simp at q; obtain ⟨rfl, rfl⟩ := q
      refine ⟨.ref a, rfl, a, vs ++ [v], fp' ++ fps 1, rfl, upd_same, OwL.snoc (q4.mono (Same.refl _) fun b m o e => k1 b o (ne1 1 (by decide) b m) e) (OwL.mono ho fun d v f m r => r.mono (Same.refl _) fun b z o e => k1 b o (fun y => ?_) e), rfl⟩
      exact (List.nodup_cons.mp n0).1 (y ▸ m b z)
    | succ i =>
      obtain ⟨u, q5, q6⟩ := w.slot (i + 2) s' d' (by simpa using q)
      exact ⟨u, by simpa using q5, q6.mono (Same.refl _) fun b m o e => k1 b o (ne1 (i + 2) (by omega) b m) e⟩
  · cases i with
    | zero =>
      refine List.nodup_cons.mpr ⟨fun m => ?_, List.nodup_append.mpr ⟨(List.nodup_cons.mp n0).2, w.nd 1, fun x m1 y m2 e => ?_⟩⟩
      · rcases List.mem_append.mp m with m | m
        · exact (List.nodup_cons.mp n0).1 m
        · exact ne1 1 (by decide) a m rfl
      · subst e
        have := w.dis 0 1 x (by rw [hf]; exact List.mem_cons_of_mem _ m1) m2
        cases this
    | succ i => exact w.nd _
  · have in0 : ∀ b, b ∈ a :: (fp' ++ fps 1) → b ∈ fps 0 ∨ b ∈ fps 1 := fun b m => by
      rcases List.mem_cons.mp m with rfl | m
      · exact .inl a0
      · rcases List.mem_append.mp m with m | m
        · exact .inl (by rw [hf]; exact List.mem_cons_of_mem _ m)
        · exact .inr m
    cases i with
    | zero =>
      cases j with
      | zero => rfl
      | succ j =>
        rcases in0 b m1 with z | z
        · have := w.dis _ _ b z m2; omega
        · have := w.dis _ _ b z m2; omega
    | succ i =>
      cases j with
      | zero =>
        rcases in0 b m2 with z | z
        · have := w.dis _ _ b z m1; omega
        · have := w.dis _ _ b z m1; omega
      | succ j => have := w.dis _ _ b m1 m2; omega
  · have go : ∀ j, b ∈ fps j → F b = none ∧ G b = none ∧ ∃ o, upd H a (.lst (vs ++ [v])) b = some o := fun j m => by
      obtain ⟨p1, p2, o, p3⟩ := w.out j b m
      refine ⟨p1, p2, ?_⟩
      by_cases hb : b = a
      · subst hb; exact ⟨_, upd_same⟩
      · exact ⟨o, k1 b o hb p3⟩
    cases i with
    | zero =>
      rcases List.mem_cons.mp m with rfl | m
      · exact go 0 a0
      · rcases List.mem_append.mp m with m | m
        · exact go 0 (by rw [hf]; exact List.mem_cons_of_mem _ m)
        · exact go 1 m
    | succ i => exact go _ m
  · refine k1 b o (fun z => ?_) (w.sub b o q)
    rw [z, (w.out 0 a a0).1] at q; cases q
  · refine k1 b o (fun z => ?_) (w.gsub b o q)
    rw [z, (w.out 0 a a0).2.1] at q; cases q

/-- slots forgotten -/
def wipeS (ρ : Sto) : List Nat → Sto
  | [] => ρ
  | v :: vs => (wipeS ρ vs).set v none
theorem Rel.wipe (h : Rel K G ρ σ H F) : ∀ vs : List Nat, Rel K G (wipeS ρ vs) (wipe σ vs) H F
  | [] => h
  | v :: vs => (Rel.wipe h vs).forgetV
theorem wipeS_ne {j : Nat} : ∀ {vs : List Nat}, j ∉ vs → (wipeS ρ vs)[j]? = ρ[j]?
  | [], _ => rfl
  | v :: vs, h => by
    unfold wipeS
    rw [List.getElem?_set_ne (fun e => h (by simp [e]))]
    exact wipeS_ne fun m => h (List.mem_cons_of_mem _ m)
theorem wipe_ne {j : Nat} : ∀ {vs : List Nat}, j ∉ vs → (wipe σ vs)[j]? = σ[j]?
  | [], _ => rfl
  | v :: vs, h => by
    unfold wipe
    rw [List.getElem?_set_ne (fun e => h (by simp [e]))]
    exact wipe_ne fun m => h (List.mem_cons_of_mem _ m)
theorem wipeS_length : ∀ vs : List Nat, (wipeS ρ vs).length = ρ.length
  | [] => rfl
  | v :: vs => by unfold wipeS; rw [List.length_set, wipeS_length vs]
theorem wipe_get {j : Nat} : ∀ {vs : List Nat}, j ∈ vs → j < σ.length → (wipe σ vs)[j]? = some none
  | v :: vs, m, hl => by
    unfold wipe
    by_cases e : v = j
    · subst e; rw [List.getElem?_set_self (by rw [wipe_length]; exact hl)]
    · rw [List.getElem?_set_ne e]
      exact wipe_get ((List.mem_cons.mp m).resolve_left fun z => e z.symm) hl
/-- σ1 differs from σ at the places ws alone -/
structure Dif (ws : List Nat) (σ σ1 : St) : Prop where
  len : σ1.length = σ.length
  at' : ∀ j, j ∉ ws → σ1[j]? = σ[j]?
theorem Dif.refl (ws : List Nat) (σ : St) : Dif ws σ σ := ⟨rfl, fun _ _ => rfl⟩
theorem Dif.trans {ws : List Nat} {σ σ1 σ2 : St} (a : Dif ws σ σ1) (b : Dif ws σ1 σ2) : Dif ws σ σ2 := ⟨b.len.trans a.len, fun j h => (b.at' j h).trans (a.at' j h)⟩
theorem Dif.mono {ws ws' : List Nat} {σ σ1 : St} (a : Dif ws σ σ1) (h : ∀ j ∈ ws, j ∈ ws') : Dif ws' σ σ1 := ⟨a.len, fun j m => a.at' j fun z => m (h j z)⟩
theorem Dif.set {i : Nat} {v : Option V} : Dif [i] σ (σ.set i v) := ⟨by simp, fun j h => by rw [List.getElem?_set_ne]; intro e; exact h (by simp [e])⟩
theorem Dif.wipe {ws vs : List Nat} (h : Dif ws (wipe σ vs) σ1) (hs : ∀ j ∈ ws, j ∈ vs) : L2.wipe σ1 vs = L2.wipe σ vs := by
  have hl := h.len
  rw [wipe_length] at hl
  refine List.ext_getElem? fun j => ?_
  by_cases hj : j ∈ vs
  · by_cases hlt : j < σ.length
    · rw [wipe_get hj hlt, wipe_get hj (by omega)]
    · rw [List.getElem?_eq_none (by rw [wipe_length]; omega), List.getElem?_eq_none (by rw [wipe_length]; omega)]
  · rw [wipe_ne hj, h.at' j fun m => hj (hs j m)]
/-- the slots vs hold nothing that is owned -/
def PlainAt (ρ : Sto) (vs : List Nat) : Bool := vs.all fun j => match ρ[j]? with
  | some (some (.seq _, _)) => false
  | some (some (.obj _, _)) => false
  | _ => true
theorem PlainAt.get {vs : List Nat} (h : PlainAt ρ vs = true) {j : Nat} (m : j ∈ vs) {s : Sh} {d : D} (e : ρ[j]? = some (some (s, d))) : s = .z := by
  have := List.all_eq_true.mp h j m
  rw [e] at this
  cases s with
  | z => rfl
  | seq _ => cases this
  | obj _ => cases this
/-- the slots vs of ρ, all others of ρ1 -/
def patch (vs : List Nat) (ρ ρ1 : Sto) : Sto := (List.range ρ.length).map fun j => if j ∈ vs then (ρ[j]?).join else (ρ1[j]?).join
theorem patch_get {vs : List Nat} {j : Nat} (h : j < ρ.length) : (patch vs ρ ρ1)[j]? = some (if j ∈ vs then (ρ[j]?).join else (ρ1[j]?).join) := by
  unfold patch
  rw [List.getElem?_map, List.getElem?_range h]; rfl
theorem patch_some {vs : List Nat} {j : Nat} {s : Sh} {d : D} (e : (patch vs ρ ρ1)[j]? = some (some (s, d))) : (j ∈ vs ∧ ρ[j]? = some (some (s, d))) ∨ (j ∉ vs ∧ ρ1[j]? = some (some (s, d))) := by
  by_cases h : j < ρ.length
  · rw [patch_get h] at e
    simp only [Option.some.injEq] at e
    split at e
    · rename_i m
      refine .inl ⟨m, ?_⟩
      cases q : ρ[j]? with
      | none => rw [q] at e; cases e
      | some x =>
        rw [q] at e
        have e : x = some (s, d) := by simpa using e
        rw [e]
    · rename_i m
      refine .inr ⟨m, ?_⟩
      cases q : ρ1[j]? with
      | none => rw [q] at e; cases e
      | some x =>
        rw [q] at e
        have e : x = some (s, d) := by simpa using e
        rw [e]
  · rw [List.getElem?_eq_none (by unfold patch; simpa using h)] at e; cases e
/-- back from a block: what stood at vs is as it was -/
theorem Rel.patch {G0 : Hp} {vs : List Nat} (R : Rel K G0 ρ σ H F) (R1 : Rel K G ρ1 σ1 H' F') (e : Same F F') (pl : PlainAt ρ vs = true) (df : Dif vs σ σ1) : Rel K G (patch vs ρ ρ1) σ H' F' := by
  obtain ⟨f0, w0⟩ := R
  obtain ⟨f1, w1⟩ := R1
  refine ⟨fun j => if j ∈ vs then [] else f1 j, fun j s d q => ?_, fun j => ?_, fun i j a m1 m2 => ?_, fun j a m => ?_, by unfold VL.patch; simp [w0.len], w1.sub, w1.gsub, w1.fg⟩
  · rcases patch_some q with ⟨m, q⟩ | ⟨m, q⟩
    · obtain ⟨v, q1, q2⟩ := w0.slot j s d q
      have hs := PlainAt.get pl m q
      subst hs
      refine ⟨v, q1, Rp.mono e _ _ q2.1, ?_⟩
      simp [m]
    · obtain ⟨v, q1, q2⟩ := w1.slot j s d q
      rw [df.at' j m] at q1
      refine ⟨v, q1, ?_⟩
      simp only [m, if_false]
      exact q2
  · show (if j ∈ vs then [] else f1 j).Nodup
    split
    · exact List.nodup_nil
    · exact w1.nd j
  · have m1 : a ∈ (if i ∈ vs then [] else f1 i) := m1
    have m2 : a ∈ (if j ∈ vs then [] else f1 j) := m2
    split at m1
    · cases m1
    · split at m2
      · cases m2
      · exact w1.dis i j a m1 m2
  · have m : a ∈ (if j ∈ vs then [] else f1 j) := m
    split at m
    · cases m
    · exact w1.out j a m
/-- the same store again -/
theorem Rel.back {G0 : Hp} {vs : List Nat} (R : Rel K G0 ρ σ H F) (R1 : Rel K G ρ1 σ1 H' F') (e : Same F F') (pl : PlainAt ρ vs = true) (df : Dif vs σ σ1) (d1 : ∀ j, j ∉ vs → ρ1[j]? = ρ[j]?) : Rel K G ρ σ H' F' := by
  have R2 := Rel.patch (vs := vs) R R1 e pl df
  have hl := R.len
  have hl1 := R1.len
  have e2 : VL.patch vs ρ ρ1 = ρ := by
    refine List.ext_getElem? fun j => ?_
    by_cases h : j < ρ.length
    · rw [patch_get h]
      by_cases m : j ∈ vs
      · rw [if_pos m, List.getElem?_eq_getElem h]; rfl
      · rw [if_neg m, d1 j m, List.getElem?_eq_getElem h]; rfl
    · rw [List.getElem?_eq_none (by unfold VL.patch; simpa using h), List.getElem?_eq_none (by omega)]
  rw [e2] at R2
  exact R2
end

/-! ### what is walked -/
structure ItV (K : PySem.W.Frag) (J : It) (ds : List D) (F0 : Hp) : Prop where
  go : ∀ i H F, i < ds.length → Same F0 F → Same F H → J.go i H
  stop : ∀ H F, Same F0 F → Same F H → J.stop ds.length H
  yld : ∀ i H x H', J.yld i H x H' → ∀ d, ds[i]? = some d → ∀ G ρ σ F, Same F0 F → Rel K G ρ σ H F → ∃ F', Same F F' ∧ Same H H' ∧ Rel K G ρ σ H' F' ∧ Rp K F' d x
theorem ItV.mono {K : PySem.W.Frag} {J : It} {ds : List D} {F0 F1 : Hp} (h : ItV K J ds F0) (e : Same F0 F1) : ItV K J ds F1 :=
  ⟨fun i H F hi s => h.go i H F hi (e.trans s), fun H F s => h.stop H F (e.trans s), fun i H x H' y d q G ρ σ F s => h.yld i H x H' y d q G ρ σ F (e.trans s)⟩
def tIP (K : PySem.W.Frag) (f : Sto → Option (List D)) : TI := fun σ H R => ∃ G ρ F ds, f ρ = some ds ∧ Rel K G ρ σ H F ∧
  ∀ J H' F', Same F F' → Same H H' → Rel K G ρ σ H' F' → ItV K J ds F' → R J H'
def tIE (K : PySem.W.Frag) (f : Sto → Option (List D × Sto)) : TI := fun σ H R => ∃ G ρ F ds ρ', f ρ = some (ds, ρ') ∧ Rel K G ρ σ H F ∧
  ∀ J H' F', Same F F' → Rel K G ρ' σ H' F' → ItV K J ds F' → R J H'
abbrev IPV (X : Cx) (tg e : Expr) (f : Sto → Option (List D)) : Prop := PI X tg e (tIP X.K f)
abbrev IEV (X : Cx) (tg e : Expr) (f : Sto → Option (List D × Sto)) : Prop := PI X tg e (tIE X.K f)
section
variable {X : Cx} {tg e a b : Expr} {fa : Sto → Option D} {ga : Sto → Option (D × Sto)} {pos p : Pos}
def upI (f : Sto → Option (List D)) : Sto → Option (List D × Sto) := fun ρ => (f ρ).map fun d => (d, ρ)
theorem IPV.iev {f : Sto → Option (List D)} (h : IPV X tg e f) : IEV X tg e (upI f) := by
  refine pi_imp h fun σ H Q ⟨G, ρ, F, d, ρ', q, R, k⟩ => ?_
  unfold upI at q
  cases q2 : f ρ with
  | none => rw [q2] at q; cases q
  | some x => rw [q2] at q; cases q; exact ⟨G, _, F, _, q2, R, fun J H' F' s1 s2 R' => k J H' F' s1 R'⟩
theorem itv_list {K : PySem.W.Frag} {F : Hp} {a : Addr} {vs : List V} {ds : List D} (h : SqL K F a vs) (r : RpL K F ds vs) : ItV K (Itl K a) ds F := by
  have hl := RpL.length r
  refine ⟨fun i H F' hi s1 s2 => ⟨vs, vs[i]'(by omega), Same.seq (s1.trans s2) h, by simp [show i < vs.length by omega]⟩, fun H F' s1 s2 => ⟨vs, Same.seq (s1.trans s2) h, by omega⟩, fun i H x H' y d q G ρ σ F' s1 R => ?_⟩
  obtain ⟨rfl, y⟩ := y
  have e := y vs (Same.seq (s1.trans R.sub) h)
  exact ⟨F', Same.refl _, Same.refl _, R, Rp.mono s1 _ _ (RpL.get2 r i d x q e)⟩
theorem itv_tup {K : PySem.W.Frag} {F : Hp} {a : Addr} {vs : List V} {ds : List D} (h : SqT K F a vs) (r : RpL K F ds vs) : ItV K (Itt K a) ds F := by
  have hl := RpL.length r
  refine ⟨fun i H F' hi s1 s2 => ⟨vs, vs[i]'(by omega), Same.tupT (s1.trans s2) h, by simp [show i < vs.length by omega]⟩, fun H F' s1 s2 => ⟨vs, Same.tupT (s1.trans s2) h, by omega⟩, fun i H x H' y d q G ρ σ F' s1 R => ?_⟩
  obtain ⟨rfl, y⟩ := y
  have e := y vs (Same.tupT (s1.trans R.sub) h)
  exact ⟨F', Same.refl _, Same.refl _, R, Rp.mono s1 _ _ (RpL.get2 r i d x q e)⟩
/-- the items of a list, a tuple -/
def dItems : D → Option (List D)
  | .lst ds => some ds
  | .tup ds => some ds
  | _ => none
def vItems (f : Sto → Option D) : Sto → Option (List D) := fun ρ => (f ρ).bind dItems
def eItems (f : Sto → Option (D × Sto)) : Sto → Option (List D × Sto) := fun ρ => (f ρ).bind fun x => (dItems x.1).map fun ds => (ds, x.2)
theorem pi_or {t u : TI} (h : PI X tg e t) (h' : PI X tg e u) : PI X tg e (fun σ H R => t σ H R ∨ u σ H R) :=
  ⟨fun pins s σ H R I q => q.elim (h.run pins s σ H R I) (h'.run pins s σ H R I)⟩
theorem ip_seq (h : PV X .z e fa) : IPV X tg e (vItems fa) := by
  refine pi_imp (pi_or (pi_list h) (pi_tup h)) fun σ H Q ⟨G, ρ, F, ds, q, R, k⟩ => ?_
  unfold vItems at q
  cases q1 : fa ρ with
  | none => rw [q1] at q; cases q
  | some x =>
    rw [q1] at q
    simp only [Option.bind_some] at q
    cases x <;> simp only [dItems] at q <;> cases q
    · refine .inr ⟨G, ρ, F, _, q1, R, fun v H1 F1 f1 h1 R1 ⟨fp, r1⟩ => ?_⟩
      have r2 := r1.1
      simp only [Rp] at r2
      obtain ⟨a, vs, rfl, ht, hr⟩ := r2
      exact ⟨a, rfl, ⟨vs, Same.tupT R1.sub ht⟩, k _ H1 F1 f1 h1 R1 (itv_tup ht hr)⟩
    · refine .inl ⟨G, ρ, F, _, q1, R, fun v H1 F1 f1 h1 R1 ⟨fp, r1⟩ => ?_⟩
      have r2 := r1.1
      simp only [Rp] at r2
      obtain ⟨a, vs, rfl, ht, hr⟩ := r2
      exact ⟨a, rfl, ⟨vs, Same.seq R1.sub ht⟩, k _ H1 F1 f1 h1 R1 (itv_list ht hr)⟩
theorem ie_seq (h : EV X e ga) : IEV X tg e (eItems ga) := by
  refine pi_imp (pi_or (pi_list h) (pi_tup h)) fun σ H Q ⟨G, ρ, F, ds, ρ', q, R, k⟩ => ?_
  unfold eItems at q
  cases q1 : ga ρ with
  | none => rw [q1] at q; cases q
  | some x =>
    obtain ⟨x, ρ1⟩ := x
    rw [q1] at q
    simp only [Option.bind_some] at q
    cases x <;> simp only [dItems] at q <;> cases q
    · refine .inr ⟨G, ρ, F, _, _, q1, R, fun v H1 F1 f1 R1 r2 => ?_⟩
      simp only [Rp] at r2
      obtain ⟨a, vs, rfl, ht, hr⟩ := r2
      exact ⟨a, rfl, ⟨vs, Same.tupT R1.sub ht⟩, k _ H1 F1 f1 R1 (itv_tup ht hr)⟩
    · refine .inl ⟨G, ρ, F, _, _, q1, R, fun v H1 F1 f1 R1 r2 => ?_⟩
      simp only [Rp] at r2
      obtain ⟨a, vs, rfl, ht, hr⟩ := r2
      exact ⟨a, rfl, ⟨vs, Same.seq R1.sub ht⟩, k _ H1 F1 f1 R1 (itv_list ht hr)⟩
/-- i, i + 1, .., below j -/
def dRange (i j : Int) : List D := (List.range (j - i).toNat).map fun k => .int (i + (k : Nat))
theorem dRange_len (i j : Int) : (dRange i j).length = (j - i).toNat := by simp [dRange]
theorem itv_range {K : PySem.W.Frag} {F : Hp} {i j : Int} : ItV K (Itr i (j - i).toNat) (dRange i j) F := by
  refine ⟨fun k H F' hk _ _ => by rw [dRange_len] at hk; exact hk, fun H F' _ _ => by rw [dRange_len]; exact Nat.le_refl _, fun k H x H' y d q G ρ σ F' s1 R => ?_⟩
  obtain ⟨rfl, rfl⟩ := y
  refine ⟨F', Same.refl _, Same.refl _, R, ?_⟩
  unfold dRange at q
  rw [List.getElem?_map] at q
  cases q2 : (List.range (j - i).toNat)[k]? with
  | none => rw [q2] at q; cases q
  | some x =>
    rw [q2] at q
    have e : x = k := by
      obtain ⟨hk, e⟩ := List.getElem?_eq_some_iff.mp q2
      simpa using e.symm
    subst e
    cases q
    simp only [Rp]
def vRng1 (fs : Sto → Option (List D)) : Sto → Option (List D) := fun ρ => match fs ρ with
  | some [.int j] => if j < 1000000000 ∧ -1000000000 < j then some (dRange 0 j) else none
  | _ => none
def vRng2 (fs : Sto → Option (List D)) : Sto → Option (List D) := fun ρ => match fs ρ with
  | some [.int i, .int j] => if (j < 1000000000 ∧ -1000000000 < j) ∧ i < 1000000000 ∧ -1000000000 < i then some (dRange i j) else none
  | _ => none
theorem ip_range1 {fs : Sto → Option (List D)} (hg : Gl X "range") (hm : X.mg "range" = none) (ha : PAV X [a] fs) (hs : starEach [a] X.env = [(false, eval a X.env)] := by rfl) : IPV X tg (.Call (.Name "range" p) [a] [] pos) (vRng1 fs) := by
  refine pi_imp (pi_range1 hg hm ha hs) fun σ H Q ⟨G, ρ, F, ds, q, R, k⟩ => ?_
  unfold vRng1 at q
  split at q
  · rename_i j q1
    split at q
    · rename_i hj
      cases q
      refine ⟨G, ρ, F, _, q1, R, fun vs H1 F1 f1 h1 R1 r1 => ?_⟩
      obtain ⟨v, r, rfl, h2, h3⟩ := RpL.cons_inv r1
      have h3 := RpL.nil_inv h3
      have h2 : v = .int j := by simpa only [Rp] using h2
      subst h2; subst h3
      refine ⟨j, rfl, by omega, by omega, ?_⟩
      have := k (Itr 0 (j - 0).toNat) H1 F1 f1 h1 R1 itv_range
      simpa using this
    · cases q
  · cases q
theorem ip_range2 {fs : Sto → Option (List D)} (hg : Gl X "range") (hm : X.mg "range" = none) (ha : PAV X [a, b] fs) (hs : starEach [a, b] X.env = [(false, eval a X.env), (false, eval b X.env)] := by rfl) (hs2 : starEach [b] X.env = [(false, eval b X.env)] := by rfl) :
    IPV X tg (.Call (.Name "range" p) [a, b] [] pos) (vRng2 fs) := by
  refine pi_imp (pi_range2 hg hm ha hs hs2) fun σ H Q ⟨G, ρ, F, ds, q, R, k⟩ => ?_
  unfold vRng2 at q
  split at q
  · rename_i i j q1
    split at q
    · rename_i hj
      cases q
      refine ⟨G, ρ, F, _, q1, R, fun vs H1 F1 f1 h1 R1 r1 => ?_⟩
      obtain ⟨v, r, rfl, h2, h3⟩ := RpL.cons_inv r1
      obtain ⟨v', r', rfl, h4, h5⟩ := RpL.cons_inv h3
      have h5 := RpL.nil_inv h5
      have h2 : v = .int i := by simpa only [Rp] using h2
      have h4 : v' = .int j := by simpa only [Rp] using h4
      subst h2; subst h4; subst h5
      refine ⟨i, j, rfl, ⟨by omega, by omega, by omega, by omega⟩, ?_⟩
      exact k (Itr i (j - i).toNat) H1 F1 f1 h1 R1 itv_range
    · cases q
  · cases q
end

/-! ### targets -/
/-- the target stores d: the slots ws alone may change -/
def tG (K : PySem.W.Frag) (ws : List Nat) (g : D → Sto → Option Sto) : TG := fun v σ H Q => ∃ G ρ F d ρ', g d ρ = some ρ' ∧ Rel K G ρ σ H F ∧ Rp K F d v ∧
  ∀ σ' H' F', Same F F' → Same H H' → Dif ws σ σ' → Rel K G ρ' σ' H' F' → Q σ' H'
def tGs (K : PySem.W.Frag) (ws : List Nat) (g : List D → Sto → Option Sto) : TGs := fun vs σ H Q => ∃ G ρ F ds ρ', g ds ρ = some ρ' ∧ Rel K G ρ σ H F ∧ RpL K F ds vs ∧
  ∀ σ' H' F', Same F F' → Same H H' → Dif ws σ σ' → Rel K G ρ' σ' H' F' → Q σ' H'
/-- the store's places but ws are kept -/
def Kept (ws : List Nat) (ρ ρ' : Sto) : Prop := ρ'.length = ρ.length ∧ ∀ j, j ∉ ws → ρ'[j]? = ρ[j]?
theorem Kept.trans {ws : List Nat} {ρ ρ1 ρ2 : Sto} (a : Kept ws ρ ρ1) (b : Kept ws ρ1 ρ2) : Kept ws ρ ρ2 := ⟨b.1.trans a.1, fun j m => (b.2 j m).trans (a.2 j m)⟩
theorem Kept.mono {ws ws' : List Nat} {ρ ρ1 : Sto} (a : Kept ws ρ ρ1) (h : ∀ j ∈ ws, j ∈ ws') : Kept ws' ρ ρ1 := ⟨a.1, fun j m => a.2 j fun z => m (h j z)⟩
structure PGV (X : Cx) (ws : List Nat) (tg : Expr) (g : D → Sto → Option Sto) : Prop where
  pg : PG X tg (tG X.K ws g)
  ok : ∀ d ρ ρ', g d ρ = some ρ' → Kept ws ρ ρ'
structure PGsV (X : Cx) (ws : List Nat) (tg : List Expr) (g : List D → Sto → Option Sto) : Prop where
  pg : PGs X tg (tGs X.K ws g)
  ok : ∀ d ρ ρ', g d ρ = some ρ' → Kept ws ρ ρ'
section
variable {X : Cx} {pos : Pos} {ws ws2 : List Nat}
theorem pgs_imp {e : List Expr} {t t' : TGs} (h : PGs X e t) (k : ∀ v σ H Q, t' v σ H Q → t v σ H Q) : PGs X e t' := ⟨fun pins s σ H v u Q I r q => h.run pins s σ H v u Q I r (k v σ H Q q)⟩
def gN (i : Nat) : D → Sto → Option Sto := fun d ρ => some (ρ.set i (some (.z, d)))
theorem pgv_name {i : Nat} {x : Str} (hN : X.N.Nodup) (hi : X.N[i]? = some x) (hx : Loc X.env.scope x) (hf : X.fn x = true ∨ X.env.scope.names.lookup x = some .local := by first | exact .inl rfl | exact .inr rfl | assumption) : PGV X [i] (.Name x pos) (gN i) := by
  refine ⟨pg_imp (pg_name hN hi hx hf) fun v σ H Q ⟨G, ρ, F, d, ρ', q, R, r, k⟩ => ?_, fun d ρ ρ' q => ?_⟩
  · cases q
    exact k _ H F (Same.refl _) (Same.refl _) Dif.set (R.storez r)
  · cases q
    exact ⟨by simp, fun j m => by rw [List.getElem?_set_ne]; intro e; exact m (by simp [e])⟩
def gsNil : List D → Sto → Option Sto
  | [], ρ => some ρ
  | _ :: _, _ => none
def gsCons (g : D → Sto → Option Sto) (h : List D → Sto → Option Sto) : List D → Sto → Option Sto
  | [], _ => none
  | d :: ds, ρ => (g d ρ).bind (h ds)
theorem pgsv_nil : PGsV X [] [] gsNil := by
  refine ⟨pgs_imp pgs_nil fun vs σ H Q ⟨G, ρ, F, ds, ρ', q, R, r, k⟩ => ?_, fun ds ρ ρ' q => ?_⟩
  · cases ds with
    | nil =>
      cases q
      exact ⟨RpL.nil_inv r, k σ H F (Same.refl _) (Same.refl _) (Dif.refl _ _) R⟩
    | cons d ds => cases q
  · cases ds with
    | nil => cases q; exact ⟨rfl, fun _ _ => rfl⟩
    | cons d ds => cases q
theorem pgsv_cons {e : Expr} {es : List Expr} {g : D → Sto → Option Sto} {h : List D → Sto → Option Sto} (h1 : PGV X ws e g) (h2 : PGsV X ws2 es h)
    (hs : (assignEach (e :: es) X.env).map (·.2) = assign e X.env :: (assignEach es X.env).map (·.2) := by rfl) : PGsV X (ws ++ ws2) (e :: es) (gsCons g h) := by
  have split : ∀ {d : D} {ds : List D} {ρ ρ' : Sto}, gsCons g h (d :: ds) ρ = some ρ' → ∃ ρ1, g d ρ = some ρ1 ∧ h ds ρ1 = some ρ' := fun {d ds ρ ρ'} q => by
    have q : (g d ρ).bind (h ds) = some ρ' := q
    cases q1 : g d ρ with
    | none => rw [q1] at q; cases q
    | some ρ1 => rw [q1] at q; exact ⟨ρ1, rfl, q⟩
  refine ⟨pgs_imp (pgs_cons h1.pg h2.pg hs) fun vs σ H Q ⟨G, ρ, F, ds, ρ', q, R, r, k⟩ => ?_, fun ds ρ ρ' q => ?_⟩
  · cases ds with
    | nil => cases q
    | cons d ds =>
      obtain ⟨v, rest, rfl, r1, r2⟩ := RpL.cons_inv r
      obtain ⟨ρ1, q1, q⟩ := split q
      refine ⟨v, rest, rfl, G, ρ, F, d, ρ1, q1, R, r1, fun σ1 H1 F1 f1 h1 d1 R1 => ?_⟩
      exact ⟨G, ρ1, F1, ds, ρ', q, R1, RpL.mono f1 _ _ r2, fun σ2 H2 F2 f2 h2 d2 R2 => k σ2 H2 F2 (f1.trans f2) (h1.trans h2) ((d1.mono fun j m => List.mem_append_left _ m).trans (d2.mono fun j m => List.mem_append_right _ m)) R2⟩
  · cases ds with
    | nil => cases q
    | cons d ds =>
      obtain ⟨ρ1, q1, q⟩ := split q
      exact ((h1.ok _ _ _ q1).mono fun j m => List.mem_append_left _ m).trans ((h2.ok _ _ _ q).mono fun j m => List.mem_append_right _ m)
def gTupF (n : Nat) (g : List D → Sto → Option Sto) : D → Sto → Option Sto
  | .tup ds, ρ => if ds.length = n then g ds ρ else none
  | _, _ => none
theorem pgv_tup {es : List Expr} {k : Nat} {g : List D → Sto → Option Sto} {n : Nat} (hc : X.calm = true) (h : PGsV X ws es g)
    (hn : (assignEach es X.env).length = n := by rfl) (hst : (assignEach es X.env).findIdx? (·.1) = none := by rfl) : PGV X ws (.Tuple es k pos) (gTupF n g) := by
  refine ⟨pg_imp (pg_tup hc h.pg hn hst) fun v σ H Q ⟨G, ρ, F, d, ρ', q, R, r, k⟩ => ?_, fun d ρ ρ' q => ?_⟩
  · cases d <;> simp only [gTupF] at q <;> try cases q
    rename_i ds
    split at q
    · rename_i hl
      simp only [Rp] at r
      obtain ⟨a, vs, rfl, ht, hr⟩ := r
      exact ⟨a, vs, rfl, Same.tupT R.sub ht, by rw [← RpL.length hr]; exact hl, G, ρ, F, ds, ρ', q, R, hr, k⟩
    · cases q
  · cases d <;> simp only [gTupF] at q <;> try cases q
    split at q
    · exact h.ok _ _ _ q
    · cases q
end

/-! ### comprehensions -/
def tPTs (K : PySem.W.Frag) (f : Sto → Option Bool) : TT := tPT K f
/-- the items that a comprehension makes -/
def lcL (g : D → Sto → Option Sto) (ft : Sto → Option Bool) (fe : Sto → Option D) (ρ : Sto) : List D → Option (List D)
  | [] => some []
  | x :: xs => (g x ρ).bind fun ρ1 => (ft ρ1).bind fun b => if b then (fe ρ1).bind fun y => (lcL g ft fe ρ xs).map fun ys => y :: ys else lcL g ft fe ρ xs
def vLc (vs : List Nat) (fi : Sto → Option (List D)) (g : D → Sto → Option Sto) (ft : Sto → Option Bool) (fe : Sto → Option D) : Sto → Option D := fun ρ =>
  if PlainAt ρ vs then (fi ρ).bind fun ds => if ds.length ≤ 1000000 then (lcL g ft fe (wipeS ρ vs) ds).map D.lst else none else none
section
variable {X : Cx} {pos : Pos}
theorem lcL_len {g : D → Sto → Option Sto} {ft : Sto → Option Bool} {fe : Sto → Option D} {ρ : Sto} : ∀ {xs ys : List D}, lcL g ft fe ρ xs = some ys → ys.length ≤ xs.length
  | [], ys, h => by cases h; exact Nat.le_refl _
  | x :: xs, ys, h => by
    unfold lcL at h
    cases q1 : g x ρ with
    | none => rw [q1] at h; cases h
    | some ρ1 =>
      rw [q1] at h; simp only [Option.bind_some] at h
      cases q2 : ft ρ1 with
      | none => rw [q2] at h; cases h
      | some b =>
        rw [q2] at h; simp only [Option.bind_some] at h
        cases b with
        | false =>
          simp only [Bool.false_eq_true, if_false] at h
          have := lcL_len h
          simp; omega
        | true =>
          simp only [if_true] at h
          cases q3 : fe ρ1 with
          | none => rw [q3] at h; cases h
          | some y =>
            rw [q3] at h; simp only [Option.bind_some] at h
            cases q4 : lcL g ft fe ρ xs with
            | none => rw [q4] at h; cases h
            | some zs =>
              rw [q4] at h; cases h
              have := lcL_len q4
              simp; omega
abbrev Blk (X : Cx) (scope : Scope) (φ : Cx → Prop) : Prop := ∀ (s : Shared) (H : Hp) (C : Addr) (cl : List (Str × Addr)) (fp : List Addr), φ (X.blk s H scope (compEnvC scope cl C X.env) fp)
theorem ptsv_nil : PTs X [] (tPT X.K fun _ => some true) := by
  refine ⟨fun pins s σ H Q I ⟨G, ρ, F, b, q, R, k⟩ => ?_⟩
  cases q
  exact pts_nil.run pins s σ H Q I (k H F (Same.refl _) (Same.refl _) R)
theorem ptsv_one {c : Expr} {f : Sto → Option Bool} (h : PTV X c f) : PTs X [c] (tPT X.K f) := pts_one h
/-- the reading of a pure comprehension -/
theorem tLc_of {K : PySem.W.Frag} {s : Sh} {ws vs : List Nat} {fi : Sto → Option (List D)} {g : D → Sto → Option Sto} {ft : Sto → Option Bool} {fe : Sto → Option D} (gok : ∀ d ρ ρ', g d ρ = some ρ' → Kept ws ρ ρ') (hw' : ∀ j ∈ ws, j ∈ vs)
    (σ : St) (H : Hp) (Q : VK) (h : tPF K (.seq s) (vLc vs fi g ft fe) σ H Q) : tLc (tIP K fi) (tG K ws g) (tPT K ft) (tPF K s fe) vs σ H Q := by
  obtain ⟨G, ρ, F, d, q, R, k⟩ := h
  unfold vLc at q
  split at q
  · rename_i pl
    cases q1 : fi ρ with
    | none => rw [q1] at q; cases q
    | some ds =>
      rw [q1] at q; simp only [Option.bind_some] at q
      split at q
      · rename_i hlen
        cases q2 : lcL g ft fe (wipeS ρ vs) ds with
        | none => rw [q2] at q; cases q
        | some ys =>
          rw [q2] at q; cases q
          refine ⟨G, ρ, F, ds, q1, R, fun J H1 F1 f1 h1 R1 it => ?_⟩
          intro L hL
          have R1L : Rel K G (some (.seq s, .lst []) :: ρ) (some (.ref L) :: σ) (upd H1 L (.lst [])) F1 := R1.addNew hL ⟨L, [], [], rfl, upd_same, ⟨rfl, rfl⟩, rfl⟩
          refine ⟨fun i m H' => m = ds.length - i ∧ i ≤ ds.length ∧ ∃ F' acc rest, Same F1 F' ∧ Same H1 H' ∧ Rel K G (some (.seq s, .lst acc) :: ρ) (some (.ref L) :: σ) H' F' ∧ lcL g ft fe (wipeS ρ vs) (ds.drop i) = some rest ∧ acc ++ rest = ys ∧ acc.length ≤ i, ⟨ds.length, by simp, Nat.zero_le _, F1, [], ys, Same.refl _, Same.upd hL, R1L, by simpa using q2, rfl, Nat.le_refl _⟩, ?_⟩
          rintro i m H2 ⟨rfl, hi, F2, acc, rest, f2, h2, R2, l2, e2, al⟩
          by_cases hlt : i < ds.length
          · refine .inr ⟨it.go i H2 F2 hlt f2 R2.sub, fun H' => i + 1 ≤ ds.length ∧ ∃ F' acc rest, Same F1 F' ∧ Same H1 H' ∧ Rel K G (some (.seq s, .lst acc) :: ρ) (some (.ref L) :: σ) H' F' ∧ lcL g ft fe (wipeS ρ vs) (ds.drop (i + 1)) = some rest ∧ acc ++ rest = ys ∧ acc.length ≤ i + 1, fun H' p => ⟨ds.length - (i + 1), by omega, rfl, p⟩, fun x H3 y3 => ?_⟩
            have hd : ds[i]? = some ds[i] := by simp [hlt]
            obtain ⟨F3, f3, h3, R3, r3⟩ := it.yld i H2 x H3 y3 _ hd G _ _ F2 f2 R2
            rw [List.drop_eq_getElem_cons hlt] at l2
            unfold lcL at l2
            cases p1 : g ds[i] (wipeS ρ vs) with
            | none => rw [p1] at l2; cases l2
            | some ρ1 =>
              rw [p1] at l2; simp only [Option.bind_some] at l2
              obtain ⟨G', R4, back⟩ := R3.frame
              refine ⟨G', _, F3, _, ρ1, p1, R4.wipe vs, r3, fun σ5 H5 F5 f5 h5 d5 R5 => ⟨d5.wipe hw', ?_⟩⟩
              have d5' : Dif vs σ σ5 := ⟨by have := d5.len; rw [wipe_length] at this; exact this, fun j hj => by rw [d5.at' j fun m => hj (hw' j m), wipe_ne hj]⟩
              cases p2 : ft ρ1 with
              | none => rw [p2] at l2; cases l2
              | some b =>
                rw [p2] at l2; simp only [Option.bind_some] at l2
                refine ⟨G', ρ1, F5, b, p2, R5, fun H6 F6 f6 h6 R6 => ?_⟩
                -- the store ahead of the block again
                have dk : ∀ j, j ∉ vs → ρ1[j]? = ρ[j]? := fun j hj => by rw [(gok _ _ _ p1).2 j fun m => hj (hw' j m), wipeS_ne hj]
                cases b with
                | false =>
                  simp only [Bool.false_eq_true, if_false] at l2 ⊢
                  exact ⟨hlt, F6, acc, rest, f2.trans (f3.trans (f5.trans f6)), h2.trans (h3.trans (h5.trans h6)), back ρ σ H6 F6 (f5.trans f6) (Rel.back R4 R6 (f5.trans f6) pl d5' dk), l2, e2, by omega⟩
                | true =>
                  simp only [if_true] at l2 ⊢
                  cases p3 : fe ρ1 with
                  | none => rw [p3] at l2; cases l2
                  | some y =>
                    rw [p3] at l2; simp only [Option.bind_some] at l2
                    cases p4 : lcL g ft fe (wipeS ρ vs) (ds.drop (i + 1)) with
                    | none => rw [p4] at l2; cases l2
                    | some rest' =>
                      rw [p4] at l2; cases l2
                      refine ⟨G', ρ1, F6, y, p3, R6, fun v H7 F7 f7 h7 R7 => ?_⟩
                      -- the element is set aside, the store is put back
                      obtain ⟨G2, R8, back2⟩ := R7.frame
                      have ff : Same F3 F7 := f5.trans (f6.trans f7)
                      have R9 := back _ _ H7 F7 ff (back2 ρ σ H7 F7 (Same.refl _) (Rel.back R4 R8 ff pl d5' dk))
                      obtain ⟨a, us, ea, ha, hl, R10⟩ := R9.snoc
                      cases ea
                      refine ⟨us, ha, ?_, hlt, F7, acc ++ [y], rest', f2.trans (f3.trans ff), fun b o q => ?_, R10, rfl, by rw [← e2]; simp, by simp; omega⟩
                      · rw [hl]
                        exact Nat.lt_of_le_of_lt (Nat.le_trans al (Nat.le_trans hi hlen)) (by rw [sizeLine_eq]; decide)
                      · rw [upd_ne (ne_of_none q hL)]
                        exact (h2.trans (h3.trans (h5.trans (h6.trans h7)))) b o q
          · have e : i = ds.length := by omega
            subst e
            rw [List.drop_length] at l2
            cases l2
            rw [List.append_nil] at e2
            subst e2
            exact .inl ⟨it.stop H2 F2 f2 R2.sub, k _ H2 F2 (f1.trans f2) (h1.trans h2) R2⟩
      · cases q
  · cases q
theorem fp_lc {s : Sh} {elt tg iter : Expr} {ifs : List Expr} {scope : Scope} {own : List (Str × Nat)} {ws : List Nat} {fi : Sto → Option (List D)} {g : D → Sto → Option Sto} {ft : Sto → Option Bool} {fe : Sto → Option D}
    (hc : X.calm = true) (hN : X.N.Nodup) (hi : IPV X tg iter fi) (ok : BlkOk X.N X.env.scope scope own)
    (hg : Blk X scope fun Y => PGV Y ws tg g) (ht : Blk X scope fun Y => PTs Y ifs (tPT Y.K ft)) (he : Blk X scope fun Y => FP Y s elt fe)
    (hw : (ws.all fun j => (own.map (·.2)).contains j) = true) (hs : ∀ x, foldedSetIterable iter X.env x = pure x := by intro _; rfl) :
    FP X (.seq s) (.ListComp elt [⟨tg, iter, ifs, 0⟩] scope pos) (vLc (own.map (·.2)) fi g ft fe) :=
  pe_imp (pe_lc (te := tPF X.K s fe) (tt := tPT X.K ft) (g := tG X.K ws g) hc hN hi ok (fun s H C cl fp => (hg s H C cl fp).pg) ht he hs)
    (tLc_of (hg ({} : Shared) (fun _ => none) 0 [] []).ok fun j m => by simpa using List.all_eq_true.mp hw j m)
end
end VL

set_option Elab.async false
set_option linter.all false
set_option maxRecDepth 100000
/-! VLd: owned objects changed; statements. -/
namespace VL
open PySem L2

section
variable {K : PySem.W.Frag} {G H H' F F' : Hp} {ρ : Sto} {σ : St}
/-- the slots ahead are made from the slots ahead -/
theorem RelW.front {xs xs' : Sto} {ys ys' : St} {fps : Nat → List Addr} (w : RelW K G (xs ++ ρ) (ys ++ σ) H F fps) (hx : xs.length = ys.length) (hx' : xs'.length = ys'.length) (fs : Nat → List Addr)
    (slots : ∀ i s d, xs'[i]? = some (some (s, d)) → ∃ v, ys'[i]? = some (some v) ∧ Ow K H' F s d v (fs i)) (nd : ∀ i, i < xs'.length → (fs i).Nodup) (dis : ∀ i j a, i < xs'.length → j < xs'.length → a ∈ fs i → a ∈ fs j → i = j)
    (sub : ∀ i a, i < xs'.length → a ∈ fs i → ∃ j, j < xs.length ∧ a ∈ fps j) (keep : ∀ b o, (∀ j, j < xs.length → b ∉ fps j) → H b = some o → H' b = some o) (live : ∀ i a, i < xs'.length → a ∈ fs i → ∃ o, H' a = some o) :
    Rel K G (xs' ++ ρ) (ys' ++ σ) H' F := by
  have hl : ρ.length = σ.length := by have := w.len; simp at this; omega
  let gs : Nat → List Addr := fun i => if i < xs'.length then fs i else fps (i - xs'.length + xs.length)
  have g1 : ∀ {i}, i < xs'.length → gs i = fs i := fun {i} h => if_pos h
  have g2 : ∀ {i}, ¬ i < xs'.length → gs i = fps (i - xs'.length + xs.length) := fun {i} h => if_neg h
  have out : ∀ {b j}, xs.length ≤ j → b ∈ fps j → ∀ i, i < xs.length → b ∉ fps i := fun {b j} hj m i hi m2 => by have := w.dis _ _ b m m2; omega
  refine ⟨gs, fun i s d q => ?_, fun i => ?_, fun i j a m1 m2 => ?_, fun i a m => ?_, by simp [hl, hx'], fun b o q => ?_, fun b o q => ?_, w.fg⟩
  · by_cases hi : i < xs'.length
    · rw [List.getElem?_append_left hi] at q
      rw [List.getElem?_append_left (by omega), g1 hi]
      exact slots i s d q
    · rw [List.getElem?_append_right (by omega)] at q
      rw [List.getElem?_append_right (by omega), g2 hi]
      obtain ⟨v, q1, q2⟩ := w.slot (i - xs'.length + xs.length) s d (by rw [List.getElem?_append_right (by omega)]; simpa using q)
      rw [List.getElem?_append_right (by omega)] at q1
      refine ⟨v, by rw [← hx']; rw [← hx] at q1; simpa using q1, q2.mono (Same.refl _) fun b m o e => keep b o (out (by omega) m) e⟩
  · by_cases hi : i < xs'.length
    · rw [g1 hi]; exact nd i hi
    · rw [g2 hi]; exact w.nd _
  · by_cases hi : i < xs'.length
    · rw [g1 hi] at m1
      by_cases hj : j < xs'.length
      · rw [g1 hj] at m2; exact dis i j a hi hj m1 m2
      · rw [g2 hj] at m2
        obtain ⟨k, hk, m3⟩ := sub i a hi m1
        exact (out (by omega) m2 k hk m3).elim
    · rw [g2 hi] at m1
      by_cases hj : j < xs'.length
      · rw [g1 hj] at m2
        obtain ⟨k, hk, m3⟩ := sub j a hj m2
        exact (out (by omega) m1 k hk m3).elim
      · rw [g2 hj] at m2
        have := w.dis _ _ a m1 m2; omega
  · by_cases hi : i < xs'.length
    · rw [g1 hi] at m
      obtain ⟨k, hk, m3⟩ := sub i a hi m
      obtain ⟨q1, q2, _⟩ := w.out k a m3
      exact ⟨q1, q2, live i a hi m⟩
    · rw [g2 hi] at m
      obtain ⟨q1, q2, o, q3⟩ := w.out _ a m
      exact ⟨q1, q2, o, keep a o (out (by omega) m) q3⟩
  · exact keep b o (fun j _ m => by have := (w.out j b m).1; rw [q] at this; cases this) (w.sub b o q)
  · exact keep b o (fun j _ m => by have := (w.out j b m).2.1; rw [q] at this; cases this) (w.gsub b o q)

theorem OwL.split {R : D → V → List Addr → Prop} : ∀ {ds : List D} {vs : List V} {fp : List Addr} {k : Nat} {d : D}, OwL R ds vs fp → ds[k]? = some d → ∃ v f1 f f2, vs[k]? = some v ∧ R d v f ∧ fp = f1 ++ (f ++ f2) ∧
    (∀ (R' : D → V → List Addr → Prop) d' v' f', R' d' v' f' → (∀ d v g, (∀ a ∈ g, a ∈ f1 ∨ a ∈ f2) → R d v g → R' d v g) → OwL R' (ds.set k d') (vs.set k v') (f1 ++ (f' ++ f2))) ∧ OwL R (ds.eraseIdx k) (vs.eraseIdx k) (f1 ++ f2)
  | [], _, _, _, _, _, e => by simp at e
  | d :: ds, vs, fp, 0, x, h, e => by
    obtain ⟨v, r, f1, f2, rfl, h1, h2, rfl⟩ := h
    simp at e; subst e
    exact ⟨v, [], f1, f2, rfl, h1, rfl, fun R' d' v' f' r' k => ⟨v', r, f', f2, rfl, r', OwL.mono h2 fun d v g m q => k d v g (fun a z => .inr (m a z)) q, rfl⟩, h2⟩
  | d :: ds, vs, fp, k + 1, x, h, e => by
    obtain ⟨v, r, f1, f2, rfl, h1, h2, rfl⟩ := h
    obtain ⟨u, g1, g, g2, e1, e2, e3, e4, e5⟩ := OwL.split (k := k) h2 (by simpa using e)
    subst e3
    exact ⟨u, f1 ++ g1, g, g2, by simpa using e1, e2, by simp, fun R' d' v' f' r' kk => ⟨v, r.set k v', f1, g1 ++ (f' ++ g2), rfl, kk _ _ _ (fun a z => .inl (List.mem_append_left _ z)) h1, e4 R' d' v' f' r' fun d v g m q => kk d v g (fun a z => (m a z).imp (List.mem_append_right _) id) q, by simp⟩, ⟨v, r.eraseIdx k, f1, g1 ++ g2, rfl, h1, e5, by simp⟩⟩
theorem nodup3 {α : Type} {a : α} {f1 f f2 : List α} (h : (a :: (f1 ++ (f ++ f2))).Nodup) : a ∉ f1 ∧ a ∉ f ∧ a ∉ f2 ∧ f1.Nodup ∧ f.Nodup ∧ f2.Nodup ∧ (∀ x ∈ f1, x ∉ f) ∧ (∀ x ∈ f1, x ∉ f2) ∧ (∀ x ∈ f, x ∉ f2) := by
  obtain ⟨h1, h2⟩ := List.nodup_cons.mp h
  obtain ⟨h3, h4, h5⟩ := List.nodup_append.mp h2
  obtain ⟨h6, h7, h8⟩ := List.nodup_append.mp h4
  exact ⟨fun m => h1 (List.mem_append_left _ m), fun m => h1 (List.mem_append_right _ (List.mem_append_left _ m)), fun m => h1 (List.mem_append_right _ (List.mem_append_right _ m)), h3, h6, h7,
    fun x m1 m2 => h5 x m1 x (List.mem_append_left _ m2) rfl, fun x m1 m2 => h5 x m1 x (List.mem_append_right _ m2) rfl, fun x m1 m2 => h8 x m1 x m2 rfl⟩
theorem OwL.upd {s : Sh} {ds : List D} {vs : List V} {fp : List Addr} {a : Addr} {o : HO} (h : OwL (Ow K H F s) ds vs fp) (ha : a ∉ fp) : OwL (Ow K (upd H a o) F s) ds vs fp :=
  OwL.mono h fun d v f m r => r.mono (Same.refl _) fun b z o e => by rw [upd_ne (fun y => ha (by rw [← y]; exact m b z))]; exact e
theorem Ow.upd {s : Sh} {d : D} {v : V} {fp : List Addr} {a : Addr} {o : HO} (h : Ow K H F s d v fp) (ha : a ∉ fp) : Ow K (upd H a o) F s d v fp :=
  h.mono (Same.refl _) fun b z o e => by rw [upd_ne (fun y => ha (by rw [← y]; exact z))]; exact e
theorem Rel.lst {s : Sh} {ds : List D} {va : V} (h : Rel K G (some (.seq s, .lst ds) :: ρ) (some va :: σ) H F) : ∃ a vs, va = .ref a ∧ H a = some (.lst vs) ∧ vs.length = ds.length := by
  obtain ⟨fp, a, vs, fp', rfl, ha, ho, hf⟩ := h.get0
  exact ⟨a, vs, rfl, ha, (OwL.length ho).symm⟩
/-- an owned list ahead: its k-th item becomes what stands next -/
theorem Rel.setAt {s : Sh} {ds : List D} {d : D} {va v : V} {k : Nat} (h : Rel K G (some (.seq s, .lst ds) :: some (s, d) :: ρ) (some va :: some v :: σ) H F) (hk : k < ds.length) :
    ∃ a vs, va = .ref a ∧ H a = some (.lst vs) ∧ vs.length = ds.length ∧ Rel K G (some (.seq s, .lst (ds.set k d)) :: ρ) (some va :: σ) (upd H a (.lst (vs.set k v))) F := by
  obtain ⟨fps, w⟩ := h
  obtain ⟨u, q1, q2⟩ := w.slot 0 _ _ rfl
  simp at q1; subst q1
  obtain ⟨a, vs, fp', rfl, ha, ho, hf⟩ := q2
  obtain ⟨u, q3, q4⟩ := w.slot 1 _ _ rfl
  simp at q3; subst q3
  have hd : ds[k]? = some ds[k] := by simp [hk]
  obtain ⟨v0, f1, f, f2, e1, e2, rfl, e4, _⟩ := ho.split hd
  have n0 := w.nd 0
  rw [hf] at n0
  obtain ⟨a1, a2, a3, n1, n2, n3, d1, d2, d3⟩ := nodup3 n0
  have a0 : a ∈ fps 0 := by rw [hf]; exact List.mem_cons_self
  have i0 : ∀ x, x ∈ f1 ∨ x ∈ f ∨ x ∈ f2 → x ∈ fps 0 := fun x m => by rw [hf]; simp; exact .inr m
  have x1 : ∀ x, x ∈ fps 1 → x ∉ fps 0 := fun x m m2 => by have := w.dis _ _ x m m2; cases this
  have na : a ∉ f1 ++ (fps 1 ++ f2) := fun m => by
    rcases List.mem_append.mp m with m | m
    · exact a1 m
    · rcases List.mem_append.mp m with m | m
      · exact x1 a m a0
      · exact a3 m
  refine ⟨a, vs, rfl, ha, (OwL.length ho).symm, w.front (xs := [_, _]) (ys := [_, _]) (xs' := [some (.seq s, .lst (ds.set k d))]) (ys' := [some (.ref a)]) rfl rfl (fun _ => a :: (f1 ++ (fps 1 ++ f2))) (fun i s' d' q => ?_) (fun i hi => ?_) (fun i j b hi hj _ _ => by simp at hi hj; omega) (fun i b hi m => ?_) (fun b o hb e => ?_) (fun i b hi m => ?_)⟩
  · cases i with
    | zero =>
      simp at q; obtain ⟨rfl, rfl⟩ := q
      exact ⟨_, rfl, a, _, _, rfl, upd_same, (e4 _ d v (fps 1) q4 fun _ _ _ _ r => r).upd na, rfl⟩
    | succ i => simp at q
  · refine List.nodup_cons.mpr ⟨na, List.nodup_append.mpr ⟨n1, List.nodup_append.mpr ⟨w.nd 1, n3, fun x m1 y m2 e => ?_⟩, fun x m1 y m2 e => ?_⟩⟩
    · subst e; exact x1 x m1 (i0 x (.inr (.inr m2)))
    · subst e
      rcases List.mem_append.mp m2 with m2 | m2
      · exact x1 x m2 (i0 x (.inl m1))
      · exact d2 x m1 m2
  · rcases List.mem_cons.mp m with rfl | m
    · exact ⟨0, by simp, a0⟩
    · rcases List.mem_append.mp m with m | m
      · exact ⟨0, by simp, i0 b (.inl m)⟩
      · rcases List.mem_append.mp m with m | m
        · exact ⟨1, by simp, m⟩
        · exact ⟨0, by simp, i0 b (.inr (.inr m))⟩
  · rw [upd_ne]
    · exact e
    · rintro rfl; exact hb 0 (by simp) a0
  · by_cases hb : b = a
    · subst hb; exact ⟨_, upd_same⟩
    · rw [upd_ne hb]
      rcases List.mem_cons.mp m with z | m
      · exact (hb z).elim
      · rcases List.mem_append.mp m with m | m
        · exact (w.out 0 b (i0 b (.inl m))).2.2
        · rcases List.mem_append.mp m with m | m
          · exact (w.out 1 b m).2.2
          · exact (w.out 0 b (i0 b (.inr (.inr m)))).2.2
/-- an owned list ahead: its k-th item is taken out -/
theorem Rel.popAt {s : Sh} {ds : List D} {d : D} {va : V} {k : Nat} (h : Rel K G (some (.seq s, .lst ds) :: ρ) (some va :: σ) H F) (hk : ds[k]? = some d) :
    ∃ a vs v, va = .ref a ∧ H a = some (.lst vs) ∧ vs.length = ds.length ∧ vs[k]? = some v ∧ Rel K G (some (.seq s, .lst (ds.eraseIdx k)) :: some (s, d) :: ρ) (some va :: some v :: σ) (upd H a (.lst (vs.eraseIdx k))) F := by
  obtain ⟨fps, w⟩ := h
  obtain ⟨u, q1, q2⟩ := w.slot 0 _ _ rfl
  simp at q1; subst q1
  obtain ⟨a, vs, fp', rfl, ha, ho, hf⟩ := q2
  obtain ⟨v0, f1, f, f2, e1, e2, rfl, _, e5⟩ := ho.split hk
  have n0 := w.nd 0
  rw [hf] at n0
  obtain ⟨a1, a2, a3, n1, n2, n3, d1, d2, d3⟩ := nodup3 n0
  have a0 : a ∈ fps 0 := by rw [hf]; exact List.mem_cons_self
  have i0 : ∀ x, x ∈ f1 ∨ x ∈ f ∨ x ∈ f2 → x ∈ fps 0 := fun x m => by rw [hf]; simp; exact .inr m
  have na : a ∉ f1 ++ f2 := fun m => (List.mem_append.mp m).elim a1 a3
  refine ⟨a, vs, v0, rfl, ha, (OwL.length ho).symm, e1, w.front (xs := [_]) (ys := [_]) (xs' := [some (.seq s, .lst (ds.eraseIdx k)), some (s, d)]) (ys' := [some (.ref a), some v0]) rfl rfl (fun i => if i = 0 then a :: (f1 ++ f2) else f) (fun i s' d' q => ?_) (fun i hi => ?_) (fun i j b hi hj m1 m2 => ?_) (fun i b hi m => ⟨0, by simp, ?_⟩) (fun b o hb e => ?_) (fun i b hi m => ?_)⟩
  · cases i with
    | zero =>
      simp at q; obtain ⟨rfl, rfl⟩ := q
      exact ⟨_, rfl, a, _, _, rfl, upd_same, e5.upd na, rfl⟩
    | succ i =>
      cases i with
      | zero =>
        simp at q; obtain ⟨rfl, rfl⟩ := q
        exact ⟨_, rfl, e2.upd a2⟩
      | succ i => simp at q
  · show (if i = 0 then a :: (f1 ++ f2) else f).Nodup
    split
    · exact List.nodup_cons.mpr ⟨na, List.nodup_append.mpr ⟨n1, n3, fun x m1 y m2 e => by subst e; exact d2 x m1 m2⟩⟩
    · exact n2
  · have m1 : b ∈ (if i = 0 then a :: (f1 ++ f2) else f) := m1
    have m2 : b ∈ (if j = 0 then a :: (f1 ++ f2) else f) := m2
    have x : b ∈ a :: (f1 ++ f2) → b ∈ f → False := fun y1 y2 => by
      rcases List.mem_cons.mp y1 with rfl | y1
      · exact a2 y2
      · rcases List.mem_append.mp y1 with y1 | y1
        · exact d1 b y1 y2
        · exact d3 b y2 y1
    simp at hi hj
    split at m1 <;> split at m2
    · omega
    · exact (x m1 m2).elim
    · exact (x m2 m1).elim
    · omega
  · have m : b ∈ (if i = 0 then a :: (f1 ++ f2) else f) := m
    split at m
    · rcases List.mem_cons.mp m with rfl | m
      · exact a0
      · rcases List.mem_append.mp m with m | m
        · exact i0 b (.inl m)
        · exact i0 b (.inr (.inr m))
    · exact i0 b (.inr (.inl m))
  · rw [upd_ne]
    · exact e
    · rintro rfl; exact hb 0 (by simp) a0
  · by_cases hb : b = a
    · subst hb; exact ⟨_, upd_same⟩
    · rw [upd_ne hb]
      have m : b ∈ (if i = 0 then a :: (f1 ++ f2) else f) := m
      split at m
      · rcases List.mem_cons.mp m with z | m
        · exact (hb z).elim
        · rcases List.mem_append.mp m with m | m
          · exact (w.out 0 b (i0 b (.inl m))).2.2
          · exact (w.out 0 b (i0 b (.inr (.inr m)))).2.2
      · exact (w.out 0 b (i0 b (.inr (.inl m)))).2.2
/-- one step into an owned list ahead -/
theorem Rel.zoom1 {s : Sh} {ds : List D} {d : D} {va : V} {k : Nat} (h : Rel K G (some (.seq s, .lst ds) :: ρ) (some va :: σ) H F) (hk : ds[k]? = some d) :
    ∃ a vs v G', va = .ref a ∧ H a = some (.lst vs) ∧ vs.length = ds.length ∧ vs[k]? = some v ∧ Rel K G' (some (s, d) :: ρ) (some v :: σ) H F ∧
      ∀ d' ρ' σ' H' F', Same F F' → Rel K G' (some (s, d') :: ρ') (some v :: σ') H' F' → Rel K G (some (.seq s, .lst (ds.set k d')) :: ρ') (some va :: σ') H' F' := by
  obtain ⟨fps, w⟩ := h
  obtain ⟨u, q1, q2⟩ := w.slot 0 _ _ rfl
  simp at q1; subst q1
  obtain ⟨a, vs, fp', rfl, ha, ho, hf⟩ := q2
  obtain ⟨v0, f1, f, f2, e1, e2, rfl, e4, _⟩ := ho.split hk
  have n0 := w.nd 0
  rw [hf] at n0
  obtain ⟨a1, a2, a3, n1, n2, n3, d1, d2, d3⟩ := nodup3 n0
  have a0 : a ∈ fps 0 := by rw [hf]; exact List.mem_cons_self
  have i0 : ∀ x, x ∈ f1 ∨ x ∈ f ∨ x ∈ f2 → x ∈ fps 0 := fun x m => by rw [hf]; simp; exact .inr m
  let rest : List Addr := a :: (f1 ++ f2)
  have r0 : ∀ x, x ∈ rest → x ∈ fps 0 := fun x m => by
    rcases List.mem_cons.mp m with rfl | m
    · exact a0
    · rcases List.mem_append.mp m with m | m
      · exact i0 x (.inl m)
      · exact i0 x (.inr (.inr m))
  have rf : ∀ x, x ∈ f → x ∉ rest := fun x m m2 => by
    rcases List.mem_cons.mp m2 with rfl | m2
    · exact a2 m
    · rcases List.mem_append.mp m2 with m2 | m2
      · exact d1 x m2 m
      · exact d3 x m m2
  let G' : Hp := fun b => if b ∈ rest then H b else G b
  have gin : ∀ {b}, b ∈ rest → G' b = H b := fun {b} m => if_pos m
  have gout : ∀ {b}, b ∉ rest → G' b = G b := fun {b} m => if_neg m
  have hG : Same G G' := fun b o q => by
    by_cases m : b ∈ rest
    · rw [gin m]; exact w.gsub b o q
    · rw [gout m]; exact q
  refine ⟨a, vs, v0, G', rfl, ha, (OwL.length ho).symm, e1, ⟨fun i => if i = 0 then f else fps i, fun i s' d' q => ?_, fun i => ?_, fun i j b m1 m2 => ?_, fun i b m => ?_, by have := w.len; simpa using this, w.sub, fun b o q => ?_, fun b o q => ?_⟩, ?_⟩
  · cases i with
    | zero => simp at q; obtain ⟨rfl, rfl⟩ := q; exact ⟨v0, rfl, e2⟩
    | succ i =>
      obtain ⟨u, q5, q6⟩ := w.slot (i + 1) s' d' (by simpa using q)
      exact ⟨u, by simpa using q5, q6⟩
  · show (if i = 0 then f else fps i).Nodup
    split
    · exact n2
    · exact w.nd i
  · have m1 : b ∈ (if i = 0 then f else fps i) := m1
    have m2 : b ∈ (if j = 0 then f else fps j) := m2
    split at m1 <;> split at m2
    · omega
    · have := w.dis _ _ b (i0 b (.inr (.inl m1))) m2; omega
    · have := w.dis _ _ b (i0 b (.inr (.inl m2))) m1; omega
    · exact w.dis _ _ b m1 m2
  · have m : b ∈ (if i = 0 then f else fps i) := m
    split at m
    · obtain ⟨q1, q2, q3⟩ := w.out 0 b (i0 b (.inr (.inl m)))
      exact ⟨q1, by rw [gout (rf b m)]; exact q2, q3⟩
    · rename_i hi
      obtain ⟨q1, q2, q3⟩ := w.out i b m
      refine ⟨q1, ?_, q3⟩
      rw [gout (fun z => hi (w.dis _ _ b m (r0 b z)))]; exact q2
  · by_cases m : b ∈ rest
    · rw [gin m] at q; exact q
    · rw [gout m] at q; exact w.gsub b o q
  · by_cases m : b ∈ rest
    · have := (w.out 0 b (r0 b m)).1; rw [q] at this; cases this
    · rw [gout m]; exact w.fg b o q
  · rintro d' ρ' σ' H' F' fe ⟨gps, w'⟩
    obtain ⟨u, p1, p2⟩ := w'.slot 0 _ _ rfl
    simp at p1; subst p1
    have kp : ∀ b ∈ rest, ∀ o, H b = some o → H' b = some o := fun b m o q => w'.gsub b o (by rw [gin m]; exact q)
    have gl : ∀ b ∈ rest, ∃ o, G' b = some o := fun b m => by
      obtain ⟨o, q⟩ := (w.out 0 b (r0 b m)).2.2
      exact ⟨o, by rw [gin m]; exact q⟩
    have ng : ∀ i b, b ∈ gps i → b ∉ rest := fun i b m m2 => by
      obtain ⟨o, q⟩ := gl b m2
      have := (w'.out i b m).2.1; rw [q] at this; cases this
    have own' : OwL (Ow K H' F' s) (ds.set k d') (vs.set k v0) (f1 ++ (gps 0 ++ f2)) := by
      refine e4 _ d' v0 (gps 0) p2 fun d v g m q => q.mono fe fun b z o e => kp b ?_ o e
      rcases m b z with z | z
      · exact List.mem_cons_of_mem _ (List.mem_append_left _ z)
      · exact List.mem_cons_of_mem _ (List.mem_append_right _ z)
    have esv : vs.set k v0 = vs := by
      obtain ⟨hi, he⟩ := List.getElem?_eq_some_iff.mp e1
      rw [← he]; exact List.set_getElem_self hi
    rw [esv] at own'
    have n0' : (a :: (f1 ++ (gps 0 ++ f2))).Nodup := by
      have y0 : ∀ x, x ∈ gps 0 → x ∉ rest := fun x m => ng 0 x m
      refine List.nodup_cons.mpr ⟨fun m => ?_, List.nodup_append.mpr ⟨n1, List.nodup_append.mpr ⟨w'.nd 0, n3, fun x m1 y m2 e => ?_⟩, fun x m1 y m2 e => ?_⟩⟩
      · rcases List.mem_append.mp m with m | m
        · exact a1 m
        · rcases List.mem_append.mp m with m | m
          · exact y0 a m List.mem_cons_self
          · exact a3 m
      · subst e; exact y0 x m1 (List.mem_cons_of_mem _ (List.mem_append_right _ m2))
      · subst e
        rcases List.mem_append.mp m2 with m2 | m2
        · exact y0 x m2 (List.mem_cons_of_mem _ (List.mem_append_left _ m1))
        · exact d2 x m1 m2
    have in0 : ∀ x, x ∈ a :: (f1 ++ (gps 0 ++ f2)) → x ∈ rest ∨ x ∈ gps 0 := fun x m => by
      rcases List.mem_cons.mp m with rfl | m
      · exact .inl List.mem_cons_self
      · rcases List.mem_append.mp m with m | m
        · exact .inl (List.mem_cons_of_mem _ (List.mem_append_left _ m))
        · rcases List.mem_append.mp m with m | m
          · exact .inr m
          · exact .inl (List.mem_cons_of_mem _ (List.mem_append_right _ m))
    refine ⟨shiftF (a :: (f1 ++ (gps 0 ++ f2))) (fun i => gps (i + 1)), fun i s' e' q => ?_, fun i => ?_, fun i j b m1 m2 => ?_, fun i b m => ?_, by have := w'.len; simpa using this, w'.sub, fun b o q => w'.gsub b o (hG b o q), fun b o q => Same.free hG (w'.fg b o q)⟩
    · cases i with
      | zero =>
        simp at q; obtain ⟨rfl, rfl⟩ := q
        exact ⟨_, rfl, a, vs, _, rfl, kp a List.mem_cons_self _ ha, own', rfl⟩
      | succ i => exact w'.slot (i + 1) s' e' (by simpa using q)
    · cases i with
      | zero => exact n0'
      | succ i => exact w'.nd _
    · cases i with
      | zero =>
        cases j with
        | zero => rfl
        | succ j =>
          rcases in0 b m1 with z | z
          · exact (ng _ b m2 z).elim
          · have := w'.dis _ _ b z m2; omega
      | succ i =>
        cases j with
        | zero =>
          rcases in0 b m2 with z | z
          · exact (ng _ b m1 z).elim
          · have := w'.dis _ _ b z m1; omega
        | succ j => have := w'.dis _ _ b m1 m2; omega
    · have go : ∀ j, b ∈ gps j → F' b = none ∧ G b = none ∧ ∃ o, H' b = some o := fun j m => by
        obtain ⟨q1, q2, q3⟩ := w'.out j b m
        exact ⟨q1, Same.free hG q2, q3⟩
      cases i with
      | zero =>
        rcases in0 b m with z | z
        · obtain ⟨q1, q2, o, q3⟩ := w.out 0 b (r0 b z)
          obtain ⟨o', q4⟩ := gl b z
          refine ⟨?_, q2, o, kp b z o q3⟩
          cases q5 : F' b with
          | none => rfl
          | some u => have := w'.fg b u q5; rw [q4] at this; cases this
        · exact go 0 z
      | succ i => exact go _ m
end
end VL

set_option Elab.async false
set_option linter.all false
set_option maxRecDepth 100000
/-! VLe: places within owned objects; statements, loops, the defs. -/
noncomputable section
namespace VL
open PySem L2

/-! ### places -/
/-- what stands at a place of an owned thing: shape and data -/
def navS : Sh → D → List Nat → Option (Sh × D)
  | s, d, [] => some (s, d)
  | .seq s, .lst ds, k :: ps => match ds[k]? with
    | some d => navS s d ps
    | none => none
  | _, _, _ :: _ => none
def putS : D → List Nat → D → D
  | _, [], d' => d'
  | .lst ds, k :: ps, d' => match ds[k]? with
    | some d => .lst (ds.set k (putS d ps d'))
    | none => .lst ds
  | d, _ :: _, _ => d
/-- the same in the heap -/
def At (H : Hp) : List Nat → V → V → Prop
  | [], v, u => u = v
  | k :: ps, v, u => ∃ a vs w, v = .ref a ∧ H a = some (.lst vs) ∧ vs[k]? = some w ∧ At H ps w u
section
variable {K : PySem.W.Frag} {G H H' F F' : Hp} {ρ : Sto} {σ : St}
theorem At.mono (e : Same H H') : ∀ {ps : List Nat} {v u : V}, At H ps v u → At H' ps v u
  | [], _, _, h => h
  | k :: ps, v, u, h => by
    obtain ⟨a, vs, w, e1, e2, e3, h⟩ := h
    exact ⟨a, vs, w, e1, e _ _ e2, e3, At.mono e h⟩
theorem At.inj : ∀ {ps : List Nat} {v u u' : V}, At H ps v u → At H ps v u' → u = u'
  | [], _, _, _, h, h' => Eq.trans h (Eq.symm h')
  | k :: ps, v, u, u', h, h' => by
    obtain ⟨a, vs, w, e1, e2, e3, h⟩ := h
    obtain ⟨a', vs', w', e1', e2', e3', h'⟩ := h'
    rw [e1] at e1'; cases e1'
    rw [e2] at e2'; cases e2'
    rw [e3] at e3'; cases e3'
    exact At.inj h h'
theorem At.snoc {k : Nat} {a : Addr} {vs : List V} {w : V} (e2 : H a = some (.lst vs)) (e3 : vs[k]? = some w) : ∀ {ps : List Nat} {v : V}, At H ps v (.ref a) → At H (ps ++ [k]) v w
  | [], v, h => ⟨a, vs, w, Eq.symm h, e2, e3, rfl⟩
  | j :: ps, v, h => by
    obtain ⟨b, us, z, e1, e4, e5, h⟩ := h
    exact ⟨b, us, z, e1, e4, e5, At.snoc e2 e3 h⟩
theorem Rel.zoom : ∀ {ps : List Nat} {sh : Sh} {d0 : D} {s1 : Sh} {d1 : D} {v0 : V} {G : Hp}, Rel K G (some (sh, d0) :: ρ) (some v0 :: σ) H F → navS sh d0 ps = some (s1, d1) →
    ∃ v1 G', At H ps v0 v1 ∧ Rel K G' (some (s1, d1) :: ρ) (some v1 :: σ) H F ∧
      ∀ d' ρ' σ' H' F', Same F F' → Rel K G' (some (s1, d') :: ρ') (some v1 :: σ') H' F' → Rel K G (some (sh, putS d0 ps d') :: ρ') (some v0 :: σ') H' F'
  | [], sh, d0, s1, d1, v0, G, h, e => by
    simp only [navS, Option.some.injEq, Prod.mk.injEq] at e
    obtain ⟨rfl, rfl⟩ := e
    exact ⟨v0, G, rfl, h, fun d' ρ' σ' H' F' _ q => q⟩
  | k :: ps, sh, d0, s1, d1, v0, G, h, e => by
    cases sh with
    | z => simp [navS] at e
    | obj f => simp [navS] at e
    | seq s =>
      cases d0 with
      | lst ds =>
        simp only [navS] at e
        split at e
        · rename_i d hk
          obtain ⟨a, vs, v, G1, rfl, ha, hl, hv, R1, back⟩ := h.zoom1 hk
          obtain ⟨v1, G2, at1, R2, back2⟩ := Rel.zoom R1 e
          refine ⟨v1, G2, ⟨a, vs, v, rfl, ha, hv, at1⟩, R2, fun d' ρ' σ' H' F' f q => ?_⟩
          have := back _ ρ' σ' H' F' f (back2 d' ρ' σ' H' F' f q)
          simp only [putS, hk]
          exact this
        · cases e
      | _ => simp [navS] at e
end

def tL (K : PySem.W.Frag) (i : Nat) (f : Sto → Option (List Nat)) : TE := fun σ H Q => ∃ G ρ F ps, f ρ = some ps ∧ Rel K G ρ σ H F ∧
  ∀ v H' F', Same F F' → Same H H' → Rel K G ρ σ H' F' → (∃ v0, σ[i]? = some (some v0) ∧ At H' ps v0 v) → Q v H'
abbrev LV (X : Cx) (i : Nat) (e : Expr) (f : Sto → Option (List Nat)) : Prop := PE X e (tL X.K i f)
/-- the node at a place of slot i -/
def nodeAt (i : Nat) (ρ : Sto) (ps : List Nat) : Option (Sh × D) := match ρ[i]? with
  | some (some (sh, d)) => navS sh d ps
  | _ => none
section
variable {X : Cx} {e o a b : Expr} {fi fa : Sto → Option D} {pos : Pos} {i : Nat}
def lVar (i : Nat) : Sto → Option (List Nat) := fun ρ => match ρ[i]? with
  | some (some _) => some []
  | _ => none
theorem lv_var {x : Str} (hN : X.N[i]? = some x) (hv : Vis X.env.scope x) (hd : (x == ("__debug__" : Str)) = false := by decide) (hcd : (x == ("__classdict__" : Str)) = false := by decide) : LV X i (.Name x pos) (lVar i) := by
  refine pe_imp (pe_var hN hv hd hcd) fun σ H Q ⟨G, ρ, F, d, e1, R, k⟩ => ?_
  unfold lVar at e1
  split at e1
  · rename_i sd q; cases e1
    obtain ⟨s, d⟩ := sd
    obtain ⟨v, fp, q1, q2⟩ := R.get q
    exact ⟨v, q1, k v H F (Same.refl _) (Same.refl _) R ⟨v, q1, rfl⟩⟩
  · cases e1
/-- the list node at a place, an index in its bounds -/
def lstIx (i : Nat) (ρ : Sto) (ps : List Nat) (x : D) : Option Nat := match nodeAt i ρ ps, x with
  | some (.seq _, .lst ds), .int k => ixN ds.length k
  | _, _ => none
def lIx (i : Nat) (fo : Sto → Option (List Nat)) (fi : Sto → Option D) : Sto → Option (List Nat) := fun ρ => (fo ρ).bind fun ps => (fi ρ).bind fun x => (lstIx i ρ ps x).map fun j => ps ++ [j]
theorem bind_some' {α β : Type} {f : Option α} {g : α → Option β} {b : β} (h : f.bind g = some b) : ∃ a, f = some a ∧ g a = some b := by
  cases f with
  | none => cases h
  | some a => exact ⟨a, rfl, h⟩
theorem map_some' {α β : Type} {f : Option α} {g : α → β} {b : β} (h : f.map g = some b) : ∃ a, f = some a ∧ g a = b := by
  cases f with
  | none => cases h
  | some a => cases h; exact ⟨a, rfl, rfl⟩
/-- the node in the heap -/
theorem Rel.node {K : PySem.W.Frag} {G H F : Hp} {ρ : Sto} {σ : St} {ps : List Nat} {s : Sh} {ds : List D} {v0 v : V} (R : Rel K G ρ σ H F) (hn : nodeAt i ρ ps = some (.seq s, .lst ds)) (h0 : σ[i]? = some (some v0)) (at1 : At H ps v0 v) :
    ∃ a vs, v = .ref a ∧ H a = some (.lst vs) ∧ vs.length = ds.length := by
  unfold nodeAt at hn
  split at hn
  · rename_i sh d q
    obtain ⟨u, q1, R1⟩ := R.move q
    rw [h0] at q1; cases q1
    obtain ⟨v1, G', at2, R2, _⟩ := R1.zoom hn
    cases at1.inj at2
    exact R2.lst
  · cases hn
theorem lv_ix {fo : Sto → Option (List Nat)} (ho : LV X i o fo) (hi : PV X .z b fi) (hs : PlainIx b) : LV X i (.Subscript o b pos) (lIx i fo fi) := by
  refine pe_imp (pe_ix ix_list ho hi hs) fun σ H Q ⟨G, ρ, F, ps, q, R, k⟩ => ?_
  unfold lIx at q
  obtain ⟨ps0, q1, q⟩ := bind_some' q
  obtain ⟨x, q2, q⟩ := bind_some' q
  obtain ⟨j, q3, rfl⟩ := map_some' q
  refine ⟨G, ρ, F, ps0, q1, R, fun v H1 F1 f1 h1 R1 ⟨v0, z0, at1⟩ => ?_⟩
  refine ⟨G, ρ, F1, x, q2, R1, fun y H2 F2 f2 h2 R2 ⟨fp, r2⟩ => ?_⟩
  unfold lstIx at q3
  split at q3
  · rename_i s ds n hn _hx
    have r3 : y = .int n := by simpa only [Rp] using r2.1
    obtain ⟨a, vs, rfl, ha, hl⟩ := R2.node hn z0 (at1.mono h2)
    rw [← hl] at q3
    have hj := (ixN_seq q3).2.1
    refine ⟨a, vs, n, vs[j], rfl, r3, SqL.of ha, ?_, k _ H2 F2 (f1.trans f2) (h1.trans h2) R2 ⟨v0, z0, (at1.mono h2).snoc ha (by simp [hj])⟩⟩
    unfold atI
    rw [q3]
    simp [hj]
  · cases q3
end

/-! ### targets that take what is new -/
def tGF (K : PySem.W.Frag) (ws : List Nat) (s : Sh) (g : D → Sto → Option Sto) : TG := fun v σ H Q => ∃ G ρ F d ρ', g d ρ = some ρ' ∧ Rel K G (some (s, d) :: ρ) (some v :: σ) H F ∧
  ∀ σ' H' F', Same F F' → Dif ws σ σ' → Rel K G ρ' σ' H' F' → Q σ' H'
abbrev PGF (X : Cx) (ws : List Nat) (s : Sh) (tg : Expr) (g : D → Sto → Option Sto) : Prop := PG X tg (tGF X.K ws s g)
section
variable {X : Cx} {e o a b : Expr} {fi fa : Sto → Option D} {pos : Pos} {i : Nat} {s : Sh} {ws : List Nat}
def gF (i : Nat) (s : Sh) : D → Sto → Option Sto := fun d ρ => some (ρ.set i (some (s, d)))
theorem pgf_name {x : Str} (hN : X.N.Nodup) (hi : X.N[i]? = some x) (hx : Loc X.env.scope x) (hf : X.fn x = true ∨ X.env.scope.names.lookup x = some .local := by first | exact .inl rfl | exact .inr rfl | assumption) : PGF X [i] s (.Name x pos) (gF i s) := by
  refine pg_imp (pg_name hN hi hx hf) fun v σ H Q ⟨G, ρ, F, d, ρ', q, R, k⟩ => ?_
  cases q
  exact k _ H F (Same.refl _) Dif.set R.store
theorem PGV.pgf {g : D → Sto → Option Sto} (h : PGV X ws e g) : PGF X ws .z e g := by
  refine pg_imp h.pg fun v σ H Q ⟨G, ρ, F, d, ρ', q, R, k⟩ => ?_
  obtain ⟨fp, r⟩ := R.get0
  exact ⟨G, ρ, F, d, ρ', q, R.drop, r.1, fun σ' H' F' f1 h1 df R1 => k σ' H' F' f1 df R1⟩
def Sh.eqb (a b : Sh) : Bool := @decide (a = b) (Classical.propDecidable _)
theorem Sh.eq_of {a b : Sh} (h : Sh.eqb a b = true) : a = b := @of_decide_eq_true _ (Classical.propDecidable _) h
theorem Sh.eqb_self (a : Sh) : Sh.eqb a a = true := @decide_eq_true _ (Classical.propDecidable _) rfl
/-- slot i's data at a place becomes d -/
def putAt (i : Nat) (ρ : Sto) (ps : List Nat) (d : D) : Sto := match ρ[i]? with
  | some (some (sh, d0)) => ρ.set i (some (sh, putS d0 ps d))
  | _ => ρ
/-- a node is changed, what is new ahead is used up -/
theorem Rel.atNode {K : PySem.W.Frag} {G H F : Hp} {ρ : Sto} {σ : St} {ps : List Nat} {s1 : Sh} {d1 : D} {x : Slot} {y : Option V} {v0 v1 : V} (R : Rel K G (x :: ρ) (y :: σ) H F) (hn : nodeAt i ρ ps = some (s1, d1)) (h0 : σ[i]? = some (some v0)) (at1 : At H ps v0 v1) :
    ∃ G', Rel K G' (some (s1, d1) :: x :: ρ.set i none) (some v1 :: y :: σ) H F ∧ ∀ d' H' F', Same F F' → Rel K G' (some (s1, d') :: ρ.set i none) (some v1 :: σ) H' F' → Rel K G (putAt i ρ ps d') σ H' F' := by
  unfold nodeAt at hn
  split at hn
  · rename_i sh d q
    obtain ⟨u, q1, R1⟩ := R.move (i := i + 1) (by simpa using q)
    simp only [List.getElem?_cons_succ] at q1
    rw [h0] at q1; cases q1
    obtain ⟨v1', G', at2, R2, back⟩ := R1.zoom hn
    cases at1.inj at2
    refine ⟨G', by simpa using R2, fun d' H' F' f q3 => ?_⟩
    have R3 := (back d' _ _ H' F' f q3).store (i := i)
    rw [List.set_set] at R3
    have e : σ.set i (some v0) = σ := by
      obtain ⟨hi, he⟩ := List.getElem?_eq_some_iff.mp h0
      rw [← he]; exact List.set_getElem_self hi
    rw [e] at R3
    unfold putAt
    rw [q]
    exact R3
  · cases hn
/-- o[b] = .., o a list within slot i -/
def gSet (i : Nat) (s : Sh) (fo : Sto → Option (List Nat)) (fi : Sto → Option D) : D → Sto → Option Sto := fun d ρ => (fo ρ).bind fun ps => (fi ρ).bind fun x => match nodeAt i ρ ps with
  | some (.seq s', .lst ds) => if Sh.eqb s' s then (lstIx i ρ ps x).map fun j => putAt i ρ ps (.lst (ds.set j d)) else none
  | _ => none
theorem pgf_set {fo : Sto → Option (List Nat)} (ho : LV X i o fo) (hi : PV X .z b fi)
    (ha : ∀ v, assign (.Subscript o b pos) X.env v = (do
      let ov ← holding [v] (eval o X.env)
      let iv ← holding [v, ov] (eval b X.env)
      standAt pos
      holding [v, ov, iv] (setItem ov iv v)
      release [v, ov, iv] []) := by intro _; rfl) : PGF X [] s (.Subscript o b pos) (gSet i s fo fi) := by
  refine pg_imp (pg_sub ho hi set_list ha) fun v σ H Q ⟨G, ρ, F, d, ρ', q, R, k⟩ => ?_
  unfold gSet at q
  obtain ⟨ps, q1, q⟩ := bind_some' q
  obtain ⟨x, q2, q⟩ := bind_some' q
  obtain ⟨G1, R1, back⟩ := R.frame
  refine ⟨G1, ρ, F, ps, q1, R1, fun o1 H1 F1 f1 h1 R2 ⟨v0, z0, at1⟩ => ?_⟩
  refine ⟨G1, ρ, F1, x, q2, R2, fun y H2 F2 f2 h2 R3 ⟨fp, r2⟩ => ?_⟩
  have R4 := back ρ σ H2 F2 (f1.trans f2) R3
  split at q
  · rename_i s' ds hn
    split at q
    · rename_i hs
      obtain ⟨j, q3, eρ⟩ := map_some' q
      have hs := Sh.eq_of hs
      subst hs
      subst eρ
      obtain ⟨G2, R5, fin⟩ := R4.atNode hn z0 (at1.mono h2)
      unfold lstIx at q3
      rw [hn] at q3
      cases x <;> simp only at q3 <;> try cases q3
      rename_i n _hx
      have hj := (ixN_seq q3).2.1
      have r3 : y = .int n := by simpa only [Rp] using r2.1
      obtain ⟨a, vs, rfl, ha, hl, R6⟩ := R5.setAt hj
      exact ⟨a, vs, n, j, rfl, r3, ha, by rw [hl]; exact q3, k _ _ F2 (f1.trans f2) (Dif.refl _ _) (fin _ _ F2 (Same.refl _) R6)⟩
    · cases q
  · cases q
end
end VL

set_option Elab.async false
set_option linter.all false
set_option maxRecDepth 100000
/-! VLf: statements by value. -/
noncomputable section
namespace VL
open PySem L2

/-- where a statement ends -/
inductive Fl where
  | nx (ρ : Sto) | rt (d : D) (ρ : Sto) | bk (ρ : Sto) | ct (ρ : Sto)
/-- the slots of what is handed back through parameters stay -/
def Pin (io : List Nat) (σ σ' : St) : Prop := ∀ i ∈ io, σ'[i]? = σ[i]?
theorem Pin.refl (io : List Nat) (σ : St) : Pin io σ σ := fun _ _ => rfl
theorem Pin.trans {io : List Nat} {σ σ1 σ2 : St} (a : Pin io σ σ1) (b : Pin io σ1 σ2) : Pin io σ σ2 := fun i m => (b i m).trans (a i m)
theorem Dif.pin {ws io : List Nat} {σ σ' : St} (h : Dif ws σ σ') (hd : (ws.all fun j => !io.contains j) = true) : Pin io σ σ' := fun i m => h.at' i fun z => by
  have := List.all_eq_true.mp hd i z
  simp at this; exact this m
def FlOk (K : PySem.W.Frag) (G : Hp) (rs : Sh) (io : List Nat) (σ : St) (F : Hp) (Z : Ends) : Fl → Prop
  | .nx ρ' => ∀ σ' H' F', Same F F' → Pin io σ σ' → Rel K G ρ' σ' H' F' → Z.nx σ' H'
  | .rt d ρ' => ∀ v σ' H' F', Same F F' → Pin io σ σ' → Rel K G (some (rs, d) :: ρ') (some v :: σ') H' F' → Z.rt v H'
  | .bk ρ' => ∀ σ' H' F', Same F F' → Pin io σ σ' → Rel K G ρ' σ' H' F' → Z.bk σ' H'
  | .ct ρ' => ∀ σ' H' F', Same F F' → Pin io σ σ' → Rel K G ρ' σ' H' F' → Z.ct σ' H'
theorem FlOk.mono {K : PySem.W.Frag} {G : Hp} {rs : Sh} {io : List Nat} {σ σ1 : St} {F F1 : Hp} {Z : Ends} {fl : Fl} (h : FlOk K G rs io σ F Z fl) (e : Same F F1) (p : Pin io σ σ1) : FlOk K G rs io σ1 F1 Z fl := by
  cases fl with
  | nx ρ' => exact fun σ' H' F' f q R => h σ' H' F' (e.trans f) (p.trans q) R
  | rt d ρ' => exact fun v σ' H' F' f q R => h v σ' H' F' (e.trans f) (p.trans q) R
  | bk ρ' => exact fun σ' H' F' f q R => h σ' H' F' (e.trans f) (p.trans q) R
  | ct ρ' => exact fun σ' H' F' f q R => h σ' H' F' (e.trans f) (p.trans q) R
def tS (K : PySem.W.Frag) (rs : Sh) (io : List Nat) (f : Sto → Option Fl) : TS := fun Z σ H => ∃ G ρ F fl, f ρ = some fl ∧ Rel K G ρ σ H F ∧ FlOk K G rs io σ F Z fl
abbrev SV (X : Cx) (rs : Sh) (io : List Nat) (st : Stmt) (f : Sto → Option Fl) : Prop := PS X st (tS X.K rs io f)
abbrev SSV (X : Cx) (rs : Sh) (io : List Nat) (st : List Stmt) (f : Sto → Option Fl) : Prop := PSs X st (tS X.K rs io f)

section
variable {X : Cx} {rs s : Sh} {io ws : List Nat} {st : Stmt} {sts : List Stmt} {f g : Sto → Option Fl} {pos : Pos} {e tg : Expr}
def sNext : Sto → Option Fl := fun ρ => some (.nx ρ)
def sThen (fl : Option Fl) (g : Sto → Option Fl) : Option Fl := match fl with
  | some (.nx ρ) => g ρ
  | o => o
def sSeq (f g : Sto → Option Fl) : Sto → Option Fl := fun ρ => sThen (f ρ) g
theorem ssv_nil : SSV X rs io [] sNext := pss_imp pss_nil fun Z σ H ⟨G, ρ, F, fl, q, R, k⟩ => by
  cases q
  exact k σ H F (Same.refl _) (Pin.refl _ _) R
theorem ssv_cons (h1 : SV X rs io st f) (h2 : SSV X rs io sts g) : SSV X rs io (st :: sts) (sSeq f g) := by
  refine pss_imp (pss_cons h1 h2) fun Z σ H ⟨G, ρ, F, fl, q, R, k⟩ => ?_
  unfold sSeq at q
  cases q1 : f ρ with
  | none => rw [q1] at q; cases q
  | some fl1 =>
    rw [q1] at q
    refine ⟨G, ρ, F, fl1, q1, R, ?_⟩
    cases fl1 with
    | nx ρ1 => exact fun σ1 H1 F1 f1 p1 R1 => ⟨G, ρ1, F1, fl, q, R1, k.mono f1 p1⟩
    | rt d ρ1 => cases q; exact k
    | bk ρ1 => cases q; exact k
    | ct ρ1 => cases q; exact k
theorem ssv_one (h1 : SV X rs io st f) : SSV X rs io [st] f := pss_one h1
/-- not come to -/
def sNever : Sto → Option Fl := fun _ => none
theorem sv_never : SV X rs io st sNever := ps_imp ps_never fun Z σ H ⟨G, ρ, F, fl, q, R, k⟩ => by cases q
theorem ssv_never : SSV X rs io sts sNever := pss_imp pss_never fun Z σ H ⟨G, ρ, F, fl, q, R, k⟩ => by cases q
theorem sv_pass : SV X rs io (.Pass pos) sNext := ps_imp ps_pass fun Z σ H ⟨G, ρ, F, fl, q, R, k⟩ => by
  cases q
  exact k σ H F (Same.refl _) (Pin.refl _ _) R
def sBreak : Sto → Option Fl := fun ρ => some (.bk ρ)
def sCont : Sto → Option Fl := fun ρ => some (.ct ρ)
theorem sv_break : SV X rs io (.Break pos) sBreak := ps_imp ps_break fun Z σ H ⟨G, ρ, F, fl, q, R, k⟩ => by
  cases q
  exact k σ H F (Same.refl _) (Pin.refl _ _) R
theorem sv_cont : SV X rs io (.Continue pos) sCont := ps_imp ps_continue fun Z σ H ⟨G, ρ, F, fl, q, R, k⟩ => by
  cases q
  exact k σ H F (Same.refl _) (Pin.refl _ _) R
/-- a slot is frozen, ahead of a statement (nothing runs) -/
def sFrz (i : Nat) (f : Sto → Option Fl) : Sto → Option Fl := fun ρ => match ρ[i]? with
  | some (some (_, d)) => f (ρ.set i (some (.z, d)))
  | _ => none
theorem sv_frz {i : Nat} (h : SV X rs io st f) (hi : io.contains i = false := by rfl) : SV X rs io st (sFrz i f) := by
  refine ps_imp h fun Z σ H ⟨G, ρ, F, fl, q, R, k⟩ => ?_
  unfold sFrz at q
  split at q
  · rename_i s d q1
    obtain ⟨v, F', _, s1, R2, _⟩ := R.frzAt q1
    exact ⟨G, _, F', fl, q, R2, k.mono s1 (Pin.refl _ _)⟩
  · cases q

/-! ### assignments -/
def sAsg (f : Sto → Option (D × Sto)) (g : D → Sto → Option Sto) : Sto → Option Fl := fun ρ => (f ρ).bind fun x => (g x.1 x.2).map .nx
theorem sv_asg {fe : Sto → Option (D × Sto)} {g : D → Sto → Option Sto} (he : EF X s e fe) (hg : PGF X ws s tg g) (hw : (ws.all fun j => !io.contains j) = true) (hs : swapsWithSole [tg] e pos.line X.env = pure false := by rfl) (hsw : swappedStores [tg] e X.env = pure none := by rfl)
    (h1 : (assignEach [tg] X.env).map (·.2) = [assign tg X.env] := by rfl) : SV X rs io (.Assign [tg] e pos) (sAsg fe g) := by
  refine ps_imp (ps_asg he hg hs hsw h1) fun Z σ H ⟨G, ρ, F, fl, q, R, k⟩ => ?_
  unfold sAsg at q
  obtain ⟨⟨d, ρ1⟩, q1, q⟩ := bind_some' q
  obtain ⟨ρ2, q2, rfl⟩ := map_some' q
  exact ⟨G, ρ, F, d, ρ1, q1, R, fun v H1 F1 f1 R1 => ⟨G, ρ1, F1, d, ρ2, q2, R1, fun σ2 H2 F2 f2 d2 R2 => k σ2 H2 F2 (f1.trans f2) (d2.pin hw) R2⟩⟩
def sSet (i : Nat) (s : Sh) (f : Sto → Option (D × Sto)) : Sto → Option Fl := fun ρ => (f ρ).map fun x => .nx (x.2.set i (some (s, x.1)))
theorem sv_set {i : Nat} {x : Str} {fe : Sto → Option (D × Sto)} {pos' : Pos} (hN : X.N.Nodup) (hi : X.N[i]? = some x) (hx : Loc X.env.scope x) (he : EF X s e fe) (hw : io.contains i = false) (hs : swapsWith e (some (.Name x pos')) pos.line X.env = pure false := by rfl)
    (hf : X.fn x = true ∨ X.env.scope.names.lookup x = some .local := by first | exact .inl rfl | exact .inr rfl | assumption) : SV X rs io (.Assign [.Name x pos'] e pos) (sSet i s fe) := by
  refine ps_imp (ps_set hN hi hx he hs hf) fun Z σ H ⟨G, ρ, F, fl, q, R, k⟩ => ?_
  unfold sSet at q
  obtain ⟨⟨d, ρ1⟩, q1, rfl⟩ := map_some' q
  exact ⟨G, ρ, F, d, ρ1, q1, R, fun v H1 F1 f1 R1 => k _ H1 F1 f1 ((Dif.set (i := i)).pin (by simp at hw ⊢; exact hw)) R1.store⟩
/-- a, b = x, y with plain local names -/
def sPar (i j : Nat) (f : Sto → Option (List D × Sto)) : Sto → Option Fl := fun ρ => (f ρ).bind fun x => match x.1 with
  | [d, e] => some (.nx ((x.2.set i (some (.z, d))).set j (some (.z, e))))
  | _ => none
theorem sv_par {i j : Nat} {x y : Str} {a b : Expr} {fe : Sto → Option (List D × Sto)} {px py pt : Pos} {kt k2 pt2} (hc : X.calm = true) (hN : X.N.Nodup) (hi : X.N[i]? = some x) (hj : X.N[j]? = some y) (hij : i ≠ j)
    (hx : X.env.scope.names.lookup x = some .local) (hy : X.env.scope.names.lookup y = some .local) (ha : EAV X [a, b] fe) (hwi : io.contains i = false) (hwj : io.contains j = false)
    (hw : swappedStores [.Tuple [.Name x px, .Name y py] kt pt] (.Tuple [a, b] k2 pt2) X.env = pure (some [x, y]))
    (hs : swapsWithSole [.Tuple [.Name x px, .Name y py] kt pt] (.Tuple [a, b] k2 pt2) pos.line X.env = pure false := by rfl) :
    SV X rs io (.Assign [.Tuple [.Name x px, .Name y py] kt pt] (.Tuple [a, b] k2 pt2) pos) (sPar i j fe) := by
  refine ps_imp (ps_par hc hN hi hj hij hx hy ha hw hs) fun Z σ H ⟨G, ρ, F, fl, q, R, k⟩ => ?_
  unfold sPar at q
  obtain ⟨⟨ds, ρ1⟩, q1, q⟩ := bind_some' q
  split at q
  · rename_i d e hd
    cases q
    have hd : ds = [d, e] := hd
    subst hd
    refine ⟨G, ρ, F, _, ρ1, q1, R, fun vs H1 F1 f1 R1 r1 => ?_⟩
    obtain ⟨v, r, rfl, r2, r3⟩ := RpL.cons_inv r1
    obtain ⟨w, r', rfl, r4, r5⟩ := RpL.cons_inv r3
    have r5 := RpL.nil_inv r5
    subst r5
    exact ⟨v, w, rfl, k _ H1 F1 f1 (((Dif.set (i := i)).pin (by simp at hwi ⊢; exact hwi)).trans ((Dif.set (i := j)).pin (by simp at hwj ⊢; exact hwj))) ((R1.storez r2).storez r4)⟩
  · cases q
/-- name op= e -/
def OpI (K : PySem.W.Frag) (r : R2) (g : D → D → Option D) : Prop := OpD K .z .z r g
def sAug (i : Nat) (fe : Sto → Option (D × Sto)) (g : D → D → Option D) : Sto → Option Fl := fun ρ => match ρ[i]? with
  | some (some (.z, d)) => (fe ρ).bind fun x => (g d x.1).map fun z => .nx (x.2.set i (some (.z, z)))
  | _ => none
theorem sv_aug {i : Nat} {x : Str} {op : Operator} {r : R2} {g : D → D → Option D} {fe : Sto → Option (D × Sto)} {pos' : Pos} (hN : X.N.Nodup) (hi : X.N[i]? = some x) (hx : Loc X.env.scope x) (he : EV X e fe) (ho : OpR X (inplaceOp op) r) (hg : OpD X.K .z .z r g) (hw : io.contains i = false)
    (hf : X.fn x = true ∨ X.env.scope.names.lookup x = some .local := by first | exact .inl rfl | exact .inr rfl | assumption) : SV X rs io (.AugAssign (.Name x pos') op e pos) (sAug i fe g) := by
  refine ps_imp (ps_aug hN hi hx he (ti := r) (fun pins s σ H x y v u Q I r1 r2 h => ho pins s σ H x y v u Q I r1 r2 h) hf) fun Z σ H ⟨G, ρ, F, fl, q, R, k⟩ => ?_
  unfold sAug at q
  split at q
  · rename_i d q1
    obtain ⟨⟨y, ρ1⟩, q2, q⟩ := bind_some' q
    obtain ⟨z, q3, rfl⟩ := map_some' q
    obtain ⟨v, q4, q5⟩ := R.getz q1
    refine ⟨v, q4, G, ρ, F, y, ρ1, q2, R, fun u H1 F1 f1 R1 r1 => ?_⟩
    exact hg d y z q3 G ρ1 σ H1 F1 v u _ R1 ⟨[], Rp.mono f1 _ _ q5, rfl⟩ ⟨[], r1, rfl⟩ fun w H2 F2 f2 h2 R2 r2 => k _ H2 F2 (f1.trans f2) ((Dif.set (i := i)).pin (by simp at hw ⊢; exact hw)) (R2.storez r2)
  · cases q

/-! ### ends -/
def sRet (fe : Sto → Option (D × Sto)) : Sto → Option Fl := fun ρ => (fe ρ).map fun x => .rt x.1 x.2
theorem sv_ret {fe : Sto → Option (D × Sto)} (he : EF X rs e fe) : SV X rs io (.Return (some e) pos) (sRet fe) := by
  refine ps_imp (ps_ret he) fun Z σ H ⟨G, ρ, F, fl, q, R, k⟩ => ?_
  unfold sRet at q
  obtain ⟨⟨d, ρ1⟩, q1, rfl⟩ := map_some' q
  exact ⟨G, ρ, F, d, ρ1, q1, R, fun v H1 F1 f1 R1 => k v σ H1 F1 f1 (Pin.refl _ _) R1⟩
def sRetN : Sto → Option Fl := fun ρ => some (.rt .non ρ)
theorem sv_retN : SV X .z io (.Return none pos) sRetN := by
  refine ps_imp ps_retN fun Z σ H ⟨G, ρ, F, fl, q, R, k⟩ => ?_
  cases q
  exact k _ σ H F (Same.refl _) (Pin.refl _ _) (R.addz (by simp only [Rp]))
def sDrop (fe : Sto → Option (D × Sto)) : Sto → Option Fl := fun ρ => (fe ρ).map fun x => .nx x.2
theorem sv_expr {fe : Sto → Option (D × Sto)} (he : EV X e fe) (hs : swapsWith e none pos.line X.env = pure false := by rfl) : SV X rs io (.Expr e pos) (sDrop fe) := by
  refine ps_imp (ps_expr he hs) fun Z σ H ⟨G, ρ, F, fl, q, R, k⟩ => ?_
  unfold sDrop at q
  obtain ⟨⟨d, ρ1⟩, q1, rfl⟩ := map_some' q
  exact ⟨G, ρ, F, d, ρ1, q1, R, fun v H1 F1 f1 R1 _ => k σ H1 F1 f1 (Pin.refl _ _) R1⟩
def sIf (t : Sto → Option (Bool × Sto)) (a b : Sto → Option Fl) : Sto → Option Fl := fun ρ => (t ρ).bind fun c => if c.1 then a c.2 else b c.2
theorem sv_if {c : Expr} {a b : List Stmt} {t : Sto → Option (Bool × Sto)} {fa fb : Sto → Option Fl} (hc : ETV X c t) (ha : SSV X rs io a fa) (hb : SSV X rs io b fb) : SV X rs io (.If c a b pos) (sIf t fa fb) := by
  refine ps_imp (ps_if hc ha hb) fun Z σ H ⟨G, ρ, F, fl, q, R, k⟩ => ?_
  unfold sIf at q
  obtain ⟨⟨x, ρ1⟩, q1, q⟩ := bind_some' q
  refine ⟨G, ρ, F, x, ρ1, q1, R, fun H1 F1 f1 R1 => ?_⟩
  cases x with
  | true =>
    simp only [if_true] at q ⊢
    exact ⟨G, ρ1, F1, fl, q, R1, k.mono f1 (Pin.refl _ _)⟩
  | false =>
    simp only [Bool.false_eq_true, if_false] at q ⊢
    exact ⟨G, ρ1, F1, fl, q, R1, k.mono f1 (Pin.refl _ _)⟩

/-! ### loops -/
def forL (g : D → Sto → Option Sto) (b : Sto → Option Fl) : List D → Sto → Option Fl
  | [], ρ => some (.nx ρ)
  | x :: xs, ρ => (g x ρ).bind fun ρ1 => match b ρ1 with
    | some (.nx ρ') => forL g b xs ρ'
    | some (.ct ρ') => forL g b xs ρ'
    | some (.bk ρ') => some (.nx ρ')
    | some (.rt d ρ') => some (.rt d ρ')
    | none => none
def sFor (fi : Sto → Option (List D × Sto)) (g : D → Sto → Option Sto) (b : Sto → Option Fl) : Sto → Option Fl := fun ρ => (fi ρ).bind fun x => forL g b x.1 x.2
theorem sv_for {iter : Expr} {body : List Stmt} {fi : Sto → Option (List D × Sto)} {g : D → Sto → Option Sto} {fb : Sto → Option Fl} (hp : PassesOwn (model X.prog X.w) X.A X.env X.xe) (hc : X.calm = true) (hi : IEV X tg iter fi) (hg : PGV X ws tg g) (hb : SSV X rs io body fb) (hw : (ws.all fun j => !io.contains j) = true)
    (hs : ∀ x, foldedSetIterable iter X.env x = pure x := by intro _; rfl) : SV X rs io (.For tg iter body [] pos) (sFor fi g fb) := by
  refine ps_imp (ps_for hp hc hi hg.pg hb hs) fun Z σ H ⟨G, ρ, F, fl, q, R, k⟩ => ?_
  unfold sFor at q
  obtain ⟨⟨ds, ρ0⟩, q1, q⟩ := bind_some' q
  refine ⟨G, ρ, F, ds, ρ0, q1, R, fun J H1 F1 f1 R1 it => ?_⟩
  refine ⟨fun i m σ' H' => m = ds.length - i ∧ i ≤ ds.length ∧ ∃ ρ' F', Same F1 F' ∧ Pin io σ σ' ∧ Rel X.K G ρ' σ' H' F' ∧ forL g fb (ds.drop i) ρ' = some fl, ⟨ds.length, by simp, Nat.zero_le _, ρ0, F1, Same.refl _, Pin.refl _ _, R1, by simpa using q⟩, ?_⟩
  rintro i m σ2 H2 ⟨rfl, hi, ρ2, F2, f2, p2, R2, l2⟩
  by_cases hlt : i < ds.length
  · rw [List.drop_eq_getElem_cons hlt] at l2
    obtain ⟨ρ3, q3, l3⟩ := bind_some' (show (g ds[i] ρ2).bind _ = some fl from l2)
    refine .inr ⟨it.go i H2 F2 hlt f2 R2.sub, fun σ' H' => i + 1 ≤ ds.length ∧ ∃ ρ' F', Same F1 F' ∧ Pin io σ σ' ∧ Rel X.K G ρ' σ' H' F' ∧ forL g fb (ds.drop (i + 1)) ρ' = some fl, fun σ' H' p => ⟨ds.length - (i + 1), by omega, rfl, p⟩, fun x H3 y3 => ?_⟩
    have hd : ds[i]? = some ds[i] := by simp [hlt]
    obtain ⟨F3, f3, h3, R3, r3⟩ := it.yld i H2 x H3 y3 _ hd G _ _ F2 f2 R2
    refine ⟨G, ρ2, F3, _, ρ3, q3, R3, r3, fun σ4 H4 F4 f4 h4 d4 R4 => ?_⟩
    have p4 := p2.trans (d4.pin hw)
    cases qb : fb ρ3 with
    | none => rw [qb] at l3; cases l3
    | some flb =>
      rw [qb] at l3
      refine ⟨G, ρ3, F4, flb, qb, R4, ?_⟩
      cases flb with
      | nx ρ5 => exact fun σ5 H5 F5 f5 p5 R5 => ⟨hlt, ρ5, F5, f2.trans (f3.trans (f4.trans f5)), p4.trans p5, R5, l3⟩
      | ct ρ5 => exact fun σ5 H5 F5 f5 p5 R5 => ⟨hlt, ρ5, F5, f2.trans (f3.trans (f4.trans f5)), p4.trans p5, R5, l3⟩
      | bk ρ5 => cases l3; exact fun σ5 H5 F5 f5 p5 R5 => k σ5 H5 F5 (f1.trans (f2.trans (f3.trans (f4.trans f5)))) (p4.trans p5) R5
      | rt d ρ5 => cases l3; exact fun v σ5 H5 F5 f5 p5 R5 => k v σ5 H5 F5 (f1.trans (f2.trans (f3.trans (f4.trans f5)))) (p4.trans p5) R5
  · have e : i = ds.length := by omega
    subst e
    rw [List.drop_length] at l2
    cases l2
    exact .inl ⟨it.stop H2 F2 f2 R2.sub, k σ2 H2 F2 (f1.trans f2) p2 R2⟩
def whileL (t : Sto → Option (Bool × Sto)) (b : Sto → Option Fl) : Nat → Sto → Option Fl
  | 0, _ => none
  | n + 1, ρ => (t ρ).bind fun c => if c.1 then (match b c.2 with
    | some (.nx ρ') => whileL t b n ρ'
    | some (.ct ρ') => whileL t b n ρ'
    | some (.bk ρ') => some (.nx ρ')
    | some (.rt d ρ') => some (.rt d ρ')
    | none => none) else some (.nx c.2)
theorem sv_while (n : Nat) {c : Expr} {body : List Stmt} {t : Sto → Option (Bool × Sto)} {fb : Sto → Option Fl} (hp : PassesOwn (model X.prog X.w) X.A X.env X.xe) (hc : ETV X c t) (hb : SSV X rs io body fb) : SV X rs io (.While c body [] pos) (whileL t fb n) := by
  refine ps_imp (ps_while hp hc hb) fun Z σ H ⟨G, ρ, F, fl, q, R, k⟩ => ?_
  refine ⟨fun m σ' H' => ∃ ρ' F', Same F F' ∧ Pin io σ σ' ∧ Rel X.K G ρ' σ' H' F' ∧ whileL t fb m ρ' = some fl, ⟨n, ρ, F, Same.refl _, Pin.refl _ _, R, q⟩, ?_⟩
  rintro m σ1 H1 ⟨ρ1, F1, f1, p1, R1, l1⟩
  cases m with
  | zero => cases l1
  | succ m =>
    obtain ⟨⟨x, ρ2⟩, q2, l2⟩ := bind_some' (show (t ρ1).bind _ = some fl from l1)
    refine ⟨G, ρ1, F1, x, ρ2, q2, R1, fun H2 F2 f2 R2 => ?_⟩
    cases x with
    | false =>
      simp only [Bool.false_eq_true, if_false] at l2 ⊢
      cases l2
      exact k σ1 H2 F2 (f1.trans f2) p1 R2
    | true =>
      simp only [if_true] at l2 ⊢
      refine ⟨fun σ' H' => ∃ ρ' F', Same F F' ∧ Pin io σ σ' ∧ Rel X.K G ρ' σ' H' F' ∧ whileL t fb m ρ' = some fl, fun σ' H' p => ⟨m, Nat.lt_succ_self _, p⟩, ?_⟩
      cases qb : fb ρ2 with
      | none => rw [qb] at l2; cases l2
      | some flb =>
        rw [qb] at l2
        refine ⟨G, ρ2, F2, flb, qb, R2, ?_⟩
        cases flb with
        | nx ρ5 => exact fun σ5 H5 F5 f5 p5 R5 => ⟨ρ5, F5, f1.trans (f2.trans f5), p1.trans p5, R5, l2⟩
        | ct ρ5 => exact fun σ5 H5 F5 f5 p5 R5 => ⟨ρ5, F5, f1.trans (f2.trans f5), p1.trans p5, R5, l2⟩
        | bk ρ5 => cases l2; exact fun σ5 H5 F5 f5 p5 R5 => k σ5 H5 F5 (f1.trans (f2.trans f5)) (p1.trans p5) R5
        | rt d ρ5 => cases l2; exact fun v σ5 H5 F5 f5 p5 R5 => k v σ5 H5 F5 (f1.trans (f2.trans f5)) (p1.trans p5) R5

/-! ### x.append(e), x[i] op= e -/
def sApp (i : Nat) (s : Sh) (fo : Sto → Option (List Nat)) (fe : Sto → Option (D × Sto)) : Sto → Option Fl := fun ρ => (fo ρ).bind fun ps => match nodeAt i ρ ps with
  | some (.seq _, .lst _) => (fe ρ).bind fun x => match nodeAt i x.2 ps with
    | some (.seq s', .lst ds) => if Sh.eqb s' s && decide (ds.length < 1000000) then some (.nx (putAt i x.2 ps (.lst (ds ++ [x.1])))) else none
    | _ => none
  | _ => none
/-- what an owned list's place is, seen again -/
theorem Rel.at_of {K : PySem.W.Frag} {G H F : Hp} {ρ : Sto} {σ : St} {i : Nat} {ps : List Nat} {s1 : Sh} {d1 : D} {v0 : V} (R : Rel K G ρ σ H F) (hn : nodeAt i ρ ps = some (s1, d1)) (h0 : σ[i]? = some (some v0)) : ∃ v1, At H ps v0 v1 := by
  unfold nodeAt at hn
  split at hn
  · rename_i sh d q
    obtain ⟨u, q1, R1⟩ := R.move q
    rw [h0] at q1; cases q1
    obtain ⟨v1, G', at2, _, _⟩ := R1.zoom hn
    exact ⟨v1, at2⟩
  · cases hn
theorem sv_append {i : Nat} {o a : Expr} {apos cpos : Pos} {fo : Sto → Option (List Nat)} {fe : Sto → Option (D × Sto)} (ho : LV X i o fo) (he : EF X s a fe) (h0 : fo = lVar i)
    (hbase : attributeBase o "append" X.env (eval o X.env) = eval o X.env := by rfl)
    (hfew : ((backTo cpos (starEach [a] X.env)).all (fun x => !x.1) && (backToKw cpos (keywordEach [] X.env)).all (fun x => x.1.isSome)
      && decide (([a] : List Expr).length + ([] : List Keyword).length + (if ([] : List Keyword).isEmpty then 0 else 1) < 30)) = true := by rfl)
    (hline : (apos.endLine == cpos.line) = true := by rfl) (hs : starEach [a] X.env = (false, eval a X.env) :: starEach [] X.env := by rfl) (hplain : (backTo cpos (starEach [] X.env)).any (·.1) = false := by rfl)
    (hsw : swapsWith (.Call (.Attribute o "append" apos) [a] [] cpos) none pos.line X.env = pure false := by rfl) :
    SV X rs io (.Expr (.Call (.Attribute o "append" apos) [a] [] cpos) pos) (sApp i s fo fe) := by
  refine ps_imp (ps_expr (pe_bm PySem.F.plainAttrs_list PySem.F.slot_list_append PySem.F.type_list_append mt_append ho (pa_cons he pa_nil hs) hbase hfew hline hs hplain) hsw) fun Z σ H ⟨G, ρ, F, fl, q, R, k⟩ => ?_
  subst h0
  unfold sApp at q
  obtain ⟨ps, q1, q⟩ := bind_some' q
  have hps : ps = [] := by
    unfold lVar at q1
    split at q1 <;> cases q1
    rfl
  subst hps
  refine ⟨G, ρ, F, _, q1, R, fun v H1 F1 f1 h1 R1 ⟨v0, z0, at1⟩ => ?_⟩
  cases at1
  split at q
  · rename_i s0 ds0 hn0
    obtain ⟨a0, vs0, rfl, ha0, _⟩ := R1.node hn0 z0 rfl
    refine ⟨.inl ⟨rfl, vs0, SqL.of ha0⟩, ?_⟩
    obtain ⟨⟨d, ρ1⟩, q2, q⟩ := bind_some' q
    refine ⟨G, ρ, F1, d, ρ1, q2, R1, fun u H2 F2 f2 R2 => ?_⟩
    split at q
    · rename_i s' ds hn
      split at q
      · rename_i hh
        simp only [Bool.and_eq_true, decide_eq_true_eq] at hh
        cases q
        have hs := Sh.eq_of hh.1
        subst hs
        obtain ⟨G', R3, fin⟩ := R2.atNode hn z0 rfl
        obtain ⟨a1, vs1, e1, ha1, hl1, R4⟩ := R3.snoc
        cases e1
        exact ⟨a0, vs1, u, rfl, rfl, ha1, by rw [hl1]; exact Nat.lt_of_lt_of_le hh.2 (by rw [sizeLine_eq]; decide), k σ _ F2 (f1.trans f2) (Pin.refl _ _) (fin _ _ F2 (Same.refl _) R4)⟩
      · cases q
    · cases q
  · cases q
theorem pget_list : PGet X (rIxL X.K) := by
  intro pins s σ H o i ov iv Q I ro ri h
  obtain ⟨p, xs, k, z, rfl, rfl, hq, he, q⟩ := h
  cases ro
  obtain ⟨t, rfl⟩ := ri
  obtain ⟨its, r, pl, hz⟩ := I.list hq
  obtain ⟨j, h1, h2, h3, h4, h5⟩ := atI_get he
  obtain ⟨w, ew, rw'⟩ := r.get h2
  have hl := r.length
  have hn := line63
  have fin : EP X pins σ Q w s := ⟨z, H, I, rw', q⟩
  by_cases h0 : 0 ≤ k
  · have hj : k.toNat = j := by
      rw [seqIndex_of h0 h5] at h1
      exact Option.some.inj h1
    exact wpAny_getItem_list pl.isList h0 (by omega) (by rw [hj]; simpa using ew) fin
  · have hj : (k + (its.toArray.size : Int)).toNat = j := by
      rw [seqIndex_neg (by omega) h4] at h1
      rw [List.size_toArray, ← hl]
      exact Option.some.inj h1
    exact wpAny_getItem_list_neg pl.isList (by omega) (by rw [List.size_toArray] <;> omega) (by omega) (by rw [hj]; simpa using ew) fin
def sAugS (i : Nat) (fo : Sto → Option (List Nat)) (fi fe : Sto → Option D) (g : D → D → Option D) : Sto → Option Fl := fun ρ => (fo ρ).bind fun ps => (fi ρ).bind fun x => match nodeAt i ρ ps with
  | some (.seq .z, .lst ds) => (lstIx i ρ ps x).bind fun j => (ds[j]?).bind fun old => (fe ρ).bind fun y => (g old y).map fun z => .nx (putAt i ρ ps (.lst (ds.set j z)))
  | _ => none
theorem sv_augS {i : Nat} {o b : Expr} {op : Operator} {r : R2} {g : D → D → Option D} {fo : Sto → Option (List Nat)} {fi fe : Sto → Option D} {tpos : Pos} (ho : LV X i o fo) (hi : PV X .z b fi) (he : PV X .z e fe) (hop : OpR X (inplaceOp op) r) (hg : OpD X.K .z .z r g)
    (ha : ∀ ov iv new, augStore b ov iv new = (do holding [new, ov, iv] (setItem ov iv new); release [new, ov, iv] []; pure .next) := by intros; rfl) :
    SV X rs io (.AugAssign (.Subscript o b tpos) op e pos) (sAugS i fo fi fe g) := by
  refine ps_imp (ps_augS ho hi pget_list he (tip := r) (fun pins s σ H x y v u Q I r1 r2 h => hop pins s σ H x y v u Q I r1 r2 h) set_list ha) fun Z σ H ⟨G, ρ, F, fl, q, R, k⟩ => ?_
  unfold sAugS at q
  obtain ⟨ps, q1, q⟩ := bind_some' q
  obtain ⟨x, q2, q⟩ := bind_some' q
  refine ⟨G, ρ, F, ps, q1, R, fun o1 H1 F1 f1 h1 R1 ⟨v0, z0, at1⟩ => ?_⟩
  refine ⟨G, ρ, F1, x, q2, R1, fun y H2 F2 f2 h2 R2 ⟨fp, r2⟩ => ?_⟩
  split at q
  · rename_i ds hn
    obtain ⟨j, q3, q⟩ := bind_some' q
    obtain ⟨old, q4, q⟩ := bind_some' q
    obtain ⟨ye, q5, q⟩ := bind_some' q
    obtain ⟨z, q6, rfl⟩ := map_some' q
    unfold lstIx at q3
    rw [hn] at q3
    cases x <;> simp only at q3 <;> try cases q3
    rename_i n _hx
    have hj := (ixN_seq q3).2.1
    have r3 : y = .int n := by simpa only [Rp] using r2.1
    -- the node, read
    have nd : ∃ a vs w, o1 = .ref a ∧ H2 a = some (.lst vs) ∧ vs.length = ds.length ∧ vs[j]? = some w ∧ Rp X.K F2 old w := by
      have hn' := hn
      unfold nodeAt at hn'
      split at hn'
      · rename_i sh d0 q7
        obtain ⟨u, q8, R3⟩ := R2.move q7
        rw [z0] at q8; cases q8
        obtain ⟨v1, G', at2, R4, _⟩ := R3.zoom hn'
        cases (at1.mono h2).inj at2
        obtain ⟨fp', a, vs, fp'', rfl, ha', ho', _⟩ := R4.get0
        obtain ⟨rl, _⟩ := OwL.unz ho'
        obtain ⟨w, e3, e4⟩ := RpL.get rl q4
        exact ⟨a, vs, w, rfl, ha', (RpL.length rl).symm, e3, e4⟩
      · cases hn'
    obtain ⟨a, vs, w, rfl, ha', hl, hw, rw'⟩ := nd
    refine ⟨a, vs, n, w, rfl, r3, SqL.of ha', ?_, ?_⟩
    · unfold atI
      rw [hl, q3]
      exact hw
    · refine ⟨G, ρ, F2, ye, q5, R2, fun ve H3 F3 f3 h3 R3 ⟨fpe, r4⟩ => ?_⟩
      refine hg old ye z q6 G ρ σ H3 F3 w ve _ R3 ⟨[], Rp.mono f3 _ _ rw', rfl⟩ ⟨[], r4.1, rfl⟩ fun vz H4 F4 f4 h4 R4 r5 => ?_
      have at4 := (at1.mono h2).mono (h3.trans h4)
      obtain ⟨G', R5, fin⟩ := (R4.addz r5).atNode hn z0 at4
      obtain ⟨a1, vs1, e1, ha1, hl1, R6⟩ := R5.setAt hj
      cases e1
      exact ⟨a, vs1, n, j, rfl, r3, ha1, by rw [hl1]; exact q3, k σ _ F4 (f1.trans (f2.trans (f3.trans f4))) (Pin.refl _ _) (fin _ _ F4 (Same.refl _) R6)⟩
  · cases q
end
end VL

set_option Elab.async false
set_option linter.all false
set_option maxRecDepth 100000
/-! VLg: defs and their calls; instances. -/
noncomputable section
namespace VL
open PySem PySem.Spec PyProof.Rows L2

/-! ### promises -/
def argZ (ds : List D) : Sto := ds.map fun d => some (.z, d)
/-- parameters, the i-th owned at shape sh -/
def argS : Nat → Sh → List D → Sto
  | _, _, [] => []
  | 0, sh, d :: ds => some (sh, d) :: argZ ds
  | i + 1, sh, d :: ds => some (.z, d) :: argS i sh ds
/-- a def that is given frozen data ds and hands back m ds, at shape rs -/
def spP (K : PySem.W.Frag) (n : Nat) (rs : Sh) (m : List D → Option D) : Sp := fun vs H Q _ => ∃ ds F G r, ds.length = n ∧ m ds = some r ∧ Rel K G (argZ ds) (vs.map some) H F ∧
  ∀ v H' F', Same F F' → Rel K G [some (rs, r)] [some v] H' F' → Q v H'
/-- a def whose i0-th parameter is owned: m gives the value and what the parameter holds behind it -/
def spIO (K : PySem.W.Frag) (n i0 : Nat) (sh rs : Sh) (m : List D → Option (D × D)) : Sp := fun vs H Q _ => ∃ ds F G r d', ds.length = n ∧ m ds = some (r, d') ∧ Rel K G (argS i0 sh ds) (vs.map some) H F ∧
  ∀ v H' F', Same F F' → Rel K G [some (rs, r), some (sh, d')] [some v, vs[i0]?] H' F' → Q v H'

section
variable {K : PySem.W.Frag} {G H H' F F' : Hp} {ρ : Sto} {σ : L2.St}
theorem argS_len : ∀ {i : Nat} {sh : Sh} {ds : List D}, (argS i sh ds).length = ds.length
  | _, _, [] => by cases ‹Nat› <;> rfl
  | 0, _, _ :: _ => by simp [argS, argZ]
  | i + 1, sh, d :: ds => by simp [argS, argS_len (i := i)]
theorem argZ_get {ds : List D} {i : Nat} {s : Sh} {d : D} (h : (argZ ds)[i]? = some (some (s, d))) : s = .z ∧ ds[i]? = some d := by
  unfold argZ at h
  rw [List.getElem?_map] at h
  cases q : ds[i]? with
  | none => rw [q] at h; cases h
  | some x => rw [q] at h; cases h; exact ⟨rfl, rfl⟩
theorem argS_get : ∀ {i0 : Nat} {sh : Sh} {ds : List D} {i : Nat} {s : Sh} {d : D}, (argS i0 sh ds)[i]? = some (some (s, d)) → ds[i]? = some d ∧ ((i = i0 ∧ s = sh) ∨ (i ≠ i0 ∧ s = .z))
  | i0, _, [], i, s, d, h => by cases i0 <;> simp [argS] at h
  | 0, sh, e :: ds, 0, s, d, h => by simp [argS] at h; obtain ⟨rfl, rfl⟩ := h; exact ⟨rfl, .inl ⟨rfl, rfl⟩⟩
  | 0, sh, e :: ds, i + 1, s, d, h => by
    have := argZ_get (i := i) (by simpa [argS] using h)
    exact ⟨by simpa using this.2, .inr ⟨by omega, this.1⟩⟩
  | i0 + 1, sh, e :: ds, 0, s, d, h => by simp [argS] at h; obtain ⟨rfl, rfl⟩ := h; exact ⟨rfl, .inr ⟨by omega, rfl⟩⟩
  | i0 + 1, sh, e :: ds, i + 1, s, d, h => by
    have := argS_get (i0 := i0) (i := i) (by simpa [argS] using h)
    exact ⟨by simpa using this.1, this.2.imp (fun z => ⟨by omega, z.2⟩) fun z => ⟨by omega, z.2⟩⟩
theorem Rel.sel1 {x : Slot} {y : Option V} (h : Rel K G (x :: ρ) (y :: σ) H F) : Rel K G [x] [y] H F := by
  obtain ⟨fps, w⟩ := h
  refine ⟨fps, fun i s d q => ?_, w.nd, w.dis, w.out, rfl, w.sub, w.gsub, w.fg⟩
  cases i with
  | zero =>
    obtain ⟨v, q1, q2⟩ := w.slot 0 s d (by simpa using q)
    exact ⟨v, by simpa using q1, q2⟩
  | succ i => simp at q
theorem Rel.sel2 {x : Slot} {y : Option V} {i : Nat} {s0 : Sh} {d0 : D} (h : Rel K G (x :: ρ) (y :: σ) H F) (e1 : ρ[i]? = some (some (s0, d0))) : Rel K G [x, some (s0, d0)] [y, (σ[i]?).join] H F := by
  obtain ⟨fps, w⟩ := h
  refine ⟨fun j => if j = 0 then fps 0 else if j = 1 then fps (i + 1) else [], fun j s d q => ?_, fun j => ?_, fun j k a m1 m2 => ?_, fun j a m => ?_, rfl, w.sub, w.gsub, w.fg⟩
  · cases j with
    | zero =>
      obtain ⟨v, q1, q2⟩ := w.slot 0 s d (by simpa using q)
      exact ⟨v, by simpa using q1, q2⟩
    | succ j =>
      cases j with
      | zero =>
        simp at q; obtain ⟨rfl, rfl⟩ := q
        obtain ⟨v, q1, q2⟩ := w.slot (i + 1) s0 d0 (by simpa using e1)
        have q1 : σ[i]? = some (some v) := by simpa using q1
        exact ⟨v, by simp [q1], q2⟩
      | succ j => simp at q
  · show (if j = 0 then fps 0 else if j = 1 then fps (i + 1) else []).Nodup
    split
    · exact w.nd 0
    · split
      · exact w.nd _
      · exact List.nodup_nil
  · have m1 : a ∈ (if j = 0 then fps 0 else if j = 1 then fps (i + 1) else []) := m1
    have m2 : a ∈ (if k = 0 then fps 0 else if k = 1 then fps (i + 1) else []) := m2
    split at m1
    · split at m2
      · omega
      · split at m2
        · have := w.dis _ _ a m1 m2; omega
        · cases m2
    · split at m1
      · split at m2
        · have := w.dis _ _ a m1 m2; omega
        · split at m2
          · omega
          · cases m2
      · cases m1
  · have m : a ∈ (if j = 0 then fps 0 else if j = 1 then fps (i + 1) else []) := m
    split at m
    · exact w.out _ a m
    · split at m
      · exact w.out _ a m
      · cases m
/-- what a callee must keep: all but the frozen part -/
def gP (H F : Hp) : Hp := fun a => if (F a).isSome then none else H a
theorem Rel.argsZ {ds : List D} {vs : List V} (R : Rel K G ρ σ H F) (r : RpL K F ds vs) : Rel K (gP H F) (argZ ds) (vs.map some) H F := by
  have hl := RpL.length r
  refine ⟨fun _ => [], fun i s d q => ?_, fun _ => List.nodup_nil, fun i j a m => (by cases m), fun i a m => (by cases m), by simp [argZ, hl], R.sub, fun a o q => ?_, fun a o q => ?_⟩
  · obtain ⟨e1, e2⟩ := argZ_get q
    subst e1
    obtain ⟨v, q1, q2⟩ := RpL.get r e2
    exact ⟨v, by rw [List.getElem?_map, q1]; rfl, q2, rfl⟩
  · unfold gP at q
    split at q
    · cases q
    · exact q
  · unfold gP; rw [q]; rfl
theorem gP_some {a : Addr} {o : HO} (h : F a = none) (e : H a = some o) : gP H F a = some o := by unfold gP; rw [h]; exact e
theorem Rel.afterP {x : Slot} {y : Option V} (R : Rel K G ρ σ H F) (e : Same F F') (R1 : Rel K (gP H F) [x] [y] H' F') : Rel K G (x :: ρ) (y :: σ) H' F' ∧ Same H H' := by
  have hs : Same H H' := fun a o q => by
    cases q1 : F a with
    | none => exact R1.gsub a o (gP_some q1 q)
    | some u =>
      have := R.sub a u q1
      rw [q] at this; cases this
      exact R1.sub a o (e a o q1)
  refine ⟨?_, hs⟩
  obtain ⟨fps, w⟩ := R
  obtain ⟨gps, w'⟩ := R1
  have ng : ∀ i a, a ∈ fps i → F' a = none := fun i a m => by
    obtain ⟨q1, _, o, q2⟩ := w.out i a m
    cases q3 : F' a with
    | none => rfl
    | some u => have := w'.fg a u q3; rw [gP_some q1 q2] at this; cases this
  have nx : ∀ i j a, a ∈ fps i → a ∈ gps j → False := fun i j a m m2 => by
    obtain ⟨q1, _, o, q2⟩ := w.out i a m
    have := (w'.out j a m2).2.1
    rw [gP_some q1 q2] at this; cases this
  have gg : ∀ a o, G a = some o → gP H F a = some o := fun a o q => gP_some (by
    cases q1 : F a with
    | none => rfl
    | some u => have := w.fg a u q1; rw [q] at this; cases this) (w.gsub a o q)
  refine ⟨shiftF (gps 0) fps, fun i s d q => ?_, fun i => ?_, fun i j a m1 m2 => ?_, fun i a m => ?_, by simp [w.len], w'.sub, fun a o q => w'.gsub a o (gg a o q), fun a o q => ?_⟩
  · cases i with
    | zero => exact w'.slot 0 s d (by simpa using q)
    | succ i =>
      obtain ⟨v, q1, q2⟩ := w.slot i s d (by simpa using q)
      exact ⟨v, by simpa using q1, q2.mono e fun a _ o z => hs a o z⟩
  · cases i with
    | zero => exact w'.nd 0
    | succ i => exact w.nd i
  · cases i with
    | zero =>
      cases j with
      | zero => rfl
      | succ j => exact (nx j 0 a m2 m1).elim
    | succ i =>
      cases j with
      | zero => exact (nx i 0 a m1 m2).elim
      | succ j => exact congrArg _ (w.dis i j a m1 m2)
  · cases i with
    | zero =>
      obtain ⟨q1, q2, q3⟩ := w'.out 0 a m
      refine ⟨q1, ?_, q3⟩
      cases q4 : G a with
      | none => rfl
      | some o => rw [gg a o q4] at q2; cases q2
    | succ i =>
      obtain ⟨_, q2, o, q3⟩ := w.out i a m
      exact ⟨ng i a m, q2, o, hs a o q3⟩
  · cases q4 : G a with
    | none => rfl
    | some u => have := w'.fg a o q; rw [gg a u q4] at this; cases this
/-- the parameters of a call whose i0-th argument is what slot j owns -/
structure ArgOk (K : PySem.W.Frag) (F : Hp) (i0 j : Nat) (σ : L2.St) (ds : List D) (vs : List V) : Prop where
  len : ds.length = vs.length
  rp : ∀ i d v, i ≠ i0 → ds[i]? = some d → vs[i]? = some v → Rp K F d v
  io : ∃ v, vs[i0]? = some v ∧ σ[j]? = some (some v)
theorem Rel.argsIO {ds : List D} {vs : List V} {i0 j : Nat} {sh : Sh} {d0 : D} (R : Rel K G ρ σ H F) (r : ArgOk K F i0 j σ ds vs) (h0 : ρ[j]? = some (some (sh, d0))) (hd : ds[i0]? = some d0) :
    ∃ Gc fpj vj, vs[i0]? = some vj ∧ Ow K H F sh d0 vj fpj ∧ Rel K Gc (argS i0 sh ds) (vs.map some) H F ∧ ∀ x y d' H' F', Same F F' → Rel K Gc [x, some (sh, d')] [y, vs[i0]?] H' F' →
      Rel K G (x :: ρ.set j (some (sh, d'))) (y :: σ) H' F' ∧ ∀ a o, a ∉ fpj → H a = some o → H' a = some o := by
  obtain ⟨fps, w⟩ := R
  obtain ⟨vj, hv, hσ⟩ := r.io
  obtain ⟨u, q1, q2⟩ := w.slot j sh d0 h0
  rw [hσ] at q1; cases q1
  let Gc : Hp := fun a => if a ∈ fps j then none else gP H F a
  have gin : ∀ {a}, a ∈ fps j → Gc a = none := fun {a} m => if_pos m
  have gout : ∀ {a}, a ∉ fps j → Gc a = gP H F a := fun {a} m => if_neg m
  have gsome : ∀ {a o}, a ∉ fps j → F a = none → H a = some o → Gc a = some o := fun {a o} m h e => by rw [gout m]; exact gP_some h e
  refine ⟨Gc, fps j, vj, hv, q2, ⟨fun i => if i = i0 then fps j else [], fun i s d q => ?_, fun i => ?_, fun i k a m1 m2 => ?_, fun i a m => ?_, by simp [argS_len, r.len], w.sub, fun a o q => ?_, fun a o q => ?_⟩, ?_⟩
  · obtain ⟨q3, q4⟩ := argS_get q
    rcases q4 with ⟨rfl, rfl⟩ | ⟨hne, rfl⟩
    · rw [hd] at q3; cases q3
      simp only [if_true]
      exact ⟨vj, by rw [List.getElem?_map, hv]; rfl, q2⟩
    · have hi : i < vs.length := by rw [← r.len]; exact (List.getElem?_eq_some_iff.mp q3).1
      have e : vs[i]? = some vs[i] := by simp [hi]
      simp only [hne, if_false]
      exact ⟨vs[i], by rw [List.getElem?_map, e]; rfl, r.rp i d _ hne q3 e, rfl⟩
  · show (if i = i0 then fps j else []).Nodup
    split
    · exact w.nd j
    · exact List.nodup_nil
  · have m1 : a ∈ (if i = i0 then fps j else []) := m1
    have m2 : a ∈ (if k = i0 then fps j else []) := m2
    split at m1
    · split at m2
      · omega
      · cases m2
    · cases m1
  · have m : a ∈ (if i = i0 then fps j else []) := m
    split at m
    · obtain ⟨q3, _, q4⟩ := w.out j a m
      exact ⟨q3, gin m, q4⟩
    · cases m
  · by_cases m : a ∈ fps j
    · rw [gin m] at q; cases q
    · rw [gout m] at q
      unfold gP at q
      split at q
      · cases q
      · exact q
  · by_cases m : a ∈ fps j
    · exact gin m
    · rw [gout m]; unfold gP; rw [q]; rfl
  · rintro x y d' H' F' e ⟨gps, w'⟩
    have kp : ∀ a o, a ∉ fps j → H a = some o → H' a = some o := fun a o m q => by
      cases q3 : F a with
      | none => exact w'.gsub a o (gsome m q3 q)
      | some u =>
        have := w.sub a u q3
        rw [q] at this; cases this
        exact w'.sub a o (e a o q3)
    have other : ∀ i, i ≠ j → ∀ a, a ∈ fps i → a ∉ fps j := fun i hi a m m2 => hi (w.dis i j a m m2)
    have gl : ∀ i, i ≠ j → ∀ a, a ∈ fps i → ∃ o, Gc a = some o ∧ H a = some o := fun i hi a m => by
      obtain ⟨q3, _, o, q4⟩ := w.out i a m
      exact ⟨o, gsome (other i hi a m) q3 q4, q4⟩
    have gg : ∀ a o, G a = some o → Gc a = some o := fun a o q => by
      refine gsome (fun m => ?_) ?_ (w.gsub a o q)
      · have := (w.out j a m).2.1; rw [q] at this; cases this
      · cases q3 : F a with
        | none => rfl
        | some u => have := w.fg a u q3; rw [q] at this; cases this
    have hj : j < ρ.length := (List.getElem?_eq_some_iff.mp h0).1
    refine ⟨?_, kp⟩
    refine ⟨shiftF (gps 0) (fun i => if i = j then gps 1 else fps i), fun i s d q => ?_, fun i => ?_, fun i k a m1 m2 => ?_, fun i a m => ?_, by simp [w.len], w'.sub, fun a o q => w'.gsub a o (gg a o q), fun a o q => ?_⟩
    · cases i with
      | zero => exact w'.slot 0 s d (by simpa using q)
      | succ i =>
        have q : (ρ.set j (some (sh, d')))[i]? = some (some (s, d)) := by simpa using q
        by_cases hi : i = j
        · subst hi
          rw [List.getElem?_set_self hj] at q; cases q
          obtain ⟨v, q3, q4⟩ := w'.slot 1 sh d' rfl
          refine ⟨vj, by simpa using hσ, ?_⟩
          simp [hv] at q3; subst q3
          show Ow K H' F' sh d' vj (if i = i then gps 1 else fps i)
          rw [if_pos rfl]; exact q4
        · rw [List.getElem?_set_ne (Ne.symm hi)] at q
          obtain ⟨v, q3, q4⟩ := w.slot i s d q
          refine ⟨v, by simpa using q3, ?_⟩
          show Ow K H' F' s d v (if i = j then gps 1 else fps i)
          rw [if_neg hi]
          exact q4.mono e fun a m o z => kp a o (other i hi a m) z
    · cases i with
      | zero => exact w'.nd 0
      | succ i =>
        show (if i = j then gps 1 else fps i).Nodup
        split
        · exact w'.nd 1
        · exact w.nd i
    · have cl : ∀ i b, i ≠ j → b ∈ fps i → ∀ k, b ∈ gps k → False := fun i b hi m k m2 => by
        obtain ⟨o, q3, _⟩ := gl i hi b m
        have := (w'.out k b m2).2.1; rw [q3] at this; cases this
      cases i with
      | zero =>
        cases k with
        | zero => rfl
        | succ k =>
          have m2 : a ∈ (if k = j then gps 1 else fps k) := m2
          split at m2
          · have := w'.dis _ _ a m1 m2; omega
          · exact (cl k a ‹_› m2 0 m1).elim
      | succ i =>
        have m1 : a ∈ (if i = j then gps 1 else fps i) := m1
        cases k with
        | zero =>
          split at m1
          · have := w'.dis _ _ a m1 m2; omega
          · exact (cl i a ‹_› m1 0 m2).elim
        | succ k =>
          have m2 : a ∈ (if k = j then gps 1 else fps k) := m2
          split at m1
          · split at m2
            · omega
            · exact (cl k a ‹_› m2 1 m1).elim
          · split at m2
            · exact (cl i a ‹_› m1 1 m2).elim
            · exact congrArg _ (w.dis i k a m1 m2)
    · have mine : ∀ k, a ∈ gps k → F' a = none ∧ G a = none ∧ ∃ o, H' a = some o := fun k m => by
        obtain ⟨q3, q4, q5⟩ := w'.out k a m
        refine ⟨q3, ?_, q5⟩
        cases q6 : G a with
        | none => rfl
        | some o => rw [gg a o q6] at q4; cases q4
      cases i with
      | zero => exact mine 0 m
      | succ i =>
        have m : a ∈ (if i = j then gps 1 else fps i) := m
        split at m
        · exact mine 1 m
        · rename_i hi
          obtain ⟨_, q4, _⟩ := w.out i a m
          obtain ⟨o, q5, q6⟩ := gl i hi a m
          refine ⟨?_, q4, o, kp a o (other i hi a m) q6⟩
          cases q7 : F' a with
          | none => rfl
          | some u => have := w'.fg a u q7; rw [q5] at this; cases this
    · cases q4 : G a with
      | none => rfl
      | some u => have := w'.fg a o q; rw [gg a u q4] at this; cases this
end

/-! ### a def by its body -/
/-- what the body's end hands back -/
def endP (fl : Option Fl) : Option D := match fl with
  | some (.rt r _) => some r
  | some (.nx _) => some .non
  | _ => none
def endIO (i0 : Nat) (sh : Sh) (fl : Option Fl) : Option (D × D) := match fl with
  | some (.rt r ρ) => (match ρ[i0]? with
    | some (some (s, d)) => if Sh.eqb s sh then some (r, d) else none
    | _ => none)
  | some (.nx ρ) => (match ρ[i0]? with
    | some (some (s, d)) => if Sh.eqb s sh then some (.non, d) else none
    | _ => none)
  | _ => none
theorem Ow.non {K : PySem.W.Frag} {H F : Hp} : ∀ {s : Sh}, Ow K H F s .non .non []
  | .z => ⟨by simp only [Rp], rfl⟩
  | .seq _ => ⟨by simp only [Rp], rfl⟩
  | .obj _ => ⟨by simp only [Rp], rfl⟩
theorem Rel.addNon {K : PySem.W.Frag} {G H F : Hp} {ρ : Sto} {σ : L2.St} {s : Sh} (R : Rel K G ρ σ H F) : Rel K G (some (s, .non) :: ρ) (some .non :: σ) H F := by
  obtain ⟨fps, w⟩ := R
  refine ⟨shiftF [] fps, fun i s' d' q => ?_, fun i => ?_, fun i j a m1 m2 => ?_, fun i a m => ?_, by simp [w.len], w.sub, w.gsub, w.fg⟩
  · cases i with
    | zero => simp at q; obtain ⟨rfl, rfl⟩ := q; exact ⟨.non, rfl, Ow.non⟩
    | succ i => exact w.slot i s' d' (by simpa using q)
  · cases i with
    | zero => exact List.nodup_nil
    | succ i => exact w.nd i
  · cases i with
    | zero => cases m1
    | succ i =>
      cases j with
      | zero => cases m2
      | succ j => exact congrArg _ (w.dis i j a m1 m2)
  · cases i with
    | zero => cases m
    | succ i => exact w.out i a m
theorem Rel.more {K : PySem.W.Frag} {G H F : Hp} {ρ : Sto} {σ : L2.St} (R : Rel K G ρ σ H F) (n : Nat) : Rel K G (ρ ++ List.replicate n none) (σ ++ List.replicate n none) H F := by
  obtain ⟨fps, w⟩ := R
  have hl := w.len
  refine ⟨fps, fun i s d q => ?_, w.nd, w.dis, w.out, by simp [hl], w.sub, w.gsub, w.fg⟩
  by_cases hi : i < ρ.length
  · rw [List.getElem?_append_left hi] at q
    rw [List.getElem?_append_left (by omega)]
    exact w.slot i s d q
  · rw [List.getElem?_append_right (by omega), List.getElem?_replicate] at q
    split at q <;> simp at q
section
variable {P : Program} {w : World} {K : PySem.W.Frag} {mg : Str → Option Value} {base : Heap}
/-- the context of a def's body -/
abbrev BCx (P : Program) (w : World) (K : PySem.W.Frag) (mg : Str → Option Value) (base : Heap) (N : List Str) (qual : Str) (st : Stmt) (f : Addr) (cdv : Value) (A : Around) (outer : List Env) (s : Shared) (H : Hp) (E : XK) : Cx :=
  (cxOf CX0 P w K mg base N qual (defScope st) f cdv A outer s H E).nox
theorem fn_pure {x qual : Str} {st : Stmt} {f : Addr} {fd : FuncData} {N ps : List Str} {k : Nat} {rs : Sh} {fb : Sto → Option Fl} {m : List D → Option D} (Fn : Fun K x qual st f fd) (S : FnScope N ps (defScope st))
    (hb : ∀ (cdv : Value) (A : Around) (outer : List Env) (s : Shared) (H : Hp) (E : XK), Room k (A.deeper (envOfC qual (defScope st) s.heap.objs.size f cdv)) → SSV (BCx P w K mg base N qual st f cdv A outer s H E) rs [] (defBody st) fb)
    (hm : ∀ ds r, ds.length = ps.length → m ds = some r → endP (fb (argZ ds ++ List.replicate (N.length - ps.length) none)) = some r) :
    FnOk P w K mg base CX0 (k + 1) f fd ps (spP K ps.length rs m) := by
  have hlen : ∀ vs H Q E, spP K ps.length rs m vs H Q E → vs.length = ps.length := fun vs H Q E ⟨ds, F, G, r, h1, h2, R, _⟩ => by
    have := R.len; simp [argZ] at this; omega
  refine Fn.ok S hlen fun cdv A outer s H vs Q E hr h => ⟨_, hb cdv A outer s H E hr, ?_⟩
  have hv := hlen _ _ _ _ h
  obtain ⟨ds, F, G, r, h1, h2, R, kq⟩ := h
  have e := hm ds r h1 h2
  have R0 : Rel K G (argZ ds ++ List.replicate (N.length - ps.length) none) (L2.start N vs) H F := by
    unfold L2.start
    rw [hv]
    exact R.more _
  cases q : fb (argZ ds ++ List.replicate (N.length - ps.length) none) with
  | none => rw [q] at e; cases e
  | some fl =>
    rw [q] at e
    refine ⟨G, _, F, fl, q, R0, ?_⟩
    cases fl with
    | nx ρ' => cases e; exact fun σ' H' F' f1 _ R1 => kq .non H' F' f1 R1.addNon.sel1
    | rt d ρ' => cases e; exact fun v σ' H' F' f1 _ R1 => kq v H' F' f1 R1.sel1
    | bk ρ' => cases e
    | ct ρ' => cases e
theorem fn_io {x qual : Str} {st : Stmt} {f : Addr} {fd : FuncData} {N ps : List Str} {k i0 : Nat} {sh rs : Sh} {fb : Sto → Option Fl} {m : List D → Option (D × D)} (Fn : Fun K x qual st f fd) (S : FnScope N ps (defScope st)) (hi0 : i0 < ps.length)
    (hb : ∀ (cdv : Value) (A : Around) (outer : List Env) (s : Shared) (H : Hp) (E : XK), Room k (A.deeper (envOfC qual (defScope st) s.heap.objs.size f cdv)) → SSV (BCx P w K mg base N qual st f cdv A outer s H E) rs [i0] (defBody st) fb)
    (hm : ∀ ds r, ds.length = ps.length → m ds = some r → endIO i0 sh (fb (argS i0 sh ds ++ List.replicate (N.length - ps.length) none)) = some r) :
    FnOk P w K mg base CX0 (k + 1) f fd ps (spIO K ps.length i0 sh rs m) := by
  have hlen : ∀ vs H Q E, spIO K ps.length i0 sh rs m vs H Q E → vs.length = ps.length := fun vs H Q E ⟨ds, F, G, r, d', h1, h2, R, _⟩ => by
    have := R.len; simp [argS_len] at this; omega
  refine Fn.ok S hlen fun cdv A outer s H vs Q E hr h => ⟨_, hb cdv A outer s H E hr, ?_⟩
  have hv := hlen _ _ _ _ h
  obtain ⟨ds, F, G, r, d', h1, h2, R, kq⟩ := h
  have e := hm ds (r, d') h1 h2
  have R0 : Rel K G (argS i0 sh ds ++ List.replicate (N.length - ps.length) none) (L2.start N vs) H F := by
    unfold L2.start
    rw [hv]
    exact R.more _
  have e0 : (L2.start N vs)[i0]? = some (vs[i0]?) := by
    unfold L2.start
    rw [List.getElem?_append_left (by simp; omega), List.getElem?_map, List.getElem?_eq_getElem (by omega)]
    rfl
  cases q : fb (argS i0 sh ds ++ List.replicate (N.length - ps.length) none) with
  | none => rw [q] at e; cases e
  | some fl =>
    rw [q] at e
    refine ⟨G, _, F, fl, q, R0, ?_⟩
    cases fl with
    | nx ρ' =>
      simp only [endIO] at e
      split at e
      · rename_i s0 d0 q1
        split at e
        · rename_i hs
          cases e
          have hs := Sh.eq_of hs; subst hs
          intro σ' H' F' f1 p1 R1
          have := R1.addNon (s := rs) |>.sel2 q1
          rw [p1 i0 (by simp), e0] at this
          exact kq .non H' F' f1 this
        · cases e
      · cases e
    | rt d ρ' =>
      simp only [endIO] at e
      split at e
      · rename_i s0 d0 q1
        split at e
        · rename_i hs
          cases e
          have hs := Sh.eq_of hs; subst hs
          intro v σ' H' F' f1 p1 R1
          have := R1.sel2 q1
          rw [p1 i0 (by simp), e0] at this
          exact kq v H' F' f1 this
        · cases e
      · cases e
    | bk ρ' => cases e
    | ct ρ' => cases e
end

/-! ### calls -/
section
variable {X : Cx} {k : Nat} {f : Addr} {fd : FuncData} {ps : List Str} {n : Nat} {rs : Sh} {m : List D → Option D} {mi : List D → Option (D × D)} {x : Str} {p pos : Pos} {e : Expr} {es : List Expr}
def vCall (m : List D → Option D) (fs : Sto → Option (List D)) : Sto → Option D := fun ρ => (fs ρ).bind fun ds => if ds.length = n then m ds else none
theorem fp_call {fs : Sto → Option (List D)} (Fn : FnOk X.prog X.w X.K X.mg X.base CX0 k f fd ps (spP X.K n rs m)) (hr : Room k X.A) (hg : Gl X x) (hm : X.mg x = some (.ref f)) (hk : PySem.W.keepIn X.K (.ref f) = true) (hb : Binds X.K fd ps [])
    (ha : PAV X (e :: es) fs) (hdb : (x == ("__debug__" : Str)) = false := by decide) (he : starEach (e :: es) X.env = (false, eval e X.env) :: starEach es X.env := by rfl) (hpl : (backTo pos (starEach es X.env)).any (·.1) = false := by rfl) :
    FP X rs (.Call (.Name x p) (e :: es) [] pos) (vCall (n := n) m fs) := by
  refine pe_imp (pe_call Fn hr hg hm hk hb .nil pass0 ha hdb he hpl) fun σ H Q ⟨G, ρ, F, d, q, R, kq⟩ => ?_
  unfold vCall at q
  obtain ⟨ds, q1, q⟩ := bind_some' q
  split at q
  · rename_i hl
    refine ⟨G, ρ, F, ds, q1, R, fun vs H1 F1 f1 h1 R1 r1 => ?_⟩
    refine ⟨ds, F1, gP H1 F1, d, hl, q, by rw [List.append_nil]; exact R1.argsZ r1, fun v H2 F2 f2 R2 => ?_⟩
    obtain ⟨R3, h2⟩ := R1.afterP f2 R2
    exact kq v H2 F2 (f1.trans f2) (h1.trans h2) R3
  · cases q
def eCall (n : Nat) (m : List D → Option D) (fs : Sto → Option (List D × Sto)) : Sto → Option (D × Sto) := fun ρ => (fs ρ).bind fun ds => if ds.1.length = n then (m ds.1).map fun d => (d, ds.2) else none
theorem ef_call {fs : Sto → Option (List D × Sto)} (Fn : FnOk X.prog X.w X.K X.mg X.base CX0 k f fd ps (spP X.K n rs m)) (hr : Room k X.A) (hg : Gl X x) (hm : X.mg x = some (.ref f)) (hk : PySem.W.keepIn X.K (.ref f) = true) (hb : Binds X.K fd ps [])
    (ha : EAV X (e :: es) fs) (hdb : (x == ("__debug__" : Str)) = false := by decide) (he : starEach (e :: es) X.env = (false, eval e X.env) :: starEach es X.env := by rfl) (hpl : (backTo pos (starEach es X.env)).any (·.1) = false := by rfl) :
    EF X rs (.Call (.Name x p) (e :: es) [] pos) (eCall n m fs) := by
  refine pe_imp (pe_call Fn hr hg hm hk hb .nil pass0 ha hdb he hpl) fun σ H Q ⟨G, ρ, F, d, ρ', q, R, kq⟩ => ?_
  unfold eCall at q
  obtain ⟨⟨ds, ρ1⟩, q1, q⟩ := bind_some' q
  split at q
  · rename_i hl
    obtain ⟨d1, q2, q3⟩ := map_some' q
    cases q3
    refine ⟨G, ρ, F, ds, _, q1, R, fun vs H1 F1 f1 R1 r1 => ?_⟩
    refine ⟨ds, F1, gP H1 F1, _, hl, q2, by rw [List.append_nil]; exact R1.argsZ r1, fun v H2 F2 f2 R2 => ?_⟩
    obtain ⟨R3, h2⟩ := R1.afterP f2 R2
    exact kq v H2 F2 (f1.trans f2) R3
  · cases q
/-- arguments of which the i0-th is the name of slot j -/
def tQA (K : PySem.W.Frag) (i0 j : Nat) (f : Sto → Option (List D)) : TA := fun σ H Q => ∃ G ρ F ds, f ρ = some ds ∧ Rel K G ρ σ H F ∧
  ∀ vs H' F', Same F F' → Same H H' → Rel K G ρ σ H' F' → ArgOk K F' i0 j σ ds vs → Q vs H'
abbrev QAV (X : Cx) (i0 j : Nat) (es : List Expr) (f : Sto → Option (List D)) : Prop := PA X es (tQA X.K i0 j f)
theorem qa_here {j : Nat} {y : Str} {py : Pos} {fs : Sto → Option (List D)} (hN : X.N[j]? = some y) (hv : Vis X.env.scope y) (ha : PAV X es fs) (hd : (y == ("__debug__" : Str)) = false := by decide) (hcd : (y == ("__classdict__" : Str)) = false := by decide)
    (hs : starEach (.Name y py :: es) X.env = (false, eval (.Name y py) X.env) :: starEach es X.env := by rfl) : QAV X 0 j (.Name y py :: es) (aCons (vVar j) fs) := by
  refine pa_imp (pa_cons (pe_var hN hv hd hcd) ha hs) fun σ H Q ⟨G, ρ, F, ds, q, R, k⟩ => ?_
  unfold aCons at q
  obtain ⟨d, q1, q⟩ := bind_some' q
  obtain ⟨xs, q2, rfl⟩ := map_some' q
  unfold vVar at q1
  split at q1
  · rename_i s d0 q3
    cases q1
    obtain ⟨v, fp, q4, q5⟩ := R.get q3
    refine ⟨v, q4, G, ρ, F, xs, q2, R, fun vs H1 F1 f1 h1 R1 r1 => k _ H1 F1 f1 h1 R1 ⟨by simp [RpL.length r1], fun i x u hi e1 e2 => ?_, v, rfl, q4⟩⟩
    cases i with
    | zero => exact (hi rfl).elim
    | succ i => exact RpL.get2 r1 i x u (by simpa using e1) (by simpa using e2)
  · cases q1
theorem qa_next {i0 j : Nat} {fa : Sto → Option D} {fs : Sto → Option (List D)} (ha : PV X .z e fa) (hr : QAV X i0 j es fs) (hs : starEach (e :: es) X.env = (false, eval e X.env) :: starEach es X.env := by rfl) : QAV X (i0 + 1) j (e :: es) (aCons fa fs) := by
  refine pa_imp (pa_cons ha hr hs) fun σ H Q ⟨G, ρ, F, ds, q, R, k⟩ => ?_
  unfold aCons at q
  obtain ⟨d, q1, q⟩ := bind_some' q
  obtain ⟨xs, q2, rfl⟩ := map_some' q
  refine ⟨G, ρ, F, d, q1, R, fun v H1 F1 f1 h1 R1 ⟨fp, r1⟩ => ?_⟩
  refine ⟨G, ρ, F1, xs, q2, R1, fun vs H2 F2 f2 h2 R2 r2 => k _ H2 F2 (f1.trans f2) (h1.trans h2) R2 ⟨by simp [r2.len], fun i x u hi e1 e2 => ?_, ?_⟩⟩
  · cases i with
    | zero => simp at e1 e2; subst e1; subst e2; exact Rp.mono f2 _ _ r1.1
    | succ i => exact r2.rp i x u (by omega) (by simpa using e1) (by simpa using e2)
  · obtain ⟨u, e1, e2⟩ := r2.io
    exact ⟨u, by simpa using e1, e2⟩
/-- a call that changes what slot j owns -/
def eCallIO (n i0 j : Nat) (sh : Sh) (m : List D → Option (D × D)) (fs : Sto → Option (List D)) : Sto → Option (D × Sto) := fun ρ => match ρ[j]? with
  | some (some (s, d0)) => if Sh.eqb s sh then (fs ρ).bind fun ds => match ds[i0]? with
    | some d => if ds.length = n then (m ds).map fun r => (r.1, ρ.set j (some (sh, r.2))) else none
    | none => none else none
  | _ => none
theorem qa_data {i0 j : Nat} {es : List Expr} {fs : Sto → Option (List D)} : True := trivial
theorem ef_callIO {i0 j : Nat} {sh : Sh} {fs : Sto → Option (List D)} (Fn : FnOk X.prog X.w X.K X.mg X.base CX0 k f fd ps (spIO X.K n i0 sh rs mi)) (hr : Room k X.A) (hg : Gl X x) (hm : X.mg x = some (.ref f)) (hk : PySem.W.keepIn X.K (.ref f) = true) (hb : Binds X.K fd ps [])
    (ha : QAV X i0 j (e :: es) fs) (hfs : ∀ ρ ds s d, fs ρ = some ds → ρ[j]? = some (some (s, d)) → ds[i0]? = some d) (hdb : (x == ("__debug__" : Str)) = false := by decide) (he : starEach (e :: es) X.env = (false, eval e X.env) :: starEach es X.env := by rfl) (hpl : (backTo pos (starEach es X.env)).any (·.1) = false := by rfl) :
    EF X rs (.Call (.Name x p) (e :: es) [] pos) (eCallIO n i0 j sh mi fs) := by
  refine pe_imp (pe_call Fn hr hg hm hk hb .nil pass0 ha hdb he hpl) fun σ H Q ⟨G, ρ, F, d, ρ', q, R, kq⟩ => ?_
  unfold eCallIO at q
  split at q
  · rename_i s d0 hj
    split at q
    · rename_i hs
      have hs := Sh.eq_of hs
      subst hs
      obtain ⟨ds, q1, q⟩ := bind_some' q
      have hd := hfs ρ ds s d0 q1 hj
      rw [hd] at q
      simp only at q
      split at q
      · rename_i hl
        obtain ⟨⟨r, d'⟩, q2, q3⟩ := map_some' q
        cases q3
        refine ⟨G, ρ, F, ds, q1, R, fun vs H1 F1 f1 h1 R1 r1 => ?_⟩
        obtain ⟨Gc, _, _, _, _, R2, back⟩ := R1.argsIO r1 hj hd
        refine ⟨ds, F1, Gc, _, _, hl, q2, by rw [List.append_nil]; exact R2, fun v H2 F2 f2 R3 => ?_⟩
        rw [List.append_nil] at R3
        exact kq v H2 F2 (f1.trans f2) (back _ _ _ H2 F2 f2 R3).1
      · cases q
    · cases q
  · cases q
end
end VL

set_option Elab.async false
set_option linter.all false
set_option maxRecDepth 100000
/-! VLh: instances, built-ins, operators on data. -/
noncomputable section
namespace VL
open PySem PySem.Spec PyProof.Rows L2

/-! ### instances -/
def fldIx (ns : List Str) (ds : List D) (f : Str) : Option D := (ns.zip ds).lookup f
section
variable {K : PySem.W.Frag} {G H H' F F' : Hp} {ρ : Sto} {σ : L2.St}
theorem RpL.lookup {f : Str} : ∀ {ns : List Str} {ds : List D} {vs : List V} {d : D}, RpL K F ds vs → (ns.zip ds).lookup f = some d → ∃ v, (ns.zip vs).lookup f = some v ∧ Rp K F d v
  | [], ds, vs, d, _, e => by simp at e
  | n :: ns, [], vs, d, _, e => by simp at e
  | n :: ns, x :: ds, vs, d, h, e => by
    obtain ⟨v, r, rfl, h1, h2⟩ := RpL.cons_inv h
    simp only [List.zip_cons_cons, List.lookup_cons] at e ⊢
    cases hb : f == n with
    | true => rw [hb] at e; cases e; exact ⟨v, rfl, h1⟩
    | false => rw [hb] at e; exact RpL.lookup h2 e
theorem zip_none {f : Str} {β : Type} : ∀ {ns : List Str} {vs : List β}, f ∉ ns → (ns.zip vs).lookup f = none
  | [], _, _ => by simp
  | _ :: _, [], _ => by simp
  | n :: ns, v :: vs, h => by
    simp only [List.zip_cons_cons, List.lookup_cons]
    have : (f == n) = false := by simp; exact fun e => h (by simp [e])
    rw [this]
    exact zip_none fun m => h (List.mem_cons_of_mem _ m)
theorem OwF.lookup {R : Str → D → V → List Addr → Prop} {f : Str} : ∀ {ns : List Str} {ds : List D} {vs : List V} {fp : List Addr} {d : D}, OwF R ns ds vs fp → (ns.zip ds).lookup f = some d → ∃ v g, (ns.zip vs).lookup f = some v ∧ R f d v g
  | [], ds, vs, fp, d, _, e => by simp at e
  | n :: ns, ds, vs, fp, d, h, e => by
    obtain ⟨x, dr, v, r, f1, f2, rfl, rfl, h1, h2, rfl⟩ := h
    simp only [List.zip_cons_cons, List.lookup_cons] at e ⊢
    cases hb : f == n with
    | true =>
      rw [hb] at e; cases e
      have : f = n := by simpa using hb
      subst this
      exact ⟨v, f1, rfl, h1⟩
    | false => rw [hb] at e; exact OwF.lookup h2 e
theorem OwF.snoc {R : Str → D → V → List Addr → Prop} {f : Str} {d : D} {v : V} {g : List Addr} (r : R f d v g) : ∀ {ns : List Str} {ds : List D} {vs : List V} {fp : List Addr}, OwF R ns ds vs fp → OwF R (ns ++ [f]) (ds ++ [d]) (vs ++ [v]) (fp ++ g)
  | [], ds, vs, fp, h => by
    obtain ⟨rfl, rfl, rfl⟩ := h
    exact ⟨d, [], v, [], g, [], rfl, rfl, r, ⟨rfl, rfl, rfl⟩, by simp⟩
  | n :: ns, ds, vs, fp, h => by
    obtain ⟨x, dr, u, t, f1, f2, rfl, rfl, h1, h2, rfl⟩ := h
    exact ⟨x, dr ++ [d], u, t ++ [v], f1, f2 ++ g, rfl, rfl, h1, OwF.snoc r h2, by simp⟩
theorem putF_new {f : Str} {v : V} : ∀ {fs : List (Str × V)}, f ∉ fs.map (·.1) → putF f v fs = fs ++ [(f, v)]
  | [], _ => rfl
  | (n, u) :: fs, h => by
    have hn : n ≠ f := fun e => h (by simp [e])
    unfold putF
    rw [if_neg hn, putF_new fun m => h (by simp at m ⊢; exact .inr m)]
    rfl
end
/-- what is known of a class whose instances' field f is read -/
structure FldC (K : PySem.W.Frag) (C : Addr) (f : Str) : Prop where
  cl : Cls K C
  na : NoAttr K C f
def vFld (C : Addr) (f : Str) (fo : Sto → Option D) : Sto → Option D := fun ρ => match fo ρ with
  | some (.obj C' ns ds) => if C' = C then fldIx ns ds f else none
  | _ => none
section
variable {X : Cx} {e o : Expr} {C : Addr} {f : Str} {pos pos' : Pos} {fo : Sto → Option D} {s : Sh}
theorem pv_fld (c : FldC X.K C f) (he : PV X .z e fo) (hb : attributeBase e f X.env (eval e X.env) = eval e X.env := by rfl) : PV X .z (.Attribute e f pos) (vFld C f fo) := by
  refine pe_imp (pe_fld he hb) fun σ H Q ⟨G, ρ, F, d, q, R, k⟩ => ?_
  unfold vFld at q
  split at q
  · rename_i C' ns ds q1
    split at q
    · rename_i hC
      subst hC
      refine ⟨G, ρ, F, _, q1, R, fun v H1 F1 f1 h1 R1 ⟨fp, r1⟩ => ?_⟩
      have r2 := r1.1
      simp only [Rp] at r2
      obtain ⟨a, dx, vs, rfl, ha, hl, hr⟩ := r2
      obtain ⟨u, e1, e2⟩ := RpL.lookup hr q
      exact ⟨a, _, dx, _, u, rfl, R1.sub _ _ ha, c.cl, c.na, e1, k u H1 F1 f1 h1 R1 ⟨[], e2, rfl⟩⟩
    · cases q
  · cases q
theorem pv_fldO {g : Str → Sh} (c : FldC X.K C f) (he : PV X (.obj g) e fo) (hb : attributeBase e f X.env (eval e X.env) = eval e X.env := by rfl) : PV X (g f) (.Attribute e f pos) (vFld C f fo) := by
  refine pe_imp (pe_fld he hb) fun σ H Q ⟨G, ρ, F, d, q, R, k⟩ => ?_
  unfold vFld at q
  split at q
  · rename_i C' ns ds q1
    split at q
    · rename_i hC
      subst hC
      refine ⟨G, ρ, F, _, q1, R, fun v H1 F1 f1 h1 R1 ⟨fp, r1⟩ => ?_⟩
      obtain ⟨a, dx, vs, fp', rfl, ha, ho, _⟩ := r1
      obtain ⟨u, gf, e1, e2⟩ := ho.lookup q
      exact ⟨a, _, dx, _, u, rfl, ha, c.cl, c.na, e1, k u H1 F1 f1 h1 R1 ⟨gf, e2⟩⟩
    · cases q
  · cases q
def Sh.zb : Sh → Bool
  | .z => true
  | _ => false
/-- self.f = e, a new field of an owned instance in slot i -/
def sFld (i : Nat) (C : Addr) (f : Str) (fe : Sto → Option (D × Sto)) : Sto → Option Fl := fun ρ => (fe ρ).bind fun x => match x.2[i]? with
  | some (some (.obj g, .obj C' ns ds)) => if C' = C ∧ f ∉ ns ∧ ns.length < 50 ∧ (g f).zb = true then some (.nx (x.2.set i (some (.obj g, .obj C (ns ++ [f]) (ds ++ [x.1]))))) else none
  | _ => none
theorem sv_fldN {i : Nat} {x : Str} {px : Pos} {rs : Sh} {io : List Nat} {fe : Sto → Option (D × Sto)} (hN : X.N[i]? = some x) (hv : Vis X.env.scope x) (c : FldC X.K C f) (he : EV X e fe) (hs : swapsWith e (some (.Attribute (.Name x px) f pos')) pos.line X.env = pure false := by rfl)
    (hd : (x == ("__debug__" : Str)) = false := by decide) (hcd : (x == ("__classdict__" : Str)) = false := by decide) :
    SV X rs io (.Assign [.Attribute (.Name x px) f pos'] e pos) (sFld i C f fe) := by
  refine ps_imp (ps_fld (pe_var hN hv hd hcd) he hs) fun Z σ H ⟨G, ρ, F, fl, q, R, k⟩ => ?_
  unfold sFld at q
  obtain ⟨⟨d, ρ1⟩, q1, q⟩ := bind_some' q
  split at q
  · rename_i g C' ns ds q2
    split at q
    · rename_i hh
      obtain ⟨rfl, hf, hn, hgz⟩ := hh
      cases q
      have hgf : g f = .z := by
        cases hq : g f <;> rw [hq] at hgz <;> first | rfl | cases hgz
      refine ⟨G, ρ, F, d, ρ1, q1, R, fun v H1 F1 f1 R1 r1 => ?_⟩
      obtain ⟨u, q3, R2⟩ := R1.move q2
      obtain ⟨fps, w⟩ := R2
      obtain ⟨u', p1, p2⟩ := w.slot 0 _ _ rfl
      simp at p1; subst p1
      obtain ⟨a, dx, vs, fp', rfl, ha, ho, hfp⟩ := p2
      have hl := ho.length
      have hz : (ns.zip vs).map (·.1) = ns := by rw [List.map_fst_zip]; omega
      refine ⟨.ref a, q3, a, _, dx, _, rfl, ha, c.cl, c.na, ?_, ?_⟩
      · rw [List.length_zip]; omega
      · have hput : putF f v (ns.zip vs) = (ns ++ [f]).zip (vs ++ [v]) := by
          rw [putF_new (by rw [hz]; exact hf), List.zip_append hl.2]; rfl
        rw [hput]
        have n0 := w.nd 0
        rw [hfp] at n0
        have a0 : a ∈ fps 0 := by rw [hfp]; exact List.mem_cons_self
        have R3 : Rel X.K G (some (.obj g, .obj C' (ns ++ [f]) (ds ++ [d])) :: ρ1.set i none) (some (.ref a) :: σ) (L2.upd H1 a (.ins C' dx ((ns ++ [f]).zip (vs ++ [v])))) F1 := by
          refine w.front (xs := [_]) (ys := [_]) (xs' := [_]) (ys' := [_]) rfl rfl (fun _ => a :: fp') (fun j s' d' q => ?_) (fun j _ => n0) (fun j k b hj hk _ _ => by simp at hj hk; omega) (fun j b hj m => ⟨0, by simp, by rw [hfp]; exact m⟩) (fun b o hb e => ?_) (fun j b hj m => ?_)
          · cases j with
            | zero =>
              simp at q; obtain ⟨rfl, rfl⟩ := q
              refine ⟨_, rfl, a, dx, vs ++ [v], fp', rfl, upd_same, ?_, rfl⟩
              have := OwF.snoc (R := fun n => Ow X.K (L2.upd H1 a (.ins C' dx ((ns ++ [f]).zip (vs ++ [v])))) F1 (g n)) (f := f) (d := d) (v := v) (g := []) (by show Ow _ _ _ (g f) d v []; rw [hgf]; exact ⟨r1, rfl⟩)
                (OwF.mono ho fun n d v f m r => Ow.upd r fun z => (List.nodup_cons.mp n0).1 (m a z))
              simpa using this
            | succ j => simp at q
          · rw [upd_ne]
            · exact e
            · rintro rfl; exact hb 0 (by simp) a0
          · by_cases hb : b = a
            · subst hb; exact ⟨_, upd_same⟩
            · rw [upd_ne hb]
              exact (w.out 0 b (by rw [hfp]; exact m)).2.2
        have R4 := R3.store (i := i)
        rw [List.set_set] at R4
        have e0 : σ.set i (some (.ref a)) = σ := by
          obtain ⟨hi, he⟩ := List.getElem?_eq_some_iff.mp q3
          rw [← he]; exact List.set_getElem_self hi
        rw [e0] at R4
        exact k σ _ F1 f1 (Pin.refl _ _) R4
    · cases q
  · cases q

/-! ### instances made, methods -/
variable {k n : Nat} {fa : Addr} {fd : FuncData} {ps : List Str} {rs : Sh} {m : List D → Option D} {mi : List D → Option (D × D)} {x : Str} {p : Pos} {es : List Expr} {apos : Pos}
abbrev shI : Sh := .obj fun _ => .z
def dMake (n : Nat) (C : Addr) (mi : List D → Option (D × D)) (ds : List D) : Option D := if ds.length + 1 = n then (match mi (.obj C [] [] :: ds) with
  | some (.non, d) => some d
  | _ => none) else none
theorem Rel.make {K : PySem.W.Frag} {G H F : Hp} {ρ : Sto} {σ : L2.St} {ds : List D} {vs : List V} {x dx : Addr} {g : Str → Sh} (R : Rel K G ρ σ H F) (r : RpL K F ds vs) (hx : H x = none) (hdx : H dx = none) (ne : dx ≠ x) :
    ∃ Gc, Rel K Gc (argS 0 (.obj g) (.obj C [] [] :: ds)) ((V.ref x :: vs).map some) (L2.upd (L2.upd H dx (.own x)) x (.ins C dx [])) F ∧
      ∀ v d' H' F', Same F F' → Rel K Gc [some (.z, .non), some (.obj g, d')] [v, some (.ref x)] H' F' → Rel K G (some (.obj g, d') :: ρ) (some (.ref x) :: σ) H' F' ∧ Same H H' := by
  have hx1 : L2.upd H dx (.own x) x = none := by rw [upd_ne ne.symm]; exact hx
  have R1 : Rel K G ρ σ (L2.upd H dx (.own x)) F := R.grow (Same.upd hdx)
  have R2 : Rel K G (some (.obj g, .obj C [] []) :: ρ) (some (.ref x) :: σ) (L2.upd (L2.upd H dx (.own x)) x (.ins C dx [])) F := R1.addNew hx1 ⟨x, dx, [], [], rfl, upd_same, ⟨rfl, rfl, rfl⟩, rfl⟩
  have ok : ArgOk K F 0 0 (some (.ref x) :: σ) (.obj C [] [] :: ds) (.ref x :: vs) := ⟨by simp [RpL.length r], fun i d v hi e1 e2 => by
    cases i with
    | zero => exact (hi rfl).elim
    | succ i => exact RpL.get2 r i d v (by simpa using e1) (by simpa using e2), .ref x, rfl, rfl⟩
  obtain ⟨Gc, fpj, vj, ev, ow, R3, back⟩ := R2.argsIO ok rfl rfl
  simp at ev; subst ev
  obtain ⟨a, dy, us, fp', ea, _, ho, hfp⟩ := ow
  cases ea
  obtain ⟨_, _, rfl⟩ := ho
  refine ⟨Gc, R3, fun v d' H' F' f R4 => ?_⟩
  obtain ⟨R5, kp⟩ := back _ v d' H' F' f R4
  refine ⟨R5.drop, fun b o q => kp b o (by rw [hfp]; simp; exact ne_of_none q hx) ?_⟩
  rw [upd_ne (ne_of_none q hx), upd_ne (ne_of_none q hdx)]
  exact q
def vMake (n : Nat) (C : Addr) (mi : List D → Option (D × D)) (fs : Sto → Option (List D)) : Sto → Option D := fun ρ => (fs ρ).bind (dMake n C mi)
def eMake (n : Nat) (C : Addr) (mi : List D → Option (D × D)) (fs : Sto → Option (List D × Sto)) : Sto → Option (D × Sto) := fun ρ => (fs ρ).bind fun x => (dMake n C mi x.1).map fun d => (d, x.2)
theorem dMake_some {ds : List D} {d : D} (h : dMake n C mi ds = some d) : ds.length + 1 = n ∧ mi (.obj C [] [] :: ds) = some (.non, d) := by
  unfold dMake at h
  split at h
  · rename_i hn
    split at h
    · rename_i d' q; cases h; exact ⟨hn, q⟩
    · cases h
  · cases h
theorem Rel.isNon {K : PySem.W.Frag} {G H F : Hp} {ρ : Sto} {σ : L2.St} {v : V} (R : Rel K G (some (.z, .non) :: ρ) (some v :: σ) H F) : v = .non := by
  obtain ⟨fp, r⟩ := R.get0
  simpa only [Rp] using r.1
theorem fp_make {fs : Sto → Option (List D)} {g : Str → Sh} (M : Mk X.K C fa) (Fn : FnOk X.prog X.w X.K X.mg X.base CX0 k fa fd ps (spIO X.K n 0 (.obj g) .z mi)) (hr : Room (k + 1) X.A) (hg : Gl X x) (hm : X.mg x = some (.ref C)) (hb : Binds X.K fd ps [])
    (ha : PAV X (e :: es) fs) (hdb : (x == ("__debug__" : Str)) = false := by decide) (he : starEach (e :: es) X.env = (false, eval e X.env) :: starEach es X.env := by rfl) (hpl : (backTo pos (starEach es X.env)).any (·.1) = false := by rfl) :
    FP X (.obj g) (.Call (.Name x p) (e :: es) [] pos) (vMake n C mi fs) := by
  refine pe_imp (pe_make M Fn hr hg hm hb .nil pass0 ha hdb he hpl) fun σ H Q ⟨G, ρ, F, d, q, R, kq⟩ => ?_
  unfold vMake at q
  obtain ⟨ds, q1, q⟩ := bind_some' q
  obtain ⟨hn, q2⟩ := dMake_some q
  refine ⟨G, ρ, F, ds, q1, R, fun vs H1 F1 f1 h1 R1 r1 y dy hy hdy ne => ?_⟩
  obtain ⟨Gc, R2, back⟩ := R1.make (g := g) (C := C) r1 hy hdy ne
  refine ⟨.obj C [] [] :: ds, F1, Gc, .non, d, by simpa using hn, q2, by rw [List.append_nil]; exact R2, fun v H2 F2 f2 R3 => ⟨R3.isNon, ?_⟩⟩
  obtain ⟨R4, h2⟩ := back _ d H2 F2 f2 R3
  exact kq _ H2 F2 (f1.trans f2) (h1.trans h2) R4
theorem ef_make {fs : Sto → Option (List D × Sto)} {g : Str → Sh} (M : Mk X.K C fa) (Fn : FnOk X.prog X.w X.K X.mg X.base CX0 k fa fd ps (spIO X.K n 0 (.obj g) .z mi)) (hr : Room (k + 1) X.A) (hg : Gl X x) (hm : X.mg x = some (.ref C)) (hb : Binds X.K fd ps [])
    (ha : EAV X (e :: es) fs) (hdb : (x == ("__debug__" : Str)) = false := by decide) (he : starEach (e :: es) X.env = (false, eval e X.env) :: starEach es X.env := by rfl) (hpl : (backTo pos (starEach es X.env)).any (·.1) = false := by rfl) :
    EF X (.obj g) (.Call (.Name x p) (e :: es) [] pos) (eMake n C mi fs) := by
  refine pe_imp (pe_make M Fn hr hg hm hb .nil pass0 ha hdb he hpl) fun σ H Q ⟨G, ρ, F, d, ρ', q, R, kq⟩ => ?_
  unfold eMake at q
  obtain ⟨⟨ds, ρ1⟩, q1, q⟩ := bind_some' q
  obtain ⟨d1, q3, q4⟩ := map_some' q
  cases q4
  obtain ⟨hn, q2⟩ := dMake_some q3
  refine ⟨G, ρ, F, ds, _, q1, R, fun vs H1 F1 f1 R1 r1 y dy hy hdy ne => ?_⟩
  obtain ⟨Gc, R2, back⟩ := R1.make (g := g) (C := C) r1 hy hdy ne
  refine ⟨.obj C [] [] :: ds, F1, Gc, .non, _, by simpa using hn, q2, by rw [List.append_nil]; exact R2, fun v H2 F2 f2 R3 => ⟨R3.isNon, ?_⟩⟩
  obtain ⟨R4, h2⟩ := back _ _ H2 F2 f2 R3
  exact kq _ H2 F2 (f1.trans f2) R4
/-- o.m(..), o a frozen instance -/
def vMeth (n : Nat) (C : Addr) (mn : Str) (m : List D → Option D) (fo : Sto → Option D) (fs : Sto → Option (List D)) : Sto → Option D := fun ρ => match fo ρ with
  | some (.obj C' ns ds) => if C' = C ∧ mn ∉ ns then (fs ρ).bind fun xs => if xs.length + 1 = n then m (.obj C' ns ds :: xs) else none else none
  | _ => none
theorem fp_meth {mn : Str} {fs : Sto → Option (List D)} {pl : Sem Bool} (he : PV X .z o fo) (c : Cls X.K C) (hm : Meth X.K C mn fa) (Fn : FnOk X.prog X.w X.K X.mg X.base CX0 k fa fd ps (spP X.K n rs m)) (hr : Room k X.A) (hb : Binds X.K fd ps [])
    (ha : PAV X (e :: es) fs) (hst : starEach (e :: es) X.env = (false, eval e X.env) :: starEach es X.env := by rfl) (hpl : (backTo pos (starEach es X.env)).any (·.1) = false := by rfl)
    (ht : eval (.Call (.Attribute o mn apos) (e :: es) [] pos) X.env = (do
      let ov ← eval o X.env
      standAt apos.atName
      let (f, first) ← holding [ov] (getMethod ov mn pl)
      callWith pos f first (backTo pos (starEach (e :: es) X.env)) (backToKw pos (keywordEach [] X.env))) := by rfl) :
    FP X rs (.Call (.Attribute o mn apos) (e :: es) [] pos) (vMeth n C mn m fo fs) := by
  refine pe_imp (pe_meth he c hm Fn hr hb .nil pass0 ha hst hpl ht) fun σ H Q ⟨G, ρ, F, d, q, R, kq⟩ => ?_
  unfold vMeth at q
  split at q
  · rename_i C' ns ds q1
    split at q
    · rename_i hh
      obtain ⟨hC, hns⟩ := hh
      obtain ⟨xs, q2, q⟩ := bind_some' q
      split at q
      · rename_i hl
        subst hC
        refine ⟨G, ρ, F, _, q1, R, fun v H1 F1 f1 h1 R1 ⟨fp, r1⟩ => ?_⟩
        have r2 := r1.1
        have r3 := r2
        simp only [Rp] at r3
        obtain ⟨a, dx, vs, rfl, ha', hl', hr'⟩ := r3
        refine ⟨a, dx, _, rfl, R1.sub _ _ ha', zip_none hns, G, ρ, F1, xs, q2, R1, fun us H2 F2 f2 h2 R2 r4 => ?_⟩
        refine ⟨.obj C' ns ds :: xs, F2, gP H2 F2, d, by simpa using hl, q, ?_, fun w H3 F3 f3 R3 => ?_⟩
        · rw [List.append_nil]
          exact R2.argsZ (RpL.cons (Rp.mono f2 _ _ r2) r4)
        · obtain ⟨R4, h3⟩ := R2.afterP f3 R3
          exact kq w H3 F3 (f1.trans (f2.trans f3)) (h1.trans (h2.trans h3)) R4
      · cases q
    · cases q
  · cases q
theorem fp_meth0 {mn : Str} {pl : Sem Bool} (he : PV X .z o fo) (c : Cls X.K C) (hm : Meth X.K C mn fa) (Fn : FnOk X.prog X.w X.K X.mg X.base CX0 k fa fd ps (spP X.K n rs m)) (hr : Room k X.A) (hb : Binds X.K fd ps [])
    (ht : eval (.Call (.Attribute o mn apos) [] [] pos) X.env = (do
      let ov ← eval o X.env
      standAt apos.atName
      let (f, first) ← holding [ov] (getMethod ov mn pl)
      callWith pos f first (backTo pos (starEach [] X.env)) (backToKw pos (keywordEach [] X.env))) := by rfl) :
    FP X rs (.Call (.Attribute o mn apos) [] [] pos) (vMeth n C mn m fo aNil) := by
  refine pe_imp (pe_meth0 he c hm Fn hr hb .nil pass0 ht) fun σ H Q ⟨G, ρ, F, d, q, R, kq⟩ => ?_
  unfold vMeth at q
  split at q
  · rename_i C' ns ds q1
    split at q
    · rename_i hh
      obtain ⟨hC, hns⟩ := hh
      obtain ⟨xs, q2, q⟩ := bind_some' q
      cases q2
      split at q
      · rename_i hl
        subst hC
        refine ⟨G, ρ, F, _, q1, R, fun v H1 F1 f1 h1 R1 ⟨fp, r1⟩ => ?_⟩
        have r2 := r1.1
        have r3 := r2
        simp only [Rp] at r3
        obtain ⟨a, dx, vs, rfl, ha', hl', hr'⟩ := r3
        refine ⟨a, dx, _, rfl, R1.sub _ _ ha', zip_none hns, ?_⟩
        refine ⟨[.obj C' ns ds], F1, gP H1 F1, d, by simpa using hl, q, ?_, fun w H3 F3 f3 R3 => ?_⟩
        · exact R1.argsZ (RpL.cons r2 RpL.nil)
        · obtain ⟨R4, h3⟩ := R1.afterP f3 R3
          exact kq w H3 F3 (f1.trans f3) (h1.trans h3) R4
      · cases q
    · cases q
  · cases q
end
end VL

set_option Elab.async false
set_option linter.all false
set_option maxRecDepth 100000
/-! VLi: built-ins and operators on data. -/
noncomputable section
namespace VL
open PySem PySem.Spec PyProof.Rows L2

def dInts : List D → Option (List Int)
  | [] => some []
  | .int i :: ds => (dInts ds).map fun r => i :: r
  | _ :: _ => none
def dBls : List D → Option (List Bool)
  | [] => some []
  | .bl i :: ds => (dBls ds).map fun r => i :: r
  | _ :: _ => none
theorem dInts_some : ∀ {ds : List D} {ns : List Int}, dInts ds = some ns → ds = ns.map D.int
  | [], ns, h => by cases h; rfl
  | d :: ds, ns, h => by
    cases d with
    | int i =>
      obtain ⟨r, h1, rfl⟩ := map_some' (show (dInts ds).map _ = some ns from h)
      rw [dInts_some h1]; rfl
    | _ => cases h
theorem dBls_some : ∀ {ds : List D} {ns : List Bool}, dBls ds = some ns → ds = ns.map D.bl
  | [], ns, h => by cases h; rfl
  | d :: ds, ns, h => by
    cases d with
    | bl i =>
      obtain ⟨r, h1, rfl⟩ := map_some' (show (dBls ds).map _ = some ns from h)
      rw [dBls_some h1]; rfl
    | _ => cases h
theorem dInts_map (ns : List Int) : dInts (ns.map D.int) = some ns := by
  induction ns with
  | nil => rfl
  | cons n ns ih => show (dInts (ns.map D.int)).map _ = _; rw [ih]; rfl
theorem dBls_map (ns : List Bool) : dBls (ns.map D.bl) = some ns := by
  induction ns with
  | nil => rfl
  | cons n ns ih => show (dBls (ns.map D.bl)).map _ = _; rw [ih]; rfl

section
variable {K : PySem.W.Frag} {G H F : Hp} {ρ : Sto} {σ : L2.St} {s : Sh} {v : V}
/-- whatever is told is read in the whole heap -/
theorem Ow.whole {d : D} (R : Rel K G ρ σ H F) (h : ∃ fp, Ow K H F s d v fp) : Rp K H d v := let ⟨_, q⟩ := h; q.rp R.sub fun _ _ _ e => e
theorem Rp.lst {ds : List D} (h : Rp K F (.lst ds) v) : ∃ a vs, v = .ref a ∧ SqL K F a vs ∧ RpL K F ds vs := by simpa only [Rp] using h
theorem Rp.tup {ds : List D} (h : Rp K F (.tup ds) v) : ∃ a vs, v = .ref a ∧ SqT K F a vs ∧ RpL K F ds vs := by simpa only [Rp] using h
theorem Rp.int {i : Int} (h : Rp K F (.int i) v) : v = .int i := by simpa only [Rp] using h
theorem Rp.bl {i : Bool} (h : Rp K F (.bl i) v) : v = .bl i := by simpa only [Rp] using h
theorem Rp.str {i : Str} (h : Rp K F (.str i) v) : v = .str i := by simpa only [Rp] using h
theorem Rp.non (h : Rp K F .non v) : v = .non := by simpa only [Rp] using h
theorem Rp.mkint {i : Int} : Rp K F (.int i) (.int i) := by simp only [Rp]
theorem Rp.mkbl {i : Bool} : Rp K F (.bl i) (.bl i) := by simp only [Rp]
theorem Rp.mkstr {i : Str} : Rp K F (.str i) (.str i) := by simp only [Rp]
/-- frozen, or an owned list of what is frozen -/
def flat1 : Sh → Bool
  | .z => true
  | .seq .z => true
  | _ => false
theorem Ow.elems {ds : List D} (hs : flat1 s = true) (e : Same F H) (h : ∃ fp, Ow K H F s (.lst ds) v fp) : ∃ a vs, v = .ref a ∧ SqL K H a vs ∧ RpL K F ds vs := by
  obtain ⟨fp, h⟩ := h
  cases s with
  | z =>
    obtain ⟨a, vs, rfl, h1, h2⟩ := h.1.lst
    exact ⟨a, vs, rfl, Same.seq e h1, h2⟩
  | seq s =>
    cases s with
    | z =>
      obtain ⟨a, vs, fp', rfl, ha, ho, _⟩ := h
      exact ⟨a, vs, rfl, SqL.of ha, (OwL.unz ho).1⟩
    | _ => cases hs
  | _ => cases hs
theorem Ow.tupz {ds : List D} (h : ∃ fp, Ow K H F s (.tup ds) v fp) : Rp K F (.tup ds) v := by
  obtain ⟨fp, h⟩ := h
  cases s with
  | z => exact h.1
  | seq s => exact h.1
  | obj g => exact h.1
end

/-! ### one argument -/
def CallD (K : PySem.W.Frag) (s : Sh) (r : List V → Hp → VK → Prop) (g : D → Option D) : Prop :=
  ∀ x d, g x = some d → ∀ G ρ σ H F v Q, Rel K G ρ σ H F → (∃ fp, Ow K H F s x v fp) →
    (∀ w H' F', Same F F' → Same H H' → Rel K G ρ σ H' F' → Rp K F' d w → Q w H') → r [v] H Q
def CallF (K : PySem.W.Frag) (s s' : Sh) (r : List V → Hp → VK → Prop) (g : D → Option D) : Prop :=
  ∀ x d, g x = some d → ∀ G ρ σ H F v Q, Rel K G ρ σ H F → (∃ fp, Ow K H F s x v fp) →
    (∀ w H' F', Same F F' → Same H H' → Rel K G (some (s', d) :: ρ) (some w :: σ) H' F' → Q w H') → r [v] H Q
section
variable {X : Cx} {e : Expr} {s s' : Sh} {f : Sto → Option D} {fe : Sto → Option (D × Sto)} {r : List V → Hp → VK → Prop} {g : D → Option D} {x : Str} {p pos : Pos} {id T : String}
theorem tCB_pv (hg : CallD X.K s r g) (σ : L2.St) (H : Hp) (Q : VK) (h : tP X.K .z (v1 g f) σ H Q) : tCB r (tCons (tP X.K s f) tNil) σ H Q := by
  obtain ⟨G, ρ, F, d, q, R, k⟩ := h
  obtain ⟨y, q1, q2⟩ := v1_some q
  exact ⟨G, ρ, F, y, q1, R, fun v H1 F1 f1 h1 R1 r1 => hg y d q2 G ρ σ H1 F1 v Q R1 r1 fun w H2 F2 f2 h2 R2 r2 => k w H2 F2 (f1.trans f2) (h1.trans h2) R2 ⟨[], r2, rfl⟩⟩
theorem tCB_fp (hg : CallF X.K s s' r g) (σ : L2.St) (H : Hp) (Q : VK) (h : tPF X.K s' (v1 g f) σ H Q) : tCB r (tCons (tP X.K s f) tNil) σ H Q := by
  obtain ⟨G, ρ, F, d, q, R, k⟩ := h
  obtain ⟨y, q1, q2⟩ := v1_some q
  exact ⟨G, ρ, F, y, q1, R, fun v H1 F1 f1 h1 R1 r1 => hg y d q2 G ρ σ H1 F1 v Q R1 r1 fun w H2 F2 f2 h2 R2 => k w H2 F2 (f1.trans f2) (h1.trans h2) R2⟩
theorem tCB_ev (hg : CallD X.K .z r g) (σ : L2.St) (H : Hp) (Q : VK) (h : tE X.K (e1 g fe) σ H Q) : tCB r (tCons (tE X.K fe) tNil) σ H Q := by
  obtain ⟨G, ρ, F, d, ρ', q, R, k⟩ := h
  obtain ⟨y, q1, q2⟩ := e1_some q
  exact ⟨G, ρ, F, y, ρ', q1, R, fun v H1 F1 f1 R1 r1 => hg y d q2 G ρ' σ H1 F1 v Q R1 ⟨[], r1, rfl⟩ fun w H2 F2 f2 h2 R2 r2 => k w H2 F2 (f1.trans f2) R2 r2⟩
theorem tCB_ef (hg : CallF X.K .z s' r g) (σ : L2.St) (H : Hp) (Q : VK) (h : tEF X.K s' (e1 g fe) σ H Q) : tCB r (tCons (tE X.K fe) tNil) σ H Q := by
  obtain ⟨G, ρ, F, d, ρ', q, R, k⟩ := h
  obtain ⟨y, q1, q2⟩ := e1_some q
  exact ⟨G, ρ, F, y, ρ', q1, R, fun v H1 F1 f1 R1 r1 => hg y d q2 G ρ' σ H1 F1 v Q R1 ⟨[], r1, rfl⟩ fun w H2 F2 f2 h2 R2 => k w H2 F2 (f1.trans f2) R2⟩
theorem pa1 {t : TE} (h : PE X e t) (hs : starEach (e :: []) X.env = (false, eval e X.env) :: starEach [] X.env) : PA X [e] (tCons t tNil) := pa_cons h pa_nil hs
section
variable (hG : Gl X x) (hm : X.mg x = none) (hn : x ≠ "__name__") (hdb : (x == ("__debug__" : Str)) = false) (he : starEach (e :: []) X.env = (false, eval e X.env) :: starEach [] X.env) (hpl : (backTo pos (starEach [] X.env)).any (·.1) = false)
include hG hm hn hdb he hpl
theorem pv_b1 (hc : CallR X (.builtin id) r) (hv : bootBuiltins x = some (.builtin id)) (hg : CallD X.K s r g) (ha : PV X s e f) : PV X .z (.Call (.Name x p) [e] [] pos) (v1 g f) := pe_imp (pe_callB hc hG hm hv (pa1 ha he) hn hdb he hpl) (tCB_pv hg)
theorem fp_b1 (hc : CallR X (.builtin id) r) (hv : bootBuiltins x = some (.builtin id)) (hg : CallF X.K s s' r g) (ha : PV X s e f) : FP X s' (.Call (.Name x p) [e] [] pos) (v1 g f) := pe_imp (pe_callB hc hG hm hv (pa1 ha he) hn hdb he hpl) (tCB_fp hg)
theorem ev_b1 (hc : CallR X (.builtin id) r) (hv : bootBuiltins x = some (.builtin id)) (hg : CallD X.K .z r g) (ha : EV X e fe) : EV X (.Call (.Name x p) [e] [] pos) (e1 g fe) := pe_imp (pe_callB hc hG hm hv (pa1 ha he) hn hdb he hpl) (tCB_ev hg)
theorem ef_b1 (hc : CallR X (.builtin id) r) (hv : bootBuiltins x = some (.builtin id)) (hg : CallF X.K .z s' r g) (ha : EV X e fe) : EF X s' (.Call (.Name x p) [e] [] pos) (e1 g fe) := pe_imp (pe_callB hc hG hm hv (pa1 ha he) hn hdb he hpl) (tCB_ef hg)
theorem pv_t1 (hc : CallR X (.type T) r) (hv : bootBuiltins x = some (.type T)) (hg : CallD X.K s r g) (ha : PV X s e f) : PV X .z (.Call (.Name x p) [e] [] pos) (v1 g f) := pe_imp (pe_callTy hc hG hm hv (pa1 ha he) hn hdb he hpl) (tCB_pv hg)
theorem fp_t1 (hc : CallR X (.type T) r) (hv : bootBuiltins x = some (.type T)) (hg : CallF X.K s s' r g) (ha : PV X s e f) : FP X s' (.Call (.Name x p) [e] [] pos) (v1 g f) := pe_imp (pe_callTy hc hG hm hv (pa1 ha he) hn hdb he hpl) (tCB_fp hg)
theorem ev_t1 (hc : CallR X (.type T) r) (hv : bootBuiltins x = some (.type T)) (hg : CallD X.K .z r g) (ha : EV X e fe) : EV X (.Call (.Name x p) [e] [] pos) (e1 g fe) := pe_imp (pe_callTy hc hG hm hv (pa1 ha he) hn hdb he hpl) (tCB_ev hg)
theorem ef_t1 (hc : CallR X (.type T) r) (hv : bootBuiltins x = some (.type T)) (hg : CallF X.K .z s' r g) (ha : EV X e fe) : EF X s' (.Call (.Name x p) [e] [] pos) (e1 g fe) := pe_imp (pe_callTy hc hG hm hv (pa1 ha he) hn hdb he hpl) (tCB_ef hg)
end
end

/-! ### what the built-ins give -/
section
variable {K : PySem.W.Frag} {s : Sh}
def dLen : D → Option D
  | .lst ds => some (.int ds.length)
  | .tup ds => some (.int ds.length)
  | _ => none
def rLen (K : PySem.W.Frag) : List V → Hp → VK → Prop := fun xs H Q => ∃ p ys, xs = [.ref p] ∧ (SqL K H p ys ∨ SqT K H p ys) ∧ Q (.int ys.length) H
theorem cd_len : CallD K s (rLen K) dLen := by
  intro x d q G ρ σ H F v Q R h k
  have h2 := Ow.whole R h
  cases x <;> simp only [dLen] at q <;> cases q
  · obtain ⟨a, vs, rfl, h3, h4⟩ := h2.tup
    refine ⟨a, vs, rfl, .inr h3, ?_⟩
    rw [← RpL.length h4]
    exact k _ H F (Same.refl _) (Same.refl _) R Rp.mkint
  · obtain ⟨a, vs, rfl, h3, h4⟩ := h2.lst
    refine ⟨a, vs, rfl, .inl h3, ?_⟩
    rw [← RpL.length h4]
    exact k _ H F (Same.refl _) (Same.refl _) R Rp.mkint
def dSum : D → Option D
  | .lst ds => (dInts ds).map fun ns => .int ns.sum
  | _ => none
theorem cd_sum : CallD K s (rSum K) dSum := by
  intro x d q G ρ σ H F v Q R h k
  cases x <;> simp only [dSum] at q <;> try cases q
  obtain ⟨ns, q1, rfl⟩ := map_some' q
  obtain ⟨a, vs, rfl, h3, h4⟩ := (Ow.whole R h).lst
  rw [dInts_some q1] at h4
  rw [RpL.ints_inv h4] at h3
  exact ⟨a, ns, rfl, h3, k _ H F (Same.refl _) (Same.refl _) R Rp.mkint⟩
def dAll : D → Option D
  | .lst ds => (dBls ds).map fun ns => .bl (ns.all id)
  | _ => none
def dAny : D → Option D
  | .lst ds => (dBls ds).map fun ns => .bl (ns.any id)
  | _ => none
theorem cd_all : CallD K s (rAll K) dAll := by
  intro x d q G ρ σ H F v Q R h k
  cases x <;> simp only [dAll] at q <;> try cases q
  obtain ⟨ns, q1, rfl⟩ := map_some' q
  obtain ⟨a, vs, rfl, h3, h4⟩ := (Ow.whole R h).lst
  rw [dBls_some q1] at h4
  rw [RpL.bls_inv h4] at h3
  exact ⟨a, ns, rfl, h3, k _ H F (Same.refl _) (Same.refl _) R Rp.mkbl⟩
theorem cd_any : CallD K s (rAny K) dAny := by
  intro x d q G ρ σ H F v Q R h k
  cases x <;> simp only [dAny] at q <;> try cases q
  obtain ⟨ns, q1, rfl⟩ := map_some' q
  obtain ⟨a, vs, rfl, h3, h4⟩ := (Ow.whole R h).lst
  rw [dBls_some q1] at h4
  rw [RpL.bls_inv h4] at h3
  exact ⟨a, ns, rfl, h3, k _ H F (Same.refl _) (Same.refl _) R Rp.mkbl⟩
def rTuple (K : PySem.W.Frag) : List V → Hp → VK → Prop := fun xs H Q => ∃ p ys, xs = [.ref p] ∧ ((SqL K H p ys ∧ ∀ l, H l = none → Q (.ref l) (L2.upd H l (.tup ys))) ∨ (SqT K H p ys ∧ Q (.ref p) H))
def dTuple : D → Option D
  | .lst ds => some (.tup ds)
  | .tup ds => some (.tup ds)
  | _ => none
theorem cd_tuple (hs : flat1 s = true) : CallD K s (rTuple K) dTuple := by
  intro x d q G ρ σ H F v Q R h k
  cases x <;> simp only [dTuple] at q <;> cases q
  · have h2 := Ow.tupz h
    have h5 := h2
    obtain ⟨a, vs, rfl, h3, h4⟩ := h2.tup
    exact ⟨a, vs, rfl, .inr ⟨Same.tupT R.sub h3, k _ H F (Same.refl _) (Same.refl _) R h5⟩⟩
  · obtain ⟨a, vs, rfl, h3, h4⟩ := Ow.elems hs R.sub h
    refine ⟨a, vs, rfl, .inl ⟨h3, fun l hl => ?_⟩⟩
    obtain ⟨R2, f2, h6, r2⟩ := R.putTup h4 hl
    exact k _ _ _ f2 h6 R2 r2
def rList (K : PySem.W.Frag) : List V → Hp → VK → Prop := fun xs H Q => ∃ p ys, xs = [.ref p] ∧ (SqL K H p ys ∨ SqT K H p ys) ∧ ∀ l, H l = none → Q (.ref l) (L2.upd H l (.lst ys))
def dList : D → Option D
  | .lst ds => some (.lst ds)
  | .tup ds => some (.lst ds)
  | _ => none
theorem cf_list (hs : flat1 s = true) : CallF K s (.seq .z) (rList K) dList := by
  intro x d q G ρ σ H F v Q R h k
  cases x <;> simp only [dList] at q <;> cases q
  · obtain ⟨a, vs, rfl, h3, h4⟩ := (Ow.tupz h).tup
    exact ⟨a, vs, rfl, .inr (Same.tupT R.sub h3), fun l hl => k _ _ F (Same.refl _) (Same.upd hl) (R.addLst h4 hl)⟩
  · obtain ⟨a, vs, rfl, h3, h4⟩ := Ow.elems hs R.sub h
    exact ⟨a, vs, rfl, .inl h3, fun l hl => k _ _ F (Same.refl _) (Same.upd hl) (R.addLst h4 hl)⟩
/-- the ints in order -/
def isort (ns : List Int) : List Int := ns.mergeSort fun a b => decide (a ≤ b)
theorem isort_perm (ns : List Int) : (isort ns).Perm ns := List.mergeSort_perm _ _
theorem isort_le (ns : List Int) : (isort ns).Pairwise (· ≤ ·) := by
  have := List.pairwise_mergeSort (le := fun a b : Int => decide (a ≤ b)) (fun a b c h1 h2 => by simp at *; omega) (fun a b => by simp; omega) ns
  exact this.imp fun h => by simpa using h
theorem isort_of {ns ms : List Int} (h : ms.Perm ns) (hs : ms.Pairwise (· ≤ ·)) : ms = isort ns :=
  List.Perm.eq_of_pairwise (fun x y _ _ h1 h2 => Int.le_antisymm h1 h2) hs (isort_le ns) (h.trans (isort_perm ns).symm)
def dSorted : D → Option D
  | .lst ds => (dInts ds).map fun ns => .lst ((isort ns).map .int)
  | _ => none
theorem cf_sorted : CallF K s (.seq .z) (rSortedI K) dSorted := by
  intro x d q G ρ σ H F v Q R h k
  cases x <;> simp only [dSorted] at q <;> try cases q
  obtain ⟨ns, q1, rfl⟩ := map_some' q
  obtain ⟨a, vs, rfl, h3, h4⟩ := (Ow.whole R h).lst
  rw [dInts_some q1] at h4
  rw [RpL.ints_inv h4] at h3
  refine ⟨a, ns, rfl, h3, fun ns' l hp hs hl => ?_⟩
  rw [isort_of hp hs]
  exact k _ _ F (Same.refl _) (Same.upd hl) (R.addLst (RpL.ints _) hl)
def rIntC : List V → Hp → VK → Prop := fun xs H Q => (∃ i, xs = [.int i] ∧ Q (.int i) H) ∨ ∃ k, xs = [.bl k] ∧ Q (.int (if k then 1 else 0)) H
def dInt : D → Option D
  | .int i => some (.int i)
  | .bl b => some (.int (if b then 1 else 0))
  | _ => none
theorem cd_int : CallD K .z rIntC dInt := by
  intro x d q G ρ σ H F v Q R h k
  obtain ⟨fp, h, _⟩ := h
  cases x <;> simp only [dInt] at q <;> cases q
  · rw [Rp.bl h]; exact .inr ⟨_, rfl, k _ H F (Same.refl _) (Same.refl _) R Rp.mkint⟩
  · rw [Rp.int h]; exact .inl ⟨_, rfl, k _ H F (Same.refl _) (Same.refl _) R Rp.mkint⟩
def rAbs : List V → Hp → VK → Prop := fun xs H Q => ∃ i, xs = [.int i] ∧ Q (.int (if i < 0 then -i else i)) H
def dAbs : D → Option D
  | .int i => some (.int (if i < 0 then -i else i))
  | _ => none
theorem cd_abs : CallD K .z rAbs dAbs := by
  intro x d q G ρ σ H F v Q R h k
  obtain ⟨fp, h, _⟩ := h
  cases x <;> simp only [dAbs] at q <;> cases q
  rw [Rp.int h]; exact ⟨_, rfl, k _ H F (Same.refl _) (Same.refl _) R Rp.mkint⟩
/-- the greatest, the least of ints -/
def imax : List Int → Option Int
  | [] => none
  | n :: ns => some (ns.foldl max n)
def imin : List Int → Option Int
  | [] => none
  | n :: ns => some (ns.foldl min n)
theorem foldl_max : ∀ (ns : List Int) (n : Int), ns.foldl max n ∈ n :: ns ∧ ∀ y ∈ n :: ns, y ≤ ns.foldl max n
  | [], n => by simp
  | m :: ns, n => by
    obtain ⟨h1, h2⟩ := foldl_max ns (max n m)
    refine ⟨?_, fun y hy => ?_⟩
    · rcases List.mem_cons.mp h1 with e | e
      · show ns.foldl max (max n m) ∈ _
        rw [e]
        rcases Int.le_total n m with z | z
        · rw [Int.max_eq_right z]; simp
        · rw [Int.max_eq_left z]; simp
      · exact List.mem_cons_of_mem _ (List.mem_cons_of_mem _ e)
    · have h3 := h2 (max n m) List.mem_cons_self
      rcases List.mem_cons.mp hy with rfl | hy
      · exact Int.le_trans (Int.le_max_left _ _) h3
      · rcases List.mem_cons.mp hy with rfl | hy
        · exact Int.le_trans (Int.le_max_right _ _) h3
        · exact h2 y (List.mem_cons_of_mem _ hy)
theorem foldl_min : ∀ (ns : List Int) (n : Int), ns.foldl min n ∈ n :: ns ∧ ∀ y ∈ n :: ns, ns.foldl min n ≤ y
  | [], n => by simp
  | m :: ns, n => by
    obtain ⟨h1, h2⟩ := foldl_min ns (min n m)
    refine ⟨?_, fun y hy => ?_⟩
    · rcases List.mem_cons.mp h1 with e | e
      · show ns.foldl min (min n m) ∈ _
        rw [e]
        rcases Int.le_total n m with z | z
        · rw [Int.min_eq_left z]; simp
        · rw [Int.min_eq_right z]; simp
      · exact List.mem_cons_of_mem _ (List.mem_cons_of_mem _ e)
    · have h3 := h2 (min n m) List.mem_cons_self
      rcases List.mem_cons.mp hy with rfl | hy
      · exact Int.le_trans h3 (Int.min_le_left _ _)
      · rcases List.mem_cons.mp hy with rfl | hy
        · exact Int.le_trans h3 (Int.min_le_right _ _)
        · exact h2 y (List.mem_cons_of_mem _ hy)
def dMax : D → Option D
  | .lst ds => (dInts ds).bind fun ns => (imax ns).map .int
  | _ => none
def dMin : D → Option D
  | .lst ds => (dInts ds).bind fun ns => (imin ns).map .int
  | _ => none
theorem cd_max : CallD K s (rMax K) dMax := by
  intro x d q G ρ σ H F v Q R h k
  cases x <;> simp only [dMax] at q <;> try cases q
  obtain ⟨ns, q1, q⟩ := bind_some' q
  obtain ⟨m, q2, rfl⟩ := map_some' q
  obtain ⟨a, vs, rfl, h3, h4⟩ := (Ow.whole R h).lst
  rw [dInts_some q1] at h4
  rw [RpL.ints_inv h4] at h3
  cases ns with
  | nil => cases q2
  | cons n ns =>
    cases q2
    obtain ⟨e1, e2⟩ := foldl_max ns n
    refine ⟨a, n :: ns, rfl, h3, by simp, fun m hm hle => ?_⟩
    have : m = ns.foldl max n := Int.le_antisymm (e2 m hm) (hle _ e1)
    rw [this]
    exact k _ H F (Same.refl _) (Same.refl _) R Rp.mkint
theorem cd_min : CallD K s (rMin K) dMin := by
  intro x d q G ρ σ H F v Q R h k
  cases x <;> simp only [dMin] at q <;> try cases q
  obtain ⟨ns, q1, q⟩ := bind_some' q
  obtain ⟨m, q2, rfl⟩ := map_some' q
  obtain ⟨a, vs, rfl, h3, h4⟩ := (Ow.whole R h).lst
  rw [dInts_some q1] at h4
  rw [RpL.ints_inv h4] at h3
  cases ns with
  | nil => cases q2
  | cons n ns =>
    cases q2
    obtain ⟨e1, e2⟩ := foldl_min ns n
    refine ⟨a, n :: ns, rfl, h3, by simp, fun m hm hle => ?_⟩
    have : m = ns.foldl min n := Int.le_antisymm (hle _ e1) (e2 m hm)
    rw [this]
    exact k _ H F (Same.refl _) (Same.refl _) R Rp.mkint
/-- the int keys of a dict, in order -/
def keyInts : List Key → Option (List Int)
  | [] => some []
  | .inl i :: ks => (keyInts ks).map fun r => i :: r
  | .inr _ :: _ => none
theorem keyInts_some : ∀ {ks : List Key} {ns : List Int}, keyInts ks = some ns → ks = ns.map Sum.inl
  | [], ns, h => by cases h; rfl
  | .inl i :: ks, ns, h => by
    obtain ⟨r, h1, rfl⟩ := map_some' (show (keyInts ks).map _ = some ns from h)
    rw [keyInts_some h1]; rfl
  | .inr _ :: _, ns, h => by cases h
def dSortedDK : D → Option D
  | .dicK ks ds => (keyInts ks).bind fun ns => if ns.length < 64 then some (.lst ((isort ns).map .int)) else none
  | _ => none
def rSortedDI : List V → Hp → VK → Prop := fun xs H Q => ∃ (a : Addr) (kvs : List (Key × V)) (ks : List Int), xs = [.ref a] ∧ Rd H a (.dK kvs) ∧ kvs.map (·.1) = ks.map Sum.inl ∧ ks.length < 64 ∧
  ∀ (ys : List Int) (p : Addr), ys.Perm ks → ys.Pairwise (· ≤ ·) → H p = none → Q (.ref p) (L2.upd H p (.lst (ys.map V.int)))
theorem cf_sortedDK : CallF K s (.seq .z) rSortedDI dSortedDK := by
  intro x d q G ρ σ H F v Q R h k
  cases x <;> simp only [dSortedDK] at q <;> try cases q
  obtain ⟨ns, q1, q⟩ := bind_some' q
  split at q
  · rename_i hl
    cases q
    have h2 := Ow.whole R h
    simp only [Rp] at h2
    obtain ⟨a, vs, rfl, h3, h5, h4⟩ := h2
    have e1 := RpL.length h4
    refine ⟨a, _, ns, rfl, h3, ?_, hl, fun ys l hp hs hl => ?_⟩
    · rw [List.map_fst_zip (by omega)]
      exact keyInts_some q1
    · rw [isort_of hp hs]
      exact k _ _ F (Same.refl _) (Same.upd hl) (R.addLst (RpL.ints _) hl)
  · cases q
end

/-! ### operators -/
section
variable {K : PySem.W.Frag} {s1 s2 : Sh}
def dII (k : Int → Int → D) : D → D → Option D
  | .int i, .int j => some (k i j)
  | _, _ => none
def dIIc (C : Int → Int → Bool) (k : Int → Int → D) : D → D → Option D
  | .int i, .int j => if C i j then some (k i j) else none
  | _, _ => none
theorem Ow.int {H F : Hp} {s : Sh} {i : Int} {v : V} (h : ∃ fp, Ow K H F s (.int i) v fp) : v = .int i := let ⟨_, q⟩ := h; Rp.int (q.sc rfl)
theorem od_II {h : Int → Int → V} {k : Int → Int → D} (hk : ∀ i j F, Rp K F (k i j) (h i j)) : OpD K s1 s2 (rI0 h) (dII k) := by
  intro x y d q G ρ σ H F v u Q R hx hy kk
  cases x <;> cases y <;> simp only [dII] at q <;> cases q
  exact ⟨_, _, Ow.int hx, Ow.int hy, kk _ H F (Same.refl _) (Same.refl _) R (hk _ _ F)⟩
theorem od_IIc {P : Int → Int → Prop} {C : Int → Int → Bool} {h : Int → Int → V} {k : Int → Int → D} (hC : ∀ i j, C i j = true → P i j) (hk : ∀ i j F, Rp K F (k i j) (h i j)) : OpD K s1 s2 (rI P h) (dIIc C k) := by
  intro x y d q G ρ σ H F v u Q R hx hy kk
  cases x <;> cases y <;> simp only [dIIc] at q <;> try cases q
  split at q
  · cases q
    exact ⟨_, _, Ow.int hx, Ow.int hy, hC _ _ ‹_›, kk _ H F (Same.refl _) (Same.refl _) R (hk _ _ F)⟩
  · cases q
def dElse (g g' : D → D → Option D) : D → D → Option D := fun x y => match g x y with
  | some d => some d
  | none => g' x y
theorem od_or {r r' : R2} {g g' : D → D → Option D} (h : OpD K s1 s2 r g) (h' : OpD K s1 s2 r' g') : OpD K s1 s2 (fun x y H Q => r x y H Q ∨ r' x y H Q) (dElse g g') := by
  intro x y d q G ρ σ H F v u Q R hx hy kk
  unfold dElse at q
  cases q1 : g x y with
  | some e => rw [q1] at q; cases q; exact .inl (h x y _ q1 G ρ σ H F v u Q R hx hy kk)
  | none => rw [q1] at q; exact .inr (h' x y d q G ρ σ H F v u Q R hx hy kk)
abbrev dSub := dII fun i j => .int (i - j)
abbrev dAddI := dII fun i j => .int (i + j)
abbrev dAnd := dII fun i j => .int (Builtin.bitAnd i j)
abbrev dOr := dII fun i j => .int (Builtin.bitOr i j)
abbrev dXor := dII fun i j => .int (Builtin.bitXor i j)
def bMul (i j : Int) : Bool := decide (-18446744073709551616 < i ∧ i < 18446744073709551616) || decide (-18446744073709551616 < j ∧ j < 18446744073709551616)
abbrev dMulI := dIIc bMul fun i j => .int (i * j)
def bDiv (i j : Int) : Bool := decide (j ≠ 0 ∧ j.natAbs < 1073741824)
abbrev dFdiv := dIIc bDiv fun i j => .int (i.fdiv j)
def bMod (i j : Int) : Bool := decide (j ≠ 0)
abbrev dMod := dIIc bMod fun i j => .int (i.fmod j)
def bPow (i j : Int) : Bool := decide (0 ≤ j ∧ j ≤ 1000000 ∧ i.natAbs < 18446744073709551616)
abbrev dShl := dIIc bPow fun i j => .int (i * 2 ^ j.toNat)
abbrev dPow := dIIc bPow fun i j => .int (i ^ j.toNat)
def bShr (i j : Int) : Bool := decide (0 ≤ j)
abbrev dShr := dIIc bShr fun i j => .int (i / 2 ^ j.toNat)
abbrev dLt := dII fun i j => .bl (decide (i < j))
abbrev dLe := dII fun i j => .bl (decide (i ≤ j))
abbrev dGt := dII fun i j => .bl (decide (j < i))
abbrev dGe := dII fun i j => .bl (decide (j ≤ i))
theorem od_addI : OpD K s1 s2 (rI0 fun i j => .int (i + j)) dAddI := od_II fun _ _ _ => Rp.mkint
theorem od_sub : OpD K s1 s2 (rI0 fun i j => .int (i - j)) dSub := od_II fun _ _ _ => Rp.mkint
theorem od_and : OpD K s1 s2 (rI0 fun i j => .int (Builtin.bitAnd i j)) dAnd := od_II fun _ _ _ => Rp.mkint
theorem od_orI : OpD K s1 s2 (rI0 fun i j => .int (Builtin.bitOr i j)) dOr := od_II fun _ _ _ => Rp.mkint
theorem od_xor : OpD K s1 s2 (rI0 fun i j => .int (Builtin.bitXor i j)) dXor := od_II fun _ _ _ => Rp.mkint
theorem od_mulI : OpD K s1 s2 (rI CMul fun i j => .int (i * j)) dMulI := od_IIc (fun i j h => by
  simp only [bMul, Bool.or_eq_true, decide_eq_true_eq] at h
  exact h.imp (fun z => ⟨by omega, by omega⟩) fun z => ⟨by omega, by omega⟩) fun _ _ _ => Rp.mkint
theorem od_fdiv : OpD K s1 s2 (rI CDivN fun i j => .int (i.fdiv j)) dFdiv := od_IIc (fun i j h => by
  simp only [bDiv, decide_eq_true_eq] at h; exact h) fun _ _ _ => Rp.mkint
theorem od_mod : OpD K s1 s2 (rI (fun _ j => j ≠ 0) fun i j => .int (i.fmod j)) dMod := od_IIc (fun i j h => of_decide_eq_true h) fun _ _ _ => Rp.mkint
theorem od_shl : OpD K s1 s2 (rI CPow fun i j => .int (i * 2 ^ j.toNat)) dShl := od_IIc (fun i j h => by
  simp only [bPow, decide_eq_true_eq] at h; exact h) fun _ _ _ => Rp.mkint
theorem od_pow : OpD K s1 s2 (rI CPow fun i j => .int (i ^ j.toNat)) dPow := od_IIc (fun i j h => by
  simp only [bPow, decide_eq_true_eq] at h; exact h) fun _ _ _ => Rp.mkint
theorem od_shr : OpD K s1 s2 (rI (fun _ j => 0 ≤ j) fun i j => .int (i / 2 ^ j.toNat)) dShr := od_IIc (fun i j h => of_decide_eq_true h) fun _ _ _ => Rp.mkint
theorem od_lt : OpD K s1 s2 (rI0 fun i j => .bl (decide (i < j))) dLt := od_II fun _ _ _ => Rp.mkbl
theorem od_le : OpD K s1 s2 (rI0 fun i j => .bl (decide (i ≤ j))) dLe := od_II fun _ _ _ => Rp.mkbl
theorem od_gt : OpD K s1 s2 (rI0 fun i j => .bl (decide (j < i))) dGt := od_II fun _ _ _ => Rp.mkbl
theorem od_ge : OpD K s1 s2 (rI0 fun i j => .bl (decide (j ≤ i))) dGe := od_II fun _ _ _ => Rp.mkbl
/-- an item of a list, a tuple -/
def dIx : D → D → Option D
  | .lst ds, .int k => (ixN ds.length k).bind fun j => ds[j]?
  | .tup ds, .int k => (ixN ds.length k).bind fun j => ds[j]?
  | _, _ => none
theorem od_ix (hs : flat1 s1 = true) : OpD K s1 s2 (rIx K) dIx := by
  intro x y d q G ρ σ H F v u Q R hx hy kk
  cases x <;> cases y <;> simp only [dIx] at q <;> try cases q
  · obtain ⟨j, q1, q2⟩ := bind_some' q
    obtain ⟨a, vs, rfl, h3, h4⟩ := (Ow.tupz hx).tup
    obtain ⟨w, e1, e2⟩ := RpL.get h4 q2
    refine .inr (.inl ⟨a, vs, _, w, rfl, Ow.int hy, Same.tupT R.sub h3, ?_, kk _ H F (Same.refl _) (Same.refl _) R e2⟩)
    unfold atI
    rw [← RpL.length h4, q1]; exact e1
  · obtain ⟨j, q1, q2⟩ := bind_some' q
    obtain ⟨a, vs, rfl, h3, h4⟩ := Ow.elems hs R.sub hx
    obtain ⟨w, e1, e2⟩ := RpL.get h4 q2
    refine .inl ⟨a, vs, _, w, rfl, Ow.int hy, h3, ?_, kk _ H F (Same.refl _) (Same.refl _) R e2⟩
    unfold atI
    rw [← RpL.length h4, q1]; exact e1
/-- tuples, lists joined (the list frozen) -/
def dCatT : D → D → Option D
  | .tup xs, .tup ys => if xs.length + ys.length ≤ 1000000 then some (.tup (xs ++ ys)) else none
  | _, _ => none
theorem od_catT : OpD K s1 s2 (rCatA K) dCatT := by
  intro x y d q G ρ σ H F v u Q R hx hy kk
  cases x <;> cases y <;> simp only [dCatT] at q <;> try cases q
  split at q
  · rename_i hl
    cases q
    have rx := Ow.tupz hx
    have ry := Ow.tupz hy
    obtain ⟨a, vs, rfl, h3, h4⟩ := rx.tup
    obtain ⟨b, us, rfl, h5, h6⟩ := ry.tup
    have l1 := RpL.length h4
    have l2 := RpL.length h6
    refine ⟨a, b, vs, us, rfl, rfl, Same.tupT R.sub h3, Same.tupT R.sub h5, by rw [← l1, ← l2]; exact mill_line hl, fun e => ?_, fun _ e => ?_, fun _ _ p hp => ?_⟩
    · rw [e] at l1
      have e2 := List.length_eq_zero_iff.mp l1
      rw [e2] at kk
      exact kk _ H F (Same.refl _) (Same.refl _) R ry
    · rw [e] at l2
      have e2 := List.length_eq_zero_iff.mp l2
      rw [e2, List.append_nil] at kk
      exact kk _ H F (Same.refl _) (Same.refl _) R rx
    · obtain ⟨R2, f2, h7, r2⟩ := R.putTup (h4.append h6) hp
      exact kk _ _ _ f2 h7 R2 r2
  · cases q
/-- xs * k, a new list -/
def dRep : D → D → Option D
  | .lst xs, .int k => if 0 ≤ k ∧ k ≤ 100000 ∧ xs.length ≤ 10 then some (.lst (List.replicate k.toNat xs).flatten) else none
  | _, _ => none
theorem RpL.rep {F : Hp} {ds : List D} {vs : List V} (h : RpL K F ds vs) : ∀ n : Nat, RpL K F (List.replicate n ds).flatten (List.replicate n vs).flatten
  | 0 => RpL.nil
  | n + 1 => by
    rw [List.replicate_succ, List.replicate_succ, List.flatten_cons, List.flatten_cons]
    exact h.append (RpL.rep h n)
theorem of_rep : OpF K (.seq .z) .z (.seq .z) rRep dRep := by
  intro x y d q G ρ σ H F v u Q R hx hy kk
  cases x <;> cases y <;> simp only [dRep] at q <;> try cases q
  split at q
  · rename_i hl
    cases q
    obtain ⟨fp, a, vs, fp', rfl, ha, ho, _⟩ := hx
    have h4 := (OwL.unz ho).1
    have l1 := RpL.length h4
    refine ⟨a, _, vs, rfl, Ow.int hy, ha, by omega, by omega, ?_, fun p hp => kk _ _ F (Same.refl _) (Same.upd hp) (R.addLst (h4.rep _) hp)⟩
    rw [sizeLine_eq, ← l1]
    exact Nat.le_trans (Nat.mul_le_mul hl.2.2 (show _ ≤ 100000 by omega)) (by decide)
  · cases q
end
end VL

set_option Elab.async false
set_option linter.all false
set_option maxRecDepth 100000
/-! VLj: enumerate of a list or a tuple. -/
noncomputable section
namespace VL
open PySem PySem.Spec PyProof.Rows L2

set_option maxHeartbeats 1000000 in
/-- enumerate(v), v told by how its walk begins -/
theorem meets_en1 {v : Value} {o : Obj} {Hb : Heap → Prop} (B : Begins v o Hb) :
    Meets (Builtin.«enumerate.__new__» ⟨[.type "enumerate", v], []⟩) (fun _ R s => Hb s.heap ∧ R (.ok (.ret (.ref (s.heap.push o).objs.size))) { s with heap := (s.heap.push o).push { cls := .type "enumerate", data := .fields #[.none, .bool false, .ref s.heap.objs.size, rawInt 0, .none, .none] } }) :=
  .of_wp fun pr wd A R s hh => by
    obtain ⟨hp, ge, dr, tk, os⟩ := s
    obtain ⟨b1, hh⟩ := hh
    have sb := sub_enumerate
    have go : ∀ {A2 : Around} {E2 : Value → Shared → Prop} {Q2 : Value → Shared → Prop}, Q2 (.ref hp.objs.size) ⟨hp.push o, ge, dr, tk, os⟩ → wpAny (model pr wd) A2 (pyIter v) Q2 E2 ⟨hp, ge, dr, tk, os⟩ :=
      fun z => B.iter pr wd _ _ ⟨hp, ge, dr, tk, os⟩ _ b1 z
    wp_walk using go
    refine wpAny_stack_any fun _ => wpAny_pure ?_
    split
    · rename_i cl _ _ _ _ _
      cases (cl == Value.type "enumerate") <;> (wp_walk using go; exact ⟨_, rfl, hh⟩)
    · wp_walk using go
      exact ⟨_, rfl, hh⟩
theorem en_begins {pr : Program} {wd : World} {A : Around} {E : Value → Shared → Prop} {s : Shared} {v : Value} {o : Obj} {Hb : Heap → Prop} {Q : Value → Shared → Prop} (B : Begins v o Hb) (b1 : Hb s.heap)
    (kk : ∀ h2, IsEnum h2 (s.heap.objs.size + 1) s.heap.objs.size 0 .none → h2.get? s.heap.objs.size = some o → (∀ b u, s.heap.get? b = some u → h2.get? b = some u) → Q (.ref (s.heap.objs.size + 1)) { s with heap := h2 }) :
    wpAny (model pr wd) A (call (.type "enumerate") [v]) Q E s := by
  refine callType_new F.called_enumerate (by decide) (F.typeCall_enumerate_1 _) (F.newCall_enumerate_1 _) (fun ob => F.args_object_init_2 ob _) F.entry_enumerate_new (meets_en1 B) ⟨b1, ?_⟩
  have sz : (s.heap.push o).objs.size = s.heap.objs.size + 1 := Heap.size_push ..
  have it := Heap.get?_push_size (s.heap.push o) (o := { cls := .type "enumerate", data := .fields #[.none, .bool false, .ref s.heap.objs.size, rawInt 0, .none, .none] }) rfl
  show _ ∧ _
  rw [sz] at it ⊢
  exact ⟨⟨_, it, rfl⟩, kk _ it (Heap.get?_push_of_some _ (Heap.get?_push_size _ B.free)) fun b u z => Heap.get?_push_of_some _ (Heap.get?_push_of_some _ z)⟩
/-- the tuple at a, each item in a new pair -/
def IteT (K : PySem.W.Frag) (a : Addr) : It where
  go := fun i H => ∃ (xs : List V) (x : V), SqT K H a xs ∧ xs[i]? = some x
  yld := fun i H v H' => ∃ T x, v = .ref T ∧ H T = none ∧ H' = L2.upd H T (.tup [.int (i : Nat), x]) ∧ ∀ xs, SqT K H a xs → xs[i]? = some x
  stop := fun i H => ∃ xs : List V, SqT K H a xs ∧ i = xs.length
theorem turn_enumT {P : Program} {w : World} {K : PySem.W.Frag} {tl : List Expr} {kk : Nat} {tp : Pos} (a e it : Addr) :
    Turn P w K (.Tuple tl kk tp) (IteT K a) [e, it] e (fun i h => (∃ old, IsEnum h e it ((i : Nat) : Int) old) ∧ h.IsTupleIter it a i ∧ e ≠ it) where
  mem := List.mem_cons_self
  obj := fun i h st b hb => by
    obtain ⟨⟨_, q1⟩, ⟨o, q2, q3, q4⟩, _⟩ := st
    rcases List.mem_cons.mp hb with z | z
    · subst z; exact ⟨_, q1, fun v q => nomatch q⟩
    · rw [List.mem_singleton.mp z]; exact ⟨o, q2, fun v q => by rw [q4] at q; cases q⟩
  keep := fun i h h2 st k => let ⟨⟨old, q1⟩, q2, q3⟩ := st
    ⟨⟨old, k e List.mem_cons_self _ q1⟩, q2.at fun o q => k it (List.mem_cons_of_mem _ List.mem_cons_self) o q, q3⟩
  item := by
    intro X hP hw hK hc i pins s σ H E I hf st hgo
    subst hP hw hK
    obtain ⟨⟨old, q1⟩, q2, q3⟩ := st
    obtain ⟨xs, x, hq, hx⟩ := hgo
    obtain ⟨us, rv, pt, hz⟩ := I.tuple hq
    obtain ⟨u, hu, ru⟩ := rv.get hx
    have pt' : s.heap.IsTuple a us.toArray := pt
    have lt1 : e < s.heap.objs.size := Heap.lt_size q1
    have lt2 : it < s.heap.objs.size := by obtain ⟨_, z, _⟩ := q2; exact Heap.lt_size z
    have ne1 : e ≠ a := by
      rintro rfl
      obtain ⟨o, z1, z2, _⟩ := pt'
      have q1' : s.heap.get? e = some _ := q1
      rw [z1] at q1'; cases q1'; exact absurd (Value.type.inj z2) (by decide)
    have ne2 : a ≠ it := by
      rintro rfl
      obtain ⟨o, z1, z2, _⟩ := pt'
      obtain ⟨o', z3, z4, _⟩ := q2
      rw [z1] at z3; cases z3; rw [z2] at z4; exact absurd (Value.type.inj z4) (by decide)
    have hi : i < us.toArray.size := by
      have := (List.getElem?_eq_some_iff.mp hu).1; simpa using this
    have Dr := Draws.tuple (prog := X.prog) (w := X.w) (A := X.A.in1) (I.ok.hd hc) it a ne2 us.toArray
    refine wpAny_pyNext_enum_itemD Dr q1 ⟨q2, pt'⟩ hi q3 (by simp; exact ⟨q3, ne1⟩) fun y h2 tk py ho st2 hT hsz hk => ?_
    have ey : y = u := by
      have py : us.toArray[i]? = some y := py
      rw [List.getElem?_toArray, hu] at py
      exact (Option.some.inj py).symm
    subst ey
    refine ⟨_, rfl, wpAny_letOwnedTupleGo_enum (s := { s with heap := h2, toks := tk + 1 }) ho fun h3 he3 sb => ?_⟩
    have hT3 : h3.get? s.heap.objs.size = some { cls := .type "tuple", data := .seq #[.int i tk, y] } := (sb.2 _ (Nat.ne_of_gt lt1)).trans hT
    have nw : ObjOk X.prog X.w (L2.upd H s.heap.objs.size (.tup [.int (i : Nat), x])) h3 s.heap.objs.size (.tup [.int (i : Nat), x]) :=
      ⟨by show 2 ≤ sizeLine; decide, [.int i tk, y], .cons ⟨_, rfl⟩ (.cons ru .nil), ⟨_, hT3, rfl, _, rfl⟩⟩
    have J : Inv X pins σ (L2.upd H s.heap.objs.size (.tup [.int (i : Nat), x])) { s with heap := h3, toks := tk + 1 } :=
      I.turnedNew (ch := [e, it]) (fun b ob hb q => (sb.2 b (fun z => hb (by simp [z]))).trans (hk b ob (fun z => hb (by simp [z])) (fun z => hb (by simp [z])) q)) hf (Nat.le_refl _) nw
    refine ⟨.ref s.heap.objs.size, _, J, rfl, ⟨_, x, rfl, I.hok.fresh (Nat.le_refl _), rfl, fun ys hy => by rw [I.tuple_inj hy hq]; exact hx⟩, ⟨⟨y, ?_⟩, st2.1.at fun o q => (sb.2 it (Ne.symm q3)).trans q, q3⟩, fun b hb => ?_⟩
    · have : ((i + 1 : Nat) : Int) = (i : Int) + 1 := by omega
      rw [this]; exact he3
    · have lb : b < s.heap.objs.size := by
        rcases List.mem_cons.mp hb with z | z
        · rw [z]; exact lt1
        · rw [List.mem_singleton.mp z]; exact lt2
      rw [upd_ne (Nat.ne_of_lt lb)]
      exact (hf b hb).1
  done := by
    intro X hP hw hK hc i pins s σ H E I hf st hgo
    subst hP hw hK
    obtain ⟨⟨old, q1⟩, q2, q3⟩ := st
    obtain ⟨xs, hq, hx⟩ := hgo
    obtain ⟨us, rv, pt, hz⟩ := I.tuple hq
    have pt' : s.heap.IsTuple a us.toArray := pt
    obtain ⟨g0, g1, g2, g3, g4, g5⟩ := hf it (List.mem_cons_of_mem _ List.mem_cons_self)
    have ne2 : a ≠ it := by
      rintro rfl
      obtain ⟨o, z1, z2, _⟩ := pt'
      obtain ⟨o', z3, z4, _⟩ := q2
      rw [z1] at z3; cases z3; rw [z2] at z4; exact absurd (Value.type.inj z4) (by decide)
    have Dr := Draws.tuple (prog := X.prog) (w := X.w) (A := X.A.in1) (I.ok.hd hc) it a ne2 us.toArray
    have hl := rv.length
    have ei : i = us.toArray.size := by rw [List.size_toArray]; omega
    rw [ei] at q2
    exact wpAny_pyNext_enum_endD Dr q1 ⟨q2, pt'⟩ fun h2 eb => ⟨rfl, I.turned (t' := s.toks) (fun b o hb q => eb b o hb q) g0 g1 g3 g4 g5⟩
  self := fun A i s Q E st h => let ⟨⟨_, q1⟩, _⟩ := st; wpAny_pyIter_enum q1 h
def iEnumA (K : PySem.W.Frag) (ta : TA) : TI := fun σ H R => ta σ H fun vs H1 => ∃ a xs, vs = [.ref a] ∧ ((SqL K H1 a xs ∧ R (Ite K a) H1) ∨ (SqT K H1 a xs ∧ R (IteT K a) H1))
theorem pi_enumA {X : Cx} {e : Expr} {ta : TA} {p pos tpos : Pos} {elts : List Expr} {kk : Nat} (hg : Gl X "enumerate") (hm : X.mg "enumerate" = none) (ha : PA X [e] ta) (hs : starEach [e] X.env = [(false, eval e X.env)] := by rfl) :
    PI X (.Tuple elts kk tpos) (.Call (.Name "enumerate" p) [e] [] pos) (iEnumA X.K ta) := by
  refine ⟨fun pins s σ H R I h => ?_⟩
  refine Call_ (ld_blt I hg hm boot_enumerate (PyProof.Rows.callWith_type1 (thn (ha.run pos pins s σ H _ I h) fun us s1 ⟨vs, H1, I1, r1, q1⟩ => ?_) hs rfl))
  obtain ⟨a, xs, ex, q⟩ := q1
  subst ex
  have eu := Vals.ref1 r1
  subst eu
  have two : ∀ b, b ∈ [s1.heap.objs.size + 1, s1.heap.objs.size] → s1.heap.objs.size ≤ b := fun b hb => by
    rcases List.mem_cons.mp hb with z | z
    · rw [z]; exact Nat.le_succ _
    · rw [List.mem_singleton.mp z]; exact Nat.le_refl _
  rcases q with ⟨hq, q⟩ | ⟨hq, q⟩
  · obtain ⟨its, rv, p', hz⟩ := I1.list hq
    refine en_begins (begins_list a its.toArray) p'.isList fun h2 z1 z2 z3 => wpAny_pyIter_enum z1 ?_
    have I2 : Inv X pins σ H1 { s1 with heap := h2 } := I1.kept (t' := s1.toks) z3
    exact ⟨_, [_, _], _, _, H1, rfl, I2, turn_enum a (s1.heap.objs.size + 1) s1.heap.objs.size, ⟨⟨.none, z1⟩, ⟨_, z2, rfl, rfl⟩, Nat.succ_ne_self _⟩, fun b hb => I1.fpOk (two b hb) (I1.hok.fresh (two b hb)), q⟩
  · obtain ⟨its, rv, p', hz⟩ := I1.tuple hq
    have p2 : s1.heap.IsTuple a its.toArray := p'
    refine en_begins (begins_tuple a its.toArray) p2 fun h2 z1 z2 z3 => wpAny_pyIter_enum z1 ?_
    have I2 : Inv X pins σ H1 { s1 with heap := h2 } := I1.kept (t' := s1.toks) z3
    exact ⟨_, [_, _], _, _, H1, rfl, I2, turn_enumT a (s1.heap.objs.size + 1) s1.heap.objs.size, ⟨⟨.none, z1⟩, ⟨_, z2, rfl, rfl⟩, Nat.succ_ne_self _⟩, fun b hb => I1.fpOk (two b hb) (I1.hok.fresh (two b hb)), q⟩

/-- (0, d0), (1, d1), .. -/
def dEnum (ds : List D) : List D := (List.range ds.length).map fun i => .tup [.int (i : Nat), (ds[i]?).getD .non]
theorem dEnum_get {ds : List D} {i : Nat} {d : D} (h : (dEnum ds)[i]? = some d) : ∃ x, ds[i]? = some x ∧ d = .tup [.int (i : Nat), x] := by
  unfold dEnum at h
  rw [List.getElem?_map] at h
  obtain ⟨j, h1, h2⟩ := map_some' h
  obtain ⟨hj, h3⟩ := List.getElem?_eq_some_iff.mp h1
  have hj : i < ds.length := by simpa using hj
  have : j = i := by simpa using h3.symm
  subst this
  refine ⟨ds[j], by simp [hj], ?_⟩
  rw [← h2]; simp [hj]
theorem dEnum_len (ds : List D) : (dEnum ds).length = ds.length := by simp [dEnum]
section
variable {K : PySem.W.Frag} {F : Hp} {a : Addr} {vs : List V} {ds : List D}
theorem pair_yld {G H F2 : Hp} {ρ : Sto} {σ : L2.St} {i : Nat} {T : Addr} {d : D} {x : V} (R : Rel K G ρ σ H F2) (hT : H T = none) (rx : Rp K F2 d x) :
    ∃ F', Same F2 F' ∧ Same H (L2.upd H T (.tup [.int (i : Nat), x])) ∧ Rel K G ρ σ (L2.upd H T (.tup [.int (i : Nat), x])) F' ∧ Rp K F' (.tup [.int (i : Nat), d]) (.ref T) := by
  obtain ⟨R1, f1, h1, r1⟩ := R.putTup (ds := [.int (i : Nat), d]) (vs := [.int (i : Nat), x]) (RpL.cons Rp.mkint (RpL.cons rx RpL.nil)) hT
  exact ⟨_, f1, h1, R1, r1⟩
theorem itv_enumL (h : SqL K F a vs) (r : RpL K F ds vs) : ItV K (Ite K a) (dEnum ds) F := by
  have hl := RpL.length r
  refine ⟨fun i H F' hi s1 s2 => ?_, fun H F' s1 s2 => ⟨vs, Same.seq (s1.trans s2) h, by rw [dEnum_len]; omega⟩, fun i H x H' y d q G ρ σ F' s1 R => ?_⟩
  · rw [dEnum_len] at hi
    exact ⟨vs, vs[i]'(by omega), Same.seq (s1.trans s2) h, by simp [show i < vs.length by omega]⟩
  · obtain ⟨T, u, rfl, hT, rfl, y⟩ := y
    obtain ⟨e, q1, rfl⟩ := dEnum_get q
    have eu := y vs (Same.seq (s1.trans R.sub) h)
    exact pair_yld R hT (Rp.mono s1 _ _ (RpL.get2 r i e u q1 eu))
theorem itv_enumT (h : SqT K F a vs) (r : RpL K F ds vs) : ItV K (IteT K a) (dEnum ds) F := by
  have hl := RpL.length r
  refine ⟨fun i H F' hi s1 s2 => ?_, fun H F' s1 s2 => ⟨vs, Same.tupT (s1.trans s2) h, by rw [dEnum_len]; omega⟩, fun i H x H' y d q G ρ σ F' s1 R => ?_⟩
  · rw [dEnum_len] at hi
    exact ⟨vs, vs[i]'(by omega), Same.tupT (s1.trans s2) h, by simp [show i < vs.length by omega]⟩
  · obtain ⟨T, u, rfl, hT, rfl, y⟩ := y
    obtain ⟨e, q1, rfl⟩ := dEnum_get q
    have eu := y vs (Same.tupT (s1.trans R.sub) h)
    exact pair_yld R hT (Rp.mono s1 _ _ (RpL.get2 r i e u q1 eu))
end
def vEnum (f : Sto → Option D) : Sto → Option (List D) := fun ρ => ((f ρ).bind dItems).map dEnum
theorem ip_enum {X : Cx} {e : Expr} {f : Sto → Option D} {p pos tpos : Pos} {elts : List Expr} {kk : Nat} (hg : Gl X "enumerate") (hm : X.mg "enumerate" = none) (ha : PV X .z e f) (hs : starEach [e] X.env = [(false, eval e X.env)] := by rfl) :
    IPV X (.Tuple elts kk tpos) (.Call (.Name "enumerate" p) [e] [] pos) (vEnum f) := by
  refine pi_imp (pi_enumA hg hm (pa_cons ha pa_nil hs) hs) fun σ H Q ⟨G, ρ, F, ds, q, R, k⟩ => ?_
  unfold vEnum at q
  obtain ⟨ys, q1, rfl⟩ := map_some' q
  obtain ⟨x, q2, q3⟩ := bind_some' q1
  refine ⟨G, ρ, F, x, q2, R, fun v H1 F1 f1 h1 R1 ⟨fp, r1⟩ => ?_⟩
  cases x <;> simp only [dItems] at q3 <;> cases q3
  · obtain ⟨a, vs, rfl, h3, h4⟩ := r1.1.tup
    exact ⟨a, vs, rfl, .inr ⟨Same.tupT R1.sub h3, k _ H1 F1 f1 h1 R1 (itv_enumT h3 h4)⟩⟩
  · obtain ⟨a, vs, rfl, h3, h4⟩ := r1.1.lst
    exact ⟨a, vs, rfl, .inl ⟨Same.seq R1.sub h3, k _ H1 F1 f1 h1 R1 (itv_enumL h3 h4)⟩⟩
end VL

set_option Elab.async false
set_option linter.all false
set_option maxRecDepth 100000
/-! VLk: ==, in, chains, isinstance, slices, dict comprehensions, comprehensions stored by a name. -/
noncomputable section
namespace VL
open PySem PySem.Spec PyProof.Rows L2

/-! ### == -/
mutual
def toPy : D → Option PyData
  | .non => some .none
  | .bl b => some (.bool b)
  | .int i => some (.int i)
  | .str x => some (.str x)
  | .tup ds => (toPyL ds).map .tuple
  | .lst ds => (toPyL ds).map .list
  | _ => none
def toPyL : List D → Option (List PyData)
  | [] => some []
  | d :: ds => match toPy d, toPyL ds with
    | some p, some ps => some (p :: ps)
    | _, _ => none
end
section
variable {K : PySem.W.Frag} {F : Hp}
mutual
theorem toPy_dp : ∀ (d : D) (p : PyData) (v : V), toPy d = some p → Rp K F d v → Dp K F v p
  | .non, p, v, h, r => by simp only [toPy, Option.some.injEq] at h; subst h; rw [Rp.non r]; exact .non
  | .bl b, p, v, h, r => by simp only [toPy, Option.some.injEq] at h; subst h; rw [Rp.bl r]; exact .bl b
  | .int b, p, v, h, r => by simp only [toPy, Option.some.injEq] at h; subst h; rw [Rp.int r]; exact .int b
  | .str b, p, v, h, r => by simp only [toPy, Option.some.injEq] at h; subst h; rw [Rp.str r]; exact .str b
  | .tup ds, p, v, h, r => by
    simp only [toPy] at h
    obtain ⟨ps, h1, rfl⟩ := map_some' h
    obtain ⟨a, vs, rfl, h2, h3⟩ := r.tup
    exact .tup h2 (toPyL_dp ds ps vs h1 h3)
  | .lst ds, p, v, h, r => by
    simp only [toPy] at h
    obtain ⟨ps, h1, rfl⟩ := map_some' h
    obtain ⟨a, vs, rfl, h2, h3⟩ := r.lst
    exact .lst h2 (toPyL_dp ds ps vs h1 h3)
  | .dicK _ _, p, v, h, r => by simp [toPy] at h
  | .dicT _ _, p, v, h, r => by simp [toPy] at h
  | .obj _ _ _, p, v, h, r => by simp [toPy] at h
  | .fn _, p, v, h, r => by simp [toPy] at h
theorem toPyL_dp : ∀ (ds : List D) (ps : List PyData) (vs : List V), toPyL ds = some ps → RpL K F ds vs → DpAll K F vs ps
  | [], ps, vs, h, r => by simp only [toPyL, Option.some.injEq] at h; subst h; rw [RpL.nil_inv r]; exact .nil
  | d :: ds, ps, vs, h, r => by
    obtain ⟨v, t, rfl, h1, h2⟩ := RpL.cons_inv r
    simp only [toPyL] at h
    split at h
    · rename_i p qs e1 e2
      cases h
      exact .cons (toPy_dp d p v e1 h1) (toPyL_dp ds qs t e2 h2)
    · cases h
end
end
/-- a == b as Python says it of data -/
def deq (x y : D) : Option Bool := match x, y with
  | .int i, .int j => some (i == j)
  | .bl i, .bl j => some (i == j)
  | .non, .non => some true
  | x, y => match toPy x, toPy y with
    | some p, some q => if SeqAt.shaped p && SeqAt.shaped q then some (PyData.eqv p q) else none
    | _, _ => none
theorem deq_some {x y : D} {b : Bool} (h : deq x y = some b) : ∃ p q, toPy x = some p ∧ toPy y = some q ∧ SeqAt.shaped p = true ∧ SeqAt.shaped q = true ∧ PyData.eqv p q = b := by
  unfold deq at h
  split at h
  · rename_i i j; cases h; exact ⟨.int i, .int j, rfl, rfl, rfl, rfl, by simp only [PyData.eqv]⟩
  · rename_i i j; cases h; exact ⟨.bool i, .bool j, rfl, rfl, rfl, rfl, by simp only [PyData.eqv]⟩
  · cases h; exact ⟨.none, .none, rfl, rfl, rfl, rfl, by simp only [PyData.eqv]⟩
  · split at h
    · rename_i p q e1 e2
      split at h
      · rename_i hs
        simp only [Bool.and_eq_true] at hs
        cases h
        exact ⟨p, q, e1, e2, hs.1, hs.2, rfl⟩
      · cases h
    · cases h
def dEq (x y : D) : Option D := (deq x y).map .bl
def dNe (x y : D) : Option D := (deq x y).map fun b => .bl (!b)
section
variable {K : PySem.W.Frag} {s1 s2 : Sh}
theorem od_eq : OpD K s1 s2 (rEqD K) dEq := by
  intro x y d q G ρ σ H F v u Q R hx hy kk
  obtain ⟨b, q1, rfl⟩ := map_some' q
  obtain ⟨p, r, h1, h2, h3, h4, rfl⟩ := deq_some q1
  exact ⟨p, r, toPy_dp x p v h1 (Ow.whole R hx), toPy_dp y r u h2 (Ow.whole R hy), h3, h4, kk _ H F (Same.refl _) (Same.refl _) R Rp.mkbl⟩
theorem od_ne : OpD K s1 s2 (rNeD K) dNe := by
  intro x y d q G ρ σ H F v u Q R hx hy kk
  obtain ⟨b, q1, rfl⟩ := map_some' q
  obtain ⟨p, r, h1, h2, h3, h4, rfl⟩ := deq_some q1
  exact ⟨p, r, toPy_dp x p v h1 (Ow.whole R hx), toPy_dp y r u h2 (Ow.whole R hy), h3, h4, kk _ H F (Same.refl _) (Same.refl _) R Rp.mkbl⟩
/-- x is None -/
def isN : D → Bool
  | .non => true
  | _ => false
def dIsN : D → D → Option D
  | x, .non => some (.bl (isN x))
  | _, _ => none
def dNotN : D → D → Option D
  | x, .non => some (.bl (!isN x))
  | _, _ => none
theorem isNon {F : Hp} {x : D} {v : V} (h : Rp K F x v) : decide (v = .non) = isN x := by
  cases x <;> simp only [Rp] at h
  · rw [h]; rfl
  · rw [h]; rfl
  · rw [h]; rfl
  · rw [h]; rfl
  · obtain ⟨a, _, rfl, _⟩ := h; rfl
  · obtain ⟨a, _, rfl, _⟩ := h; rfl
  · obtain ⟨a, _, rfl, _⟩ := h; rfl
  · obtain ⟨a, _, rfl, _⟩ := h; rfl
  · obtain ⟨a, _, _, rfl, _⟩ := h; rfl
  · rw [h]; rfl
theorem od_isN : OpD K s1 s2 (fun x y H Q => y = .non ∧ Q (.bl (decide (x = .non))) H) dIsN := by
  intro x y d q G ρ σ H F v u Q R hx hy kk
  cases y <;> simp only [dIsN] at q <;> cases q
  refine ⟨(Ow.whole R hy).non, ?_⟩
  rw [isNon (Ow.whole R hx)]
  exact kk _ H F (Same.refl _) (Same.refl _) R Rp.mkbl
theorem od_notN : OpD K s1 s2 (fun x y H Q => y = .non ∧ Q (.bl (!decide (x = .non))) H) dNotN := by
  intro x y d q G ρ σ H F v u Q R hx hy kk
  cases y <;> simp only [dNotN] at q <;> cases q
  refine ⟨(Ow.whole R hy).non, ?_⟩
  rw [isNon (Ow.whole R hx)]
  exact kk _ H F (Same.refl _) (Same.refl _) R Rp.mkbl
/-- x in xs, flat things -/
def flatD : D → Option V
  | .non => some .non
  | .bl b => some (.bl b)
  | .int i => some (.int i)
  | .str x => some (.str x)
  | _ => none
def flatDs : List D → Option (List V)
  | [] => some []
  | d :: ds => match flatD d, flatDs ds with
    | some v, some vs => some (v :: vs)
    | _, _ => none
theorem flatD_rp {F : Hp} {d : D} {v u : V} (h : flatD d = some v) (r : Rp K F d u) : u = v ∧ flatV v = true := by
  cases d <;> simp only [flatD] at h <;> cases h <;> simp only [Rp] at r <;> exact ⟨r, rfl⟩
theorem flatDs_rp {F : Hp} : ∀ {ds : List D} {vs us : List V}, flatDs ds = some vs → RpL K F ds us → us = vs ∧ vs.all flatV = true
  | [], vs, us, h, r => by cases h; exact ⟨RpL.nil_inv r, rfl⟩
  | d :: ds, vs, us, h, r => by
    obtain ⟨u, t, rfl, h1, h2⟩ := RpL.cons_inv r
    simp only [flatDs] at h
    split at h
    · rename_i v ws e1 e2
      cases h
      obtain ⟨rfl, f1⟩ := flatD_rp e1 h1
      obtain ⟨rfl, f2⟩ := flatDs_rp e2 h2
      exact ⟨rfl, by simp [f1, f2]⟩
    · cases h
def din (x y : D) : Option Bool := match flatD x, dItems y with
  | some v, some ds => (flatDs ds).map fun vs => inV v vs
  | _, _ => none
def dIn (x y : D) : Option D := (din x y).map .bl
def dNotIn (x y : D) : Option D := (din x y).map fun b => .bl (!b)
theorem din_rp {G H F : Hp} {ρ : Sto} {σ : L2.St} {x y : D} {v u : V} {b : Bool} (R : Rel K G ρ σ H F) (h : din x y = some b) (hx : ∃ fp, Ow K H F s1 x v fp) (hy : ∃ fp, Ow K H F s2 y u fp) :
    ∃ p xs, u = .ref p ∧ (SqL K H p xs ∨ SqT K H p xs) ∧ flatV v = true ∧ xs.all flatV = true ∧ inV v xs = b := by
  unfold din at h
  split at h
  · rename_i w ds e1 e2
    obtain ⟨vs, e3, rfl⟩ := map_some' h
    obtain ⟨rfl, f1⟩ := flatD_rp e1 (Ow.whole R hx)
    have hy := Ow.whole R hy
    cases y <;> simp only [dItems] at e2 <;> cases e2
    · obtain ⟨a, us, rfl, h3, h4⟩ := hy.tup
      obtain ⟨rfl, f2⟩ := flatDs_rp e3 h4
      exact ⟨a, us, rfl, .inr h3, f1, f2, rfl⟩
    · obtain ⟨a, us, rfl, h3, h4⟩ := hy.lst
      obtain ⟨rfl, f2⟩ := flatDs_rp e3 h4
      exact ⟨a, us, rfl, .inl h3, f1, f2, rfl⟩
  · cases h
theorem od_in : OpD K s1 s2 (rIn K false) dIn := by
  intro x y d q G ρ σ H F v u Q R hx hy kk
  obtain ⟨b, q1, rfl⟩ := map_some' q
  obtain ⟨p, xs, rfl, h1, h2, h3, rfl⟩ := din_rp R q1 hx hy
  exact ⟨p, xs, rfl, h1, h2, h3, kk _ H F (Same.refl _) (Same.refl _) R Rp.mkbl⟩
theorem od_notIn : OpD K s1 s2 (rIn K true) dNotIn := by
  intro x y d q G ρ σ H F v u Q R hx hy kk
  obtain ⟨b, q1, rfl⟩ := map_some' q
  obtain ⟨p, xs, rfl, h1, h2, h3, rfl⟩ := din_rp R q1 hx hy
  exact ⟨p, xs, rfl, h1, h2, h3, kk _ H F (Same.refl _) (Same.refl _) R Rp.mkbl⟩
end

/-! ### a < b < c -/
def vChain (g g' : D → D → Option D) (fa fb fc : Sto → Option D) : Sto → Option D := fun ρ => (fa ρ).bind fun x => (fb ρ).bind fun y => match g x y with
  | some (.bl true) => (fc ρ).bind fun z => g' y z
  | some (.bl false) => some (.bl false)
  | _ => none
section
variable {X : Cx} {a b c : Expr} {fa fb fc : Sto → Option D} {r r' : R2} {g g' : D → D → Option D} {pos : Pos} {op op' : CmpOp}
theorem tChain_pv (hg : OpD X.K .z .z r g) (hg' : OpD X.K .z .z r' g') (σ : L2.St) (H : Hp) (Q : VK) (h : tP X.K .z (vChain g g' fa fb fc) σ H Q) : tChain r r' (tP X.K .z fa) (tP X.K .z fb) (tP X.K .z fc) σ H Q := by
  obtain ⟨G, ρ, F, d, q, R, k⟩ := h
  unfold vChain at q
  obtain ⟨x, q1, q⟩ := bind_some' q
  obtain ⟨y, q2, q⟩ := bind_some' q
  refine ⟨G, ρ, F, x, q1, R, fun v H1 F1 f1 h1 R1 r1 => ?_⟩
  refine ⟨G, ρ, F1, y, q2, R1, fun u H2 F2 f2 h2 R2 r2 => ?_⟩
  split at q
  · rename_i q3
    obtain ⟨z, q4, q5⟩ := bind_some' q
    refine hg x y _ q3 G ρ σ H2 F2 v u _ R2 (Ow.keep r1 f2 h2) r2 fun w H3 F3 f3 h3 R3 r3 => ⟨true, r3.bl, ?_⟩
    simp only [if_true]
    refine ⟨G, ρ, F3, z, q4, R3, fun t H4 F4 f4 h4 R4 r4 => ?_⟩
    exact hg' y z d q5 G ρ σ H4 F4 u t Q R4 (Ow.keep (Ow.keep r2 f3 h3) f4 h4) r4 fun w H5 F5 f5 h5 R5 r5 => k w H5 F5 (f1.trans (f2.trans (f3.trans (f4.trans f5)))) (h1.trans (h2.trans (h3.trans (h4.trans h5)))) R5 ⟨[], r5, rfl⟩
  · rename_i q3
    cases q
    refine hg x y _ q3 G ρ σ H2 F2 v u _ R2 (Ow.keep r1 f2 h2) r2 fun w H3 F3 f3 h3 R3 r3 => ⟨false, r3.bl, ?_⟩
    simp only [Bool.false_eq_true, if_false]
    exact k _ H3 F3 (f1.trans (f2.trans f3)) (h1.trans (h2.trans h3)) R3 ⟨[], Rp.mkbl, rfl⟩
  · cases q
theorem pv_chain (ho : OpR X (compareOp op) r) (ho' : OpR X (compareOp op') r') (hg : OpD X.K .z .z r g) (hg' : OpD X.K .z .z r' g') (ha : PV X .z a fa) (hb : PV X .z b fb) (hc : PV X .z c fc)
    (hm : lastMarks [op, op'] [b, c] = false := by with_unfolding_all rfl) : PV X .z (.Compare a [op, op'] [b, c] pos) (vChain g g' fa fb fc) := pe_imp (pe_chain ho ho' ha hb hc hm) (tChain_pv hg hg')
theorem pt_chainV (ho : OpR X (compareOp op) r) (ho' : OpR X (compareOp op') r') (hg : OpD X.K .z .z r g) (hg' : OpD X.K .z .z r' g') (ha : PV X .z a fa) (hb : PV X .z b fb) (hc : PV X .z c fc)
    (hm : lastMarks [op, op'] [b, c] = false := by with_unfolding_all rfl) : PTV X (.Compare a [op, op'] [b, c] pos) (vB (vChain g g' fa fb fc)) := by
  refine pt_imp (pt_chain ho ho' ha hb hc hm) fun σ H Q ⟨G, ρ, F, d, q, R, k⟩ => ?_
  unfold vB at q
  split at q
  · rename_i d' q1
    cases q
    exact tChain_pv hg hg' σ H _ ⟨G, ρ, F, _, q1, R, fun v H1 F1 f1 h1 R1 ⟨fp, r1⟩ => ⟨d, r1.1.bl, k H1 F1 f1 h1 R1⟩⟩
  · cases q
end

/-! ### isinstance with a built-in class -/
def tyName : D → Option String
  | .non => some "NoneType"
  | .bl _ => some "bool"
  | .int _ => some "int"
  | .str _ => some "str"
  | .tup _ => some "tuple"
  | .lst _ => some "list"
  | .dicK _ _ => some "dict"
  | _ => none
theorem tyx_of {K : PySem.W.Frag} {H : Hp} {d : D} {v : V} {t : String} (h : tyName d = some t) (r : Rp K H d v) : TyX K H v (.type t) := by
  cases d <;> simp only [tyName] at h <;> cases h
  · rw [r.non]; exact .base .non
  · rw [r.bl]; exact .base (.bl _)
  · rw [r.int]; exact .base (.int _)
  · rw [r.str]; exact .base (.str _)
  · obtain ⟨a, vs, rfl, h3, _⟩ := r.tup
    rcases h3 with (h3 | ⟨o, h3⟩) | ⟨o, its, n, h3, h4, _⟩
    · exact .base (.tup h3)
    · exact .fTuple h3
    · exact .kTuple h3 h4
  · obtain ⟨a, vs, rfl, h3, _⟩ := r.lst
    rcases h3 with (h3 | ⟨o, h3⟩) | ⟨o, its, n, h3, h4, _⟩
    · exact .base (.lst h3)
    · exact .base (.frz h3)
    · exact .kList h3 h4
  · simp only [Rp] at r
    obtain ⟨a, vs, rfl, h3, _⟩ := r
    rcases h3 with h3 | ⟨o, h3⟩
    · exact .base (.dK h3)
    · exact .fDict h3
def tyNames : List String := ["NoneType", "bool", "int", "str", "tuple", "list", "dict"]
def isTab (t T : String) : Bool := t == T || (t == "bool" && T == "int")
/-- isinstance(x, T), by the name of T -/
def isT (T : String) (d : D) : Option Bool := (tyName d).map fun t => isTab t T
theorem tyName_mem {d : D} {t : String} (h : tyName d = some t) : t ∈ tyNames := by
  cases d <;> simp only [tyName] at h <;> cases h <;> decide
theorem isT_tab {T : String} {d : D} {b : Bool} (h : isT T d = some b) : ∃ t, tyName d = some t ∧ t ∈ tyNames ∧ b = isTab t T := by
  obtain ⟨t, h1, rfl⟩ := map_some' h
  exact ⟨t, h1, tyName_mem h1, rfl⟩
def KitT (T : String) : Prop := ∀ t ∈ tyNames, kitB t T = some (isTab t T)
theorem kit_int : KitT "int" := by unfold KitT; decide +kernel
theorem kit_bool : KitT "bool" := by unfold KitT; decide +kernel
theorem kit_str : KitT "str" := by unfold KitT; decide +kernel
theorem kit_tuple : KitT "tuple" := by unfold KitT; decide +kernel
theorem kit_list : KitT "list" := by unfold KitT; decide +kernel
theorem kit_dict : KitT "dict" := by unfold KitT; decide +kernel
def vIsi (T : String) (f : Sto → Option D) : Sto → Option D := fun ρ => (f ρ).bind fun x => (isT T x).map .bl
theorem pv_isi {X : Cx} {e : Expr} {f : Sto → Option D} {T : String} {y : Str} {p py pos : Pos} {s : Sh} (kT : KitT T) (hg : Gl X "isinstance") (hm : X.mg "isinstance" = none) (hgy : Gl X y) (hmy : X.mg y = none) (hvy : bootBuiltins y = some (.type T)) (hv : bootBuiltins "isinstance" = some (.builtin "isinstance")) (ha : PV X s e f)
    (hny : y ≠ "__name__" := by decide) (hdy : (y == ("__debug__" : Str)) = false := by decide) (he : starEach [e, .Name y py] X.env = (false, eval e X.env) :: starEach [.Name y py] X.env := by rfl) (he2 : starEach [.Name y py] X.env = (false, eval (.Name y py) X.env) :: starEach [] X.env := by rfl) (hpl : (backTo pos (starEach [.Name y py] X.env)).any (·.1) = false := by rfl) :
    PV X .z (.Call (.Name "isinstance" p) [e, .Name y py] [] pos) (vIsi T f) := by
  refine pe_imp (pe_callB call_isi hg hm hv (pa_cons ha (pa_cons (pe_bltn (v := .ty T) hgy hmy hvy rfl hny hdy) pa_nil he2) he) (by decide) (by decide) he hpl) fun σ H Q ⟨G, ρ, F, d, q, R, k⟩ => ?_
  unfold vIsi at q
  obtain ⟨x, q1, q2⟩ := bind_some' q
  obtain ⟨b, q3, rfl⟩ := map_some' q2
  obtain ⟨t, e1, e2, rfl⟩ := isT_tab q3
  exact ⟨G, ρ, F, x, q1, R, fun v H1 F1 f1 h1 R1 r1 => ⟨v, .ty T, .type t, .type T, _, rfl, .ty T, tyx_of e1 (Ow.whole R1 r1), kit_ty (kT t e2), k _ H1 F1 f1 h1 R1 ⟨[], Rp.mkbl, rfl⟩⟩⟩

/-! ### slices -/
def cutG {α : Type} (xs : List α) (lo hi : Option Int) : List α := (xs.drop (HT.sIx xs.length 0 lo)).take (HT.sIx xs.length xs.length hi - HT.sIx xs.length 0 lo)
theorem RpL.cut {K : PySem.W.Frag} {F : Hp} {ds : List D} {vs : List V} (h : RpL K F ds vs) (lo hi : Option Int) : RpL K F (cutG ds lo hi) (cutV vs lo hi) := by
  unfold cutG cutV
  rw [RpL.length h]
  exact (h.drop _).take _
def tPO (K : PySem.W.Frag) (f : Sto → Option (Option Int)) : TO := fun σ H Q => ∃ G ρ F o, f ρ = some o ∧ Rel K G ρ σ H F ∧ ∀ H' F', Same F F' → Same H H' → Rel K G ρ σ H' F' → Q o H'
def oNone : Sto → Option (Option Int) := fun _ => some none
def oSome (f : Sto → Option D) : Sto → Option (Option Int) := fun ρ => match f ρ with
  | some (.int i) => some (some i)
  | _ => none
section
variable {X : Cx} {e : Expr} {f : Sto → Option D} {fe : Sto → Option (D × Sto)} {pos p2 : Pos}
abbrev POV (X : Cx) (e : Option Expr) (f : Sto → Option (Option Int)) : Prop := PO X e (tPO X.K f)
theorem po_imp {e : Option Expr} {t t' : TO} (h : PO X e t) (k : ∀ σ H Q, t' σ H Q → t σ H Q) : PO X e t' := ⟨fun pins s σ H Q I q => h.run pins s σ H Q I (k σ H Q q)⟩
theorem pov_none : POV X none oNone := po_imp po_none fun σ H Q ⟨G, ρ, F, o, q, R, k⟩ => by
  cases q
  exact k H F (Same.refl _) (Same.refl _) R
theorem pov_some (h : PV X .z e f) : POV X (some e) (oSome f) := by
  refine po_imp (po_some h) fun σ H Q ⟨G, ρ, F, o, q, R, k⟩ => ?_
  unfold oSome at q
  split at q
  · rename_i i q1
    cases q
    exact ⟨G, ρ, F, _, q1, R, fun v H1 F1 f1 h1 R1 ⟨fp, r1⟩ => ⟨i, r1.1.int, k H1 F1 f1 h1 R1⟩⟩
  · cases q
/-- t[lo:hi] of a tuple; of a list (told frozen) -/
def vCut (f : Sto → Option D) (fl fh : Sto → Option (Option Int)) : Sto → Option D := fun ρ => (f ρ).bind fun x => (fl ρ).bind fun lo => (fh ρ).bind fun hi => match x with
  | .tup ds => some (.tup (cutG ds lo hi))
  | .lst ds => some (.lst (cutG ds lo hi))
  | _ => none
theorem Rel.putLst {K : PySem.W.Frag} {G H F : Hp} {ρ : Sto} {σ : L2.St} {ds : List D} {vs : List V} {p : Addr} (R : Rel K G ρ σ H F) (r : RpL K F ds vs) (hp : H p = none) :
    ∃ F', Same F F' ∧ Same H (L2.upd H p (.lst vs)) ∧ Rel K G ρ σ (L2.upd H p (.lst vs)) F' ∧ Rp K F' (.lst ds) (.ref p) := by
  obtain ⟨F', f1, R1, r1⟩ := (R.addLst r hp).freeze
  exact ⟨F', f1, Same.upd hp, R1.drop, r1⟩
theorem pv_cut {lo hi : Option Expr} {fl fh : Sto → Option (Option Int)} {s : Sh} (hs : flat1 s = true) (he : PV X s e f) (hl : POV X lo fl) (hh : POV X hi fh) : PV X .z (.Subscript e (.Slice lo hi none p2) pos) (vCut f fl fh) := by
  refine pe_imp (pe_slice (sl_list.or sl_tupA) he hl hh) fun σ H Q ⟨G, ρ, F, d, q, R, k⟩ => ?_
  unfold vCut at q
  obtain ⟨x, q1, q⟩ := bind_some' q
  obtain ⟨lo, q2, q⟩ := bind_some' q
  obtain ⟨hi, q3, q⟩ := bind_some' q
  refine ⟨G, ρ, F, x, q1, R, fun v H1 F1 f1 h1 R1 r1 => ?_⟩
  refine ⟨G, ρ, F1, lo, q2, R1, fun H2 F2 f2 h2 R2 => ?_⟩
  refine ⟨G, ρ, F2, hi, q3, R2, fun H3 F3 f3 h3 R3 => ?_⟩
  have r3 := Ow.keep (Ow.keep r1 f2 h2) f3 h3
  have ff := f1.trans (f2.trans f3)
  have hh := h1.trans (h2.trans h3)
  cases x <;> simp only at q <;> cases q
  · have rt := Ow.tupz r3
    obtain ⟨a, vs, rfl, h4, h5⟩ := rt.tup
    have hlen := RpL.length h5
    refine .inr ⟨a, vs, rfl, Same.tupT R3.sub h4, fun e => ?_, fun _ p hp => ?_⟩
    · have e2 : ∀ ds : List D, ds.length = vs.length → cutG ds lo hi = ds := fun ds hd => by
        unfold cutG
        rw [hd, e.1, e.2]
        simp [← hd]
      rw [e2 _ hlen] at k
      exact k _ H3 F3 ff hh R3 ⟨[], rt, rfl⟩
    · obtain ⟨R4, f4, h6, r4⟩ := R3.putTup (h5.cut lo hi) hp
      exact k _ _ _ (ff.trans f4) (hh.trans h6) R4 ⟨[], r4, rfl⟩
  · obtain ⟨a, vs, rfl, h4, h5⟩ := Ow.elems hs R3.sub r3
    refine .inl ⟨a, vs, rfl, h4, fun p hp => ?_⟩
    obtain ⟨F4, f4, h6, R4, r4⟩ := R3.putLst (h5.cut lo hi) hp
    exact k _ _ F4 (ff.trans f4) (hh.trans h6) R4 ⟨[], r4, rfl⟩
/-- xs[::-1] of a list -/
def dRev : D → Option D
  | .lst ds => some (.lst ds.reverse)
  | _ => none
theorem fp_rev {k : Nat} {p1 p3 p4 : Pos} {s : Sh} (hs : flat1 s = true) (he : PV X s e f) : FP X (.seq .z) (.Subscript e (.Slice none none (some (.UnaryOp .USub (.Constant (.int 1) k p1) p3)) p4) pos) (v1 dRev f) := by
  refine pe_imp (pe_revL he) fun σ H Q ⟨G, ρ, F, d, q, R, k⟩ => ?_
  obtain ⟨x, q1, q2⟩ := v1_some q
  cases x <;> simp only [dRev] at q2 <;> cases q2
  refine ⟨G, ρ, F, _, q1, R, fun v H1 F1 f1 h1 R1 r1 => ?_⟩
  obtain ⟨a, vs, rfl, h4, h5⟩ := Ow.elems hs R1.sub r1
  exact ⟨a, vs, rfl, h4, fun p hp => k _ _ F1 f1 (h1.trans (Same.upd hp)) (R1.addLst h5.reverse hp)⟩
end

/-! ### y = [..] on one line -/
section
variable {X : Cx} {rs s : Sh} {io : List Nat}
theorem sv_setLc {i : Nat} {y : Str} {py : Pos} {elt tg iter : Expr} {ifs : List Expr} {scope : Scope} {own : List (Str × Nat)} {ws : List Nat} {pos spos : Pos} {fi : Sto → Option (List D)} {g : D → Sto → Option Sto} {ft : Sto → Option Bool} {fe : Sto → Option D}
    (hc : X.calm = true) (hN : X.N.Nodup) (hy : X.N[i]? = some y) (hyl : X.env.scope.names.lookup y = some .local) (hsw : swapsWith (.ListComp elt [⟨tg, iter, ifs, 0⟩] scope pos) (some (.Name y py)) spos.line X.env = pure true)
    (hi : IPV X tg iter fi) (ok : BlkOk X.N X.env.scope scope own) (hg : Blk X scope fun Y => PGV Y ws tg g) (ht : Blk X scope fun Y => PTs Y ifs (tPT Y.K ft)) (he : Blk X scope fun Y => FP Y s elt fe)
    (hw : (ws.all fun j => (own.map (·.2)).contains j) = true) (hwi : io.contains i = false) (hs : ∀ x, foldedSetIterable iter X.env x = pure x := by intro _; rfl) :
    SV X rs io (.Assign [.Name y py] (.ListComp elt [⟨tg, iter, ifs, 0⟩] scope pos) spos) (sSet i (.seq s) (up (vLc (own.map (·.2)) fi g ft fe))) := by
  refine ps_imp (ps_setLc (te := tPF X.K s fe) (tt := tPT X.K ft) (g := tG X.K ws g) hc hN hy hyl hsw hi ok (fun s H C cl fp => (hg s H C cl fp).pg) ht he hs) fun Z σ H ⟨G, ρ, F, fl, q, R, k⟩ => ?_
  unfold sSet at q
  obtain ⟨⟨d, ρ1⟩, q1, rfl⟩ := map_some' q
  obtain ⟨q2, rfl⟩ := up_some q1
  refine tLc_of (hg ({} : Shared) (fun _ => none) 0 [] []).ok (fun j m => by simpa using List.all_eq_true.mp hw j m) σ H _ ⟨G, _, F, d, q2, R, fun v H1 F1 f1 h1 R1 => ?_⟩
  exact k _ H1 F1 f1 ((Dif.set (i := i)).pin (by simp at hwi ⊢; exact hwi)) R1.store
end

/-! ### {k: v for ..}, the keys ints or texts -/
def dKey : D → Option Key
  | .int i => some (.inl i)
  | .str x => some (.inr x)
  | _ => none
theorem dKey_rp {K : PySem.W.Frag} {F : Hp} {d : D} {k : Key} {v : V} (h : dKey d = some k) (r : Rp K F d v) : v = kV k := by
  cases d <;> simp only [dKey] at h <;> cases h
  · exact r.int
  · exact r.str
/-- d[k] = v, in its place or at the end -/
def dputK (ks : List L2.Key) (ds : List D) (k : L2.Key) (v : D) : List L2.Key × List D :=
  if (ks.any fun x => decide (x = k)) = true then (ks, (ks.zip ds).map fun p => if p.1 = k then v else p.2) else (ks ++ [k], ds ++ [v])
theorem dputK_len {ks : List L2.Key} {ds : List D} {k : L2.Key} {v : D} (h : ks.length = ds.length) : (dputK ks ds k v).1.length = (dputK ks ds k v).2.length := by
  unfold dputK
  split
  · simp [h]
  · simp [h]
theorem zip_repl {K : PySem.W.Frag} {F : Hp} {k : L2.Key} {d : D} {v : V} (r : Rp K F d v) : ∀ {ks : List L2.Key} {ds : List D} {vs : List V}, RpL K F ds vs → ks.length = ds.length →
    (ks.zip vs).map (fun kv => if kv.1 = k then (kv.1, v) else kv) = ks.zip ((ks.zip vs).map fun p => if p.1 = k then v else p.2) ∧ RpL K F ((ks.zip ds).map fun p => if p.1 = k then d else p.2) ((ks.zip vs).map fun p => if p.1 = k then v else p.2)
  | [], ds, vs, h, hl => ⟨rfl, RpL.nil⟩
  | x :: ks, [], vs, h, hl => by simp at hl
  | x :: ks, e :: ds, vs, h, hl => by
    obtain ⟨u, t, rfl, h1, h2⟩ := RpL.cons_inv h
    obtain ⟨i1, i2⟩ := zip_repl r (ks := ks) h2 (by simpa using hl)
    simp only [List.zip_cons_cons, List.map_cons, List.cons.injEq]
    refine ⟨⟨?_, i1⟩, RpL.cons ?_ i2⟩
    · split <;> rfl
    · split
      · exact r
      · exact h1
theorem zip_putK {K : PySem.W.Frag} {F : Hp} {ks : List L2.Key} {ds : List D} {vs : List V} {k : L2.Key} {d : D} {v : V} (h : RpL K F ds vs) (hl : ks.length = ds.length) (r : Rp K F d v) :
    ∃ us, putK (ks.zip vs) k v = (dputK ks ds k d).1.zip us ∧ RpL K F (dputK ks ds k d).2 us := by
  have hl2 := RpL.length h
  have hm : (ks.zip vs).map (·.1) = ks := by rw [List.map_fst_zip]; omega
  have ha : ((ks.zip vs).any fun kv => decide (kv.1 = k)) = (ks.any fun x => decide (x = k)) := by
    rw [← hm, List.any_map]
    rw [hm]
    rfl
  unfold dputK putK
  rw [ha]
  split
  · obtain ⟨i1, i2⟩ := zip_repl r h hl
    exact ⟨_, i1, i2⟩
  · exact ⟨vs ++ [v], by rw [List.zip_append (by omega)]; rfl, h.snoc r⟩
theorem dputK_le {ks : List L2.Key} {ds : List D} {k : L2.Key} {v : D} : (dputK ks ds k v).1.length ≤ ks.length + 1 := by
  unfold dputK
  split
  · exact Nat.le_succ _
  · simp
/-- what the turns leave -/
def dcL (g : D → Sto → Option Sto) (ft : Sto → Option Bool) (fk fv : Sto → Option D) (ρ : Sto) : List D → List L2.Key × List D → Option (List L2.Key × List D)
  | [], kd => some kd
  | x :: xs, kd => (g x ρ).bind fun ρ1 => (ft ρ1).bind fun b => if b then (fk ρ1).bind fun y => (dKey y).bind fun k => (fv ρ1).bind fun z => dcL g ft fk fv ρ xs (dputK kd.1 kd.2 k z) else dcL g ft fk fv ρ xs kd
def vDc (vs : List Nat) (fi : Sto → Option (List D)) (g : D → Sto → Option Sto) (ft : Sto → Option Bool) (fk fv : Sto → Option D) : Sto → Option D := fun ρ =>
  if PlainAt ρ vs then (fi ρ).bind fun ds => if ds.length ≤ 1000000 then (dcL g ft fk fv (wipeS ρ vs) ds ([], [])).map fun kd => .dicK kd.1 kd.2 else none else none
theorem tDc_of {K : PySem.W.Frag} {ws vs : List Nat} {fi : Sto → Option (List D)} {g : D → Sto → Option Sto} {ft : Sto → Option Bool} {fk fv : Sto → Option D} (gok : ∀ d ρ ρ', g d ρ = some ρ' → Kept ws ρ ρ') (hw' : ∀ j ∈ ws, j ∈ vs)
    (σ : L2.St) (H : Hp) (Q : VK) (h : tPF K (.seq .z) (vDc vs fi g ft fk fv) σ H Q) : tDc (tIP K fi) (tG K ws g) (tPT K ft) (tP K .z fk) (tP K .z fv) vs σ H Q := by
  obtain ⟨G, ρ, F, d, q, R, kq⟩ := h
  unfold vDc at q
  split at q
  · rename_i pl
    obtain ⟨ds, q1, q⟩ := bind_some' q
    split at q
    · rename_i hlen
      obtain ⟨kd, q2, rfl⟩ := map_some' q
      refine ⟨G, ρ, F, ds, q1, R, fun J H1 F1 f1 h1 R1 it => ?_⟩
      intro L hL
      have hF1 : F1 L = none := Same.free R1.sub hL
      have R1L : Rel K G (some (.seq .z, .dicK [] []) :: ρ) (some (.ref L) :: σ) (L2.upd H1 L (.dK [])) F1 := R1.addNew hL ⟨L, [], [], rfl, upd_same, rfl, ⟨rfl, rfl⟩, rfl⟩
      refine ⟨fun i m H' => m = ds.length - i ∧ i ≤ ds.length ∧ ∃ F' ks es, Same F1 F' ∧ Same H1 H' ∧ Rel K G (some (.seq .z, .dicK ks es) :: ρ) (some (.ref L) :: σ) H' F' ∧ dcL g ft fk fv (wipeS ρ vs) (ds.drop i) (ks, es) = some kd ∧ ks.length = es.length ∧ ks.length ≤ i,
        ⟨ds.length, by simp, Nat.zero_le _, F1, [], [], Same.refl _, Same.upd hL, R1L, by simpa using q2, rfl, Nat.le_refl _⟩, ?_⟩
      rintro i m H2 ⟨rfl, hi, F2, ks, es, f2, h2, R2, l2, hkl, al⟩
      by_cases hlt : i < ds.length
      · refine .inr ⟨it.go i H2 F2 hlt f2 R2.sub, fun H' => i + 1 ≤ ds.length ∧ ∃ F' ks es, Same F1 F' ∧ Same H1 H' ∧ Rel K G (some (.seq .z, .dicK ks es) :: ρ) (some (.ref L) :: σ) H' F' ∧ dcL g ft fk fv (wipeS ρ vs) (ds.drop (i + 1)) (ks, es) = some kd ∧ ks.length = es.length ∧ ks.length ≤ i + 1,
          fun H' p => ⟨ds.length - (i + 1), by omega, rfl, p⟩, fun x H3 y3 => ?_⟩
        have hd : ds[i]? = some ds[i] := by simp [hlt]
        obtain ⟨F3, f3, h3, R3, r3⟩ := it.yld i H2 x H3 y3 _ hd G _ _ F2 f2 R2
        rw [List.drop_eq_getElem_cons hlt] at l2
        obtain ⟨ρ1, p1, l2⟩ := bind_some' (show (g ds[i] (wipeS ρ vs)).bind _ = some kd from l2)
        obtain ⟨b, p2, l2⟩ := bind_some' l2
        obtain ⟨G', R4, back⟩ := R3.frame
        refine ⟨G', _, F3, _, ρ1, p1, R4.wipe vs, r3, fun σ5 H5 F5 f5 h5 d5 R5 => ⟨d5.wipe hw', ?_⟩⟩
        have d5' : Dif vs σ σ5 := ⟨by have := d5.len; rw [wipe_length] at this; exact this, fun j hj => by rw [d5.at' j fun m => hj (hw' j m), wipe_ne hj]⟩
        have dk : ∀ j, j ∉ vs → ρ1[j]? = ρ[j]? := fun j hj => by rw [(gok _ _ _ p1).2 j fun m => hj (hw' j m), wipeS_ne hj]
        refine ⟨G', ρ1, F5, b, p2, R5, fun H6 F6 f6 h6 R6 => ?_⟩
        cases b with
        | false =>
          simp only [Bool.false_eq_true, if_false] at l2 ⊢
          exact ⟨hlt, F6, ks, es, f2.trans (f3.trans (f5.trans f6)), h2.trans (h3.trans (h5.trans h6)), back ρ σ H6 F6 (f5.trans f6) (Rel.back R4 R6 (f5.trans f6) pl d5' dk), l2, hkl, by omega⟩
        | true =>
          simp only [if_true] at l2 ⊢
          obtain ⟨y, p3, l2⟩ := bind_some' l2
          obtain ⟨k, p4, l2⟩ := bind_some' l2
          obtain ⟨z, p5, l2⟩ := bind_some' l2
          refine ⟨G', ρ1, F6, y, p3, R6, fun vy H7 F7 f7 h7 R7 ⟨fy, ry⟩ => ?_⟩
          refine ⟨G', ρ1, F7, z, p5, R7, fun vz H8 F8 f8 h8 R8 ⟨fz, rz⟩ => ?_⟩
          have ff : Same F3 F8 := f5.trans (f6.trans (f7.trans f8))
          have hh : Same H1 H8 := h2.trans (h3.trans (h5.trans (h6.trans (h7.trans h8))))
          have R9 := back ρ σ H8 F8 ff (Rel.back R4 R8 ff pl d5' dk)
          obtain ⟨fps, w⟩ := R9
          obtain ⟨u0, e0, ow⟩ := w.slot 0 _ _ rfl
          simp at e0; subst e0
          obtain ⟨a, us, fp', ea, ha, hkl2, ho, hfp⟩ := ow
          cases ea
          obtain ⟨rl, rfl⟩ := OwL.unz ho
          obtain ⟨us', hp1, hp2⟩ := zip_putK (k := k) rl hkl rz.1
          have a0 : L ∈ fps 0 := by rw [hfp]; exact List.mem_cons_self
          have key := dKey_rp p4 ry.1
          refine ⟨ks.zip us, k, key, ha, ?_, hlt, F8, _, _, f2.trans (f3.trans ff), fun b o qb => ?_, ?_, l2, dputK_len hkl, Nat.le_trans dputK_le (Nat.succ_le_succ al)⟩
          · rw [List.length_zip, sizeLine_eq]; omega
          · rw [upd_ne (ne_of_none qb hL)]
            exact hh b o qb
          · rw [hp1]
            refine w.front (xs := [_]) (ys := [_]) (xs' := [_]) (ys' := [_]) rfl rfl (fun _ => [L]) (fun j s' d' q => ?_) (fun j _ => List.nodup_cons.mpr ⟨by simp, List.nodup_nil⟩) (fun j k b hj hk _ _ => by simp at hj hk; omega) (fun j b hj m => ⟨0, by simp, by rw [hfp]; exact m⟩) (fun b o hb e => ?_) (fun j b hj m => ?_)
            · cases j with
              | zero =>
                simp at q; obtain ⟨rfl, rfl⟩ := q
                exact ⟨_, rfl, L, us', [], rfl, upd_same, dputK_len hkl, OwL.z hp2, rfl⟩
              | succ j => simp at q
            · rw [upd_ne]
              · exact e
              · rintro rfl; exact hb 0 (by simp) a0
            · have : b = L := by simpa using m
              subst this; exact ⟨_, upd_same⟩
      · have e : i = ds.length := by omega
        subst e
        rw [List.drop_length] at l2
        cases l2
        exact .inl ⟨it.stop H2 F2 f2 R2.sub, kq _ H2 F2 (f1.trans f2) (h1.trans h2) R2⟩
    · cases q
  · cases q
theorem fp_dc {X : Cx} {kx vx tg iter : Expr} {ifs : List Expr} {scope : Scope} {own : List (Str × Nat)} {ws : List Nat} {pos : Pos} {fi : Sto → Option (List D)} {g : D → Sto → Option Sto} {ft : Sto → Option Bool} {fk fv : Sto → Option D}
    (hc : X.calm = true) (hN : X.N.Nodup) (hi : IPV X tg iter fi) (ok : BlkOk X.N X.env.scope scope own)
    (hg : Blk X scope fun Y => PGV Y ws tg g) (ht : Blk X scope fun Y => PTs Y ifs (tPT Y.K ft)) (hk : Blk X scope fun Y => PV Y .z kx fk) (he : Blk X scope fun Y => PV Y .z vx fv)
    (hw : (ws.all fun j => (own.map (·.2)).contains j) = true) (hs : ∀ x, foldedSetIterable iter X.env x = pure x := by intro _; rfl) :
    FP X (.seq .z) (.DictComp kx vx [⟨tg, iter, ifs, 0⟩] scope pos) (vDc (own.map (·.2)) fi g ft fk fv) :=
  pe_imp (pe_dc (tk := tP X.K .z fk) (tv := tP X.K .z fv) (tt := tPT X.K ft) (g := tG X.K ws g) hc hN hi ok (fun s H C cl fp => (hg s H C cl fp).pg) ht hk he hs)
    (tDc_of (hg ({} : Shared) (fun _ => none) 0 [] []).ok fun j m => by simpa using List.all_eq_true.mp hw j m)
end VL

set_option Elab.async false
set_option linter.all false
set_option maxRecDepth 100000
/-! VLs: set(a list of ints), sorted of it. -/
noncomputable section
namespace VL
open PySem PySem.Spec PyProof.Rows L2

section
variable {pr : Program} {wd : World} {A : Around} {E : Value → Shared → Prop} {s : Shared}
set_option maxHeartbeats 3200000 in
theorem set_of_list {l : Addr} {its : Array Value} (ns : List Int) {Q : Value → Shared → Prop} (hh : A.handled = none) (hl : s.heap.IsList l its) (hi : IntsAre its.toList ns) (hb : ns.length + 1 < scanBound)
    (kk : ∀ (h2 : Heap) (tk c : Nat), SetR wd h2 s.heap.objs.size (fun j => decide (j ∈ ns)) c → c ≤ ns.length → (∀ b o, s.heap.get? b = some o → h2.get? b = some o) → Q (.ref s.heap.objs.size) { s with heap := h2, toks := tk }) :
    wpAny (model pr wd) A (call (.type "set") [.ref l]) Q E s := by
  have sz : its.size = ns.length := by
    have z := IntsAre.length hi
    rwa [Array.length_toList] at z
  obtain ⟨oS, eS⟩ : ∃ o : Obj, o = { cls := .type "set", dict := none, data := .set #[] 0 (.fresh 0 0 (!wd.params.followText "set-order")) } := ⟨_, rfl⟩
  obtain ⟨_, _, mro⟩ := F.called_set.mro
  have made := F.called_set.made
  have subs := F.called_set.sub
  refine wpAny_call (codeAny_of_tree ?_)
  show wpAny _ _ (callAny (.type "set") _) _ _ _
  refine wpAny_pure ⟨Code.quiet_builtin _ (by decide +kernel), codeAny_builtin F.entry_type_call ?_⟩
  rw [Around.under_plain (weight_type_call_type "set" [.ref l] []) rfl]
  have nt := F.called_set.notType
  have cc := F.called_set.canCreate
  have ct := F.typeCall_set_1 (.ref l)
  repeat (any_goals (first | assumption | wp_step))
  refine codeAny_mono (code_set_led1 (.ref l) (E := E) (Q₁ := fun ob s₁ => ob = .ref s.heap.objs.size ∧ s₁ = { s with heap := s.heap.push oS }) ⟨rfl, by rw [eS]⟩) fun r s₁ hr => ?_
  cases r with
  | error e => exact hr
  | ok fl =>
    cases fl with
    | ret ob =>
      obtain ⟨rfl, rfl⟩ := hr
      have gS : (s.heap.push oS).get? s.heap.objs.size = some oS := Heap.get?_push_size _ (by rw [eS]; rfl)
      have cS : oS.cls = .type "set" := by rw [eS]
      have tS : Shared.TypeIs { s with heap := s.heap.push oS } (.ref s.heap.objs.size) "set" := ⟨_, gS, cS⟩
      have li := F.called_set.init.lookup
      have bi := F.called_set.init.bind (.ref s.heap.objs.size)
      repeat (any_goals (first | assumption | wp_step))
      refine codeAny_mono (codeAny_call_builtin (R := wants (fun r s₂ => r = .none ∧ ∃ h2 tk c, s₂ = { s with heap := h2, toks := tk } ∧ SetR wd h2 s.heap.objs.size (fun j => decide (j ∈ ns)) c ∧ c ≤ ns.length ∧
          (∀ b o, s.heap.get? b = some o → h2.get? b = some o)) E) F.called_set.init.plain F.entry_set_init (check_set_init_1 tS ?_)) fun r₂ s₂ hr₂ => ?_
      · obtain ⟨⟨ocl, odi, oda, osl⟩, holl, hcl, nl, hdl⟩ := hl
        simp only at hcl hdl
        subst hcl hdl
        have hol' : (s.heap.push oS).get? l = some { cls := .type "list", dict := odi, data := .seq its nl, slots := osl } := Heap.get?_push_of_some _ holl
        have q1 : ∀ (z : (Value.type "list" == Value.type "dict") = false), True := fun _ => trivial
        have ne : (Value.type "list" == Value.type "dict") = false := by decide
        have l1 : (s.heap.push oS).IsList l its := ⟨_, hol', rfl, nl, rfl⟩
        have ss1 := F.sub_list_set
        have ss2 := F.sub_list_frozenset
        have lS : l < s.heap.objs.size := Heap.lt_size holl
        have z1 : (s.heap.push oS).objs.size = s.heap.objs.size + 1 := Heap.size_push ..
        have neI : l ≠ (s.heap.push oS).objs.size := fun h => Nat.lt_irrefl l (Nat.lt_trans lS (by rw [show (l : Nat) = _ from h, z1]; exact Nat.lt_succ_self _))
        have nS : s.heap.objs.size ∉ [(s.heap.push oS).objs.size, l] := fun h => by
          rw [z1] at h
          rcases List.mem_cons.mp h with h | h
          · exact Nat.ne_of_lt (Nat.lt_succ_self _) h
          · exact Nat.ne_of_gt lS (List.mem_singleton.mp h)
        have eS' := eS
        clear nt cc ct li bi tS subs made mro
        subst eS
        unfold Builtin.«set.__init__» noKeywords Builtin.Frozenset.updateFrom
        generalize eP : pyIter = PI
        wp_walk
        subst eP
        refine wpAny_pyIter_list l1 ?_
        refine wpAny_bind (wpAny_runValue ?_)
        have val : ∀ (i : Nat) (v : Value), its[i]? = some v → ∃ k t, ns[i]? = some k ∧ v = .int k t := fun i v hv => by
          have hi' : i < ns.length := by rw [← sz]; exact (Array.getElem?_eq_some_iff.mp hv).1
          obtain ⟨t, e⟩ := PyProof.Rows.IntsAre.int_at hi i v (by rw [Array.getElem?_toList]; exact hv)
          exact ⟨ns[i], t, List.getElem?_eq_getElem hi', by rw [e, List.getD_eq_getElem?_getD, List.getElem?_eq_getElem hi']; rfl⟩
        refine set_update_ints ((Walks.list (show A.in1.in1.in1.handled = none by simp [hh]) _ l neI its).toS) s.heap.objs.size nS ns sz hb val (its.size - 0) 0 _ (by omega) (Nat.zero_le _) ⟨⟨_, Heap.get?_push_size _ rfl, rfl, rfl⟩, l1.push _⟩ ?start ?fin
        case start =>
          have g2 := Heap.get?_push_of_some ({ cls := .type "list_iterator", data := .fields #[.ref l, .int 0 0] } : Obj) gS
          exact ⟨0, Nat.le_refl 0, setR_new_at g2⟩
        case fin =>
          rintro ⟨h2, ge, dr, tk, os⟩ c hm hc hR
          have e1 : ge = s.gens := hm.gens
          have e2 : dr = s.drawn := hm.drawn
          have e3 : os = s.os := hm.os
          subst e1 e2 e3
          show wpAny _ _ _ _ _ _
          refine wpAny_pure ?_
          show wpAny _ _ (ret Value.none) _ _ _
          rw [sz] at hc
          refine wpAny_pure ⟨rfl, h2, tk, c, rfl, hR, hc, fun b o e => ?_⟩
          have b0 : b < s.heap.objs.size := Heap.lt_size e
          exact hm.heap b o (fun h => by
            rw [z1] at h
            rcases List.mem_cons.mp h with h | h
            · exact Nat.ne_of_lt b0 h
            · rcases List.mem_cons.mp h with h | h
              · exact Nat.ne_of_lt (Nat.lt_trans b0 (Nat.lt_succ_self _)) h
              · cases h) (Heap.get?_push_of_some _ (Heap.get?_push_of_some _ e))
      · cases r₂ with
        | error e => exact hr₂
        | ok fl₂ =>
          cases fl₂ with
          | ret r =>
            obtain ⟨rfl, h2, tk, c, rfl, a1, a2, a3⟩ := hr₂
            repeat (any_goals (first | assumption | wp_step))
            exact kk _ _ _ a1 a2 a3
          | _ => exact hr₂.elim
    | _ => exact hr.elim
end
end VL

set_option Elab.async false
set_option linter.all false
set_option maxRecDepth 100000
/-! VLt: sorted(set(xs)). -/
noncomputable section
namespace VL
open PySem PySem.Spec PyProof.Rows L2

/-! ### strictly sorted lists -/
def sins (x : Int) : List Int → List Int
  | [] => [x]
  | y :: ys => if x < y then x :: y :: ys else if x = y then y :: ys else y :: sins x ys
def sset : List Int → List Int
  | [] => []
  | x :: xs => sins x (sset xs)
theorem sins_mem {x k : Int} : ∀ {ys : List Int}, k ∈ sins x ys ↔ k = x ∨ k ∈ ys
  | [] => by simp [sins]
  | y :: ys => by
    unfold sins
    split
    · simp
    · split
      · rename_i h; subst h; simp
      · simp [sins_mem (ys := ys)]; constructor <;> (rintro (h | h | h) <;> simp [h])
theorem sins_sorted {x : Int} : ∀ {ys : List Int}, ys.Pairwise (· < ·) → (sins x ys).Pairwise (· < ·)
  | [], _ => by simp [sins]
  | y :: ys, h => by
    have h' := List.pairwise_cons.mp h
    unfold sins
    split
    · rename_i hx
      refine List.pairwise_cons.mpr ⟨fun k m => ?_, h⟩
      rcases List.mem_cons.mp m with rfl | m
      · exact hx
      · exact Int.lt_trans hx (h'.1 k m)
    · split
      · exact h
      · rename_i h1 h2
        refine List.pairwise_cons.mpr ⟨fun k m => ?_, sins_sorted h'.2⟩
        rcases sins_mem.mp m with rfl | m
        · omega
        · exact h'.1 k m
theorem sset_mem {k : Int} : ∀ {ns : List Int}, k ∈ sset ns ↔ k ∈ ns
  | [] => by simp [sset]
  | n :: ns => by simp [sset, sins_mem, sset_mem (ns := ns)]
theorem sset_sorted : ∀ (ns : List Int), (sset ns).Pairwise (· < ·)
  | [] => List.Pairwise.nil
  | n :: ns => sins_sorted (sset_sorted ns)
/-- strictly sorted with the same members: the same -/
theorem strict_ext : ∀ {xs ys : List Int}, xs.Pairwise (· < ·) → ys.Pairwise (· < ·) → (∀ k, k ∈ xs ↔ k ∈ ys) → xs = ys
  | [], [], _, _, _ => rfl
  | [], y :: ys, _, _, h => by have := (h y).mpr List.mem_cons_self; simp at this
  | x :: xs, [], _, _, h => by have := (h x).mp List.mem_cons_self; simp at this
  | x :: xs, y :: ys, hx, hy, h => by
    have hx' := List.pairwise_cons.mp hx
    have hy' := List.pairwise_cons.mp hy
    have e : x = y := by
      rcases List.mem_cons.mp ((h x).mp List.mem_cons_self) with e | e
      · exact e
      · rcases List.mem_cons.mp ((h y).mpr List.mem_cons_self) with e2 | e2
        · exact e2.symm
        · have a := hx'.1 y e2; have b := hy'.1 x e; omega
    subst e
    rw [strict_ext hx'.2 hy'.2 fun k => ?_]
    have := h k
    constructor
    · intro m
      rcases List.mem_cons.mp (this.mp (List.mem_cons_of_mem _ m)) with e | e
      · have := hx'.1 k m; omega
      · exact e
    · intro m
      rcases List.mem_cons.mp (this.mpr (List.mem_cons_of_mem _ m)) with e | e
      · have := hy'.1 k m; omega
      · exact e

def rSetL (K : PySem.W.Frag) (w : World) : List V → Hp → VK → Prop := fun vs H Q => ∃ (a : Addr) (ns : List Int), vs = [V.ref a] ∧ SqL K H a (ns.map V.int) ∧ ns.length + 1 < scanBound ∧
  ∀ (p : Addr) (c : Nat), H p = none → c ≤ ns.length → Q (.ref p) (L2.upd H p (SetO w p (fun j => decide (j ∈ ns)) c))
section
variable {X : Cx}
theorem cr_setL (hc : X.calm = true) : CallR X (.type "set") (rSetL X.K X.w) := by
  intro pins s σ H vs us Q I r h
  obtain ⟨a, ns, rfl, hs, hb, q⟩ := h
  obtain ⟨its, rv, hl, _⟩ := I.list hs
  rw [Vals.ref1 r]
  refine set_of_list ns (I.ok.hd hc) hl.isList (by simpa using rv.ints) hb fun h2 tk c R hc2 k => ?_
  exact ⟨.ref _, L2.upd H s.heap.objs.size (SetO X.w s.heap.objs.size _ c), I.laid (t' := tk) k (Nat.le_refl _) (setO_new R), rfl, q _ c (I.hok.fresh (Nat.le_refl _)) hc2⟩
def dSortedSet : D → Option D
  | .lst ds => (dInts ds).bind fun ns => if ns.length < 64 then some (.lst ((sset ns).map .int)) else none
  | _ => none
theorem scan64 {n : Nat} (h : n < 64) : n + 1 < scanBound := by
  have : (1000 : Nat) ≤ scanBound := by decide
  omega
theorem fp_sortedSet {e : Expr} {s : Sh} {f : Sto → Option D} {p1 p2 pos1 pos2 : Pos} (hc : X.calm = true) (hG : Gl X "sorted") (hm : X.mg "sorted" = none) (hG2 : Gl X "set") (hm2 : X.mg "set" = none)
    (hv : bootBuiltins "sorted" = some (.builtin "sorted")) (hv2 : bootBuiltins "set" = some (.type "set")) (ha : PV X s e f)
    (he : starEach (e :: []) X.env = (false, eval e X.env) :: starEach [] X.env := by rfl) (hpl : (backTo pos2 (starEach [] X.env)).any (·.1) = false := by rfl)
    (he1 : starEach (.Call (.Name "set" p2) [e] [] pos2 :: []) X.env = (false, eval (.Call (.Name "set" p2) [e] [] pos2) X.env) :: starEach [] X.env := by rfl) (hpl1 : (backTo pos1 (starEach [] X.env)).any (·.1) = false := by rfl) :
    FP X (.seq .z) (.Call (.Name "sorted" p1) [.Call (.Name "set" p2) [e] [] pos2] [] pos1) (v1 dSortedSet f) := by
  refine pe_imp (pe_callB (cr_sortedSet hc) hG hm hv (pa1 (pe_callTy (cr_setL hc) hG2 hm2 hv2 (pa1 ha he) (by decide) (by decide) he hpl) he1) (by decide) (by decide) he1 hpl1) fun σ H Q ⟨G, ρ, F, d, q, R, k⟩ => ?_
  obtain ⟨x, q1, q2⟩ := v1_some q
  cases x <;> simp only [dSortedSet] at q2 <;> try cases q2
  rename_i ds
  obtain ⟨ns, q3, q4⟩ := bind_some' q2
  split at q4
  · rename_i h64
    cases q4
    have hds := dInts_some q3
    subst hds
    refine ⟨G, ρ, F, _, q1, R, fun v H1 F1 f1 h1 R1 r1 => ?_⟩
    obtain ⟨a, vs, rfl, hS, hr⟩ := Rp.lst (Ow.whole R1 r1)
    have := RpL.ints_inv hr
    subst this
    refine ⟨a, ns, rfl, hS, scan64 h64, fun p c hp hcl => ?_⟩
    refine ⟨p, _, c, rfl, upd_same, by omega, fun ms p2 hs hmem hlen hp2 => ?_⟩
    have e : ms = sset ns := strict_ext hs (sset_sorted ns) fun k => by rw [hmem, sset_mem]; simp
    subst e
    have R2 : Rel X.K G ρ σ _ F1 := R1.grow (Same.upd (o := SetO X.w p (fun j => decide (j ∈ ns)) c) hp)
    exact k _ _ F1 f1 (h1.trans ((Same.upd hp).trans (Same.upd hp2))) (R2.addLst (RpL.ints _) hp2)
  · cases q4
end
end VL

set_option Elab.async false
set_option linter.all false
set_option maxRecDepth 100000
/-! VLm: what the printed walks lean on. -/
noncomputable section
namespace VL
open PySem PySem.Spec PyProof.Rows L2
def visb (sc : Scope) (x : Str) : Bool := match sc.names.lookup x with
  | some .local => true | some .cell => true | some .free => true | _ => false
theorem vis_of {sc : Scope} {x : Str} (h : visb sc x = true) : Vis sc x := by
  unfold visb at h
  unfold Vis
  split at h <;> simp_all
def locb (sc : Scope) (x : Str) : Bool := match sc.names.lookup x with
  | some .local => true | some .cell => true | _ => false
theorem loc_of {sc : Scope} {x : Str} (h : locb sc x = true) : L2.Loc sc x := by
  unfold locb at h
  unfold L2.Loc
  split at h <;> simp_all
theorem pv_globE {X : Cx} {x : Str} {i : Int} {pos : Pos} (hg : Gl X x) (hm : ∃ t, X.mg x = some (.int i t)) (hd : (x == ("__debug__" : Str)) = false := by decide) : PV X .z (.Name x pos) (vC (.int i)) := let ⟨_, e⟩ := hm; pv_glob hg e hd
theorem hfs0 {j : Nat} {gs : Sto → Option (List D)} : ∀ (ρ : Sto) (ds : List D) (s : Sh) (d : D), aCons (vVar j) gs ρ = some ds → ρ[j]? = some (some (s, d)) → ds[0]? = some d := by
  intro ρ ds s d h1 h2
  unfold aCons at h1
  obtain ⟨x, q1, h1⟩ := bind_some' h1
  obtain ⟨xs, q2, rfl⟩ := map_some' h1
  unfold vVar at q1
  rw [h2] at q1
  cases q1
  rfl
/-- a module's def, as its callers see it -/
structure Fc (P : Program) (w : World) (K : PySem.W.Frag) (mg : Str → Option Value) (base : Heap) (x : Str) (ps : List Str) (k : Nat) (sp : Sp) where
  f : Addr
  fd : FuncData
  ok : FnOk P w K mg base CX0 k f fd ps sp
  g : mg x = some (.ref f)
  q : PySem.W.keepIn K (.ref f) = true
  b : Binds K fd ps []
/-- a class that one makes instances of -/
structure Mc (P : Program) (w : World) (K : PySem.W.Frag) (mg : Str → Option Value) (base : Heap) (x : Str) (C : Addr) (ps : List Str) (k : Nat) (sp : Sp) where
  f : Addr
  fd : FuncData
  ok : FnOk P w K mg base CX0 k f fd ps sp
  mke : Mk K C f
  g : mg x = some (.ref C)
  b : Binds K fd ps []
section
variable {X : Cx} {e : Expr} {s : Sh} {f : Sto → Option D} {p pos : Pos}
section
variable (hb : X.mg "len" = none) (ha : PV X s e f)
include hb ha
theorem pv_len (hG : Gl X "len") (he : starEach (e :: []) X.env = (false, eval e X.env) :: starEach [] X.env := by rfl) (hpl : (backTo pos (starEach [] X.env)).any (·.1) = false := by rfl) : PV X .z (.Call (.Name "len" p) [e] [] pos) (v1 dLen f) :=
  pv_b1 hG hb (by decide) (by decide) he hpl call_len_seq PySem.boot_len cd_len ha
end
section
variable (hb : X.mg "sum" = none) (hc : X.calm = true) (ha : PV X s e f)
include hb hc ha
theorem pv_sum (hG : Gl X "sum") (he : starEach (e :: []) X.env = (false, eval e X.env) :: starEach [] X.env := by rfl) (hpl : (backTo pos (starEach [] X.env)).any (·.1) = false := by rfl) : PV X .z (.Call (.Name "sum" p) [e] [] pos) (v1 dSum f) :=
  pv_b1 hG hb (by decide) (by decide) he hpl (cr_sum hc) (by decide +kernel) cd_sum ha
end
theorem pv_all (hb : X.mg "all" = none) (hc : X.calm = true) (ha : PV X s e f) (hG : Gl X "all") (he : starEach (e :: []) X.env = (false, eval e X.env) :: starEach [] X.env := by rfl) (hpl : (backTo pos (starEach [] X.env)).any (·.1) = false := by rfl) : PV X .z (.Call (.Name "all" p) [e] [] pos) (v1 dAll f) :=
  pv_b1 hG hb (by decide) (by decide) he hpl (cr_all hc) (by decide +kernel) cd_all ha
theorem pv_any (hb : X.mg "any" = none) (hc : X.calm = true) (ha : PV X s e f) (hG : Gl X "any") (he : starEach (e :: []) X.env = (false, eval e X.env) :: starEach [] X.env := by rfl) (hpl : (backTo pos (starEach [] X.env)).any (·.1) = false := by rfl) : PV X .z (.Call (.Name "any" p) [e] [] pos) (v1 dAny f) :=
  pv_b1 hG hb (by decide) (by decide) he hpl (cr_any hc) (by decide +kernel) cd_any ha
theorem pv_max (hb : X.mg "max" = none) (hc : X.calm = true) (ha : PV X s e f) (hG : Gl X "max") (he : starEach (e :: []) X.env = (false, eval e X.env) :: starEach [] X.env := by rfl) (hpl : (backTo pos (starEach [] X.env)).any (·.1) = false := by rfl) : PV X .z (.Call (.Name "max" p) [e] [] pos) (v1 dMax f) :=
  pv_b1 hG hb (by decide) (by decide) he hpl (cr_max hc) (by decide +kernel) cd_max ha
theorem pv_min (hb : X.mg "min" = none) (hc : X.calm = true) (ha : PV X s e f) (hG : Gl X "min") (he : starEach (e :: []) X.env = (false, eval e X.env) :: starEach [] X.env := by rfl) (hpl : (backTo pos (starEach [] X.env)).any (·.1) = false := by rfl) : PV X .z (.Call (.Name "min" p) [e] [] pos) (v1 dMin f) :=
  pv_b1 hG hb (by decide) (by decide) he hpl (cr_min hc) (by decide +kernel) cd_min ha
theorem pv_abs (hb : X.mg "abs" = none) (ha : PV X .z e f) (hG : Gl X "abs") (he : starEach (e :: []) X.env = (false, eval e X.env) :: starEach [] X.env := by rfl) (hpl : (backTo pos (starEach [] X.env)).any (·.1) = false := by rfl) : PV X .z (.Call (.Name "abs" p) [e] [] pos) (v1 dAbs f) :=
  pv_b1 hG hb (by decide) (by decide) he hpl call_abs (by decide +kernel) cd_abs ha
theorem pv_intC (hb : X.mg "int" = none) (ha : PV X .z e f) (hG : Gl X "int") (he : starEach (e :: []) X.env = (false, eval e X.env) :: starEach [] X.env := by rfl) (hpl : (backTo pos (starEach [] X.env)).any (·.1) = false := by rfl) : PV X .z (.Call (.Name "int" p) [e] [] pos) (v1 dInt f) :=
  pv_t1 hG hb (by decide) (by decide) he hpl call_int1 (by decide +kernel) cd_int ha
theorem pv_tupC (hb : X.mg "tuple" = none) (hs : flat1 s = true) (ha : PV X s e f) (hG : Gl X "tuple") (he : starEach (e :: []) X.env = (false, eval e X.env) :: starEach [] X.env := by rfl) (hpl : (backTo pos (starEach [] X.env)).any (·.1) = false := by rfl) : PV X .z (.Call (.Name "tuple" p) [e] [] pos) (v1 dTuple f) :=
  pv_t1 hG hb (by decide) (by decide) he hpl call_tuple_of (by decide +kernel) (cd_tuple hs) ha
theorem fp_lstC (hb : X.mg "list" = none) (hs : flat1 s = true) (ha : PV X s e f) (hG : Gl X "list") (he : starEach (e :: []) X.env = (false, eval e X.env) :: starEach [] X.env := by rfl) (hpl : (backTo pos (starEach [] X.env)).any (·.1) = false := by rfl) : FP X (.seq .z) (.Call (.Name "list" p) [e] [] pos) (v1 dList f) :=
  fp_t1 hG hb (by decide) (by decide) he hpl call_list_of (by decide +kernel) (cf_list hs) ha
theorem fp_srt (hb : X.mg "sorted" = none) (ha : PV X s e f) (hG : Gl X "sorted") (he : starEach (e :: []) X.env = (false, eval e X.env) :: starEach [] X.env := by rfl) (hpl : (backTo pos (starEach [] X.env)).any (·.1) = false := by rfl) : FP X (.seq .z) (.Call (.Name "sorted" p) [e] [] pos) (v1 dSorted f) :=
  fp_b1 hG hb (by decide) (by decide) he hpl cr_sortedI (by decide +kernel) cf_sorted ha
theorem fp_srtDK (hb : X.mg "sorted" = none) (hc : X.calm = true) (ha : PV X s e f) (hG : Gl X "sorted") (he : starEach (e :: []) X.env = (false, eval e X.env) :: starEach [] X.env := by rfl) (hpl : (backTo pos (starEach [] X.env)).any (·.1) = false := by rfl) : FP X (.seq .z) (.Call (.Name "sorted" p) [e] [] pos) (v1 dSortedDK f) :=
  fp_b1 hG hb (by decide) (by decide) he hpl (call_sortedDI hc) (by decide +kernel) cf_sortedDK ha
theorem fp_sset {p1 p2 pos1 pos2 : Pos} (hb : X.mg "sorted" = none) (hb2 : X.mg "set" = none) (hc : X.calm = true) (ha : PV X s e f) (hG : Gl X "sorted") (hG2 : Gl X "set") (he : starEach (e :: []) X.env = (false, eval e X.env) :: starEach [] X.env := by rfl) (hpl : (backTo pos2 (starEach [] X.env)).any (·.1) = false := by rfl)
    (he1 : starEach (.Call (.Name "set" p2) [e] [] pos2 :: []) X.env = (false, eval (.Call (.Name "set" p2) [e] [] pos2) X.env) :: starEach [] X.env := by rfl) (hpl1 : (backTo pos1 (starEach [] X.env)).any (·.1) = false := by rfl) :
    FP X (.seq .z) (.Call (.Name "sorted" p1) [.Call (.Name "set" p2) [e] [] pos2] [] pos1) (v1 dSortedSet f) :=
  fp_sortedSet hc hG hb hG2 hb2 (by decide +kernel) (by decide +kernel) ha he hpl he1 hpl1
theorem pv_isiT {T : String} {y : Str} {py : Pos} (kT : KitT T) (hvy : bootBuiltins y = some (.type T)) (hm : X.mg "isinstance" = none) (hmy : X.mg y = none) (ha : PV X s e f) (hg : Gl X "isinstance") (hgy : Gl X y)
    (hny : y ≠ "__name__" := by decide) (hdy : (y == ("__debug__" : Str)) = false := by decide) (he : starEach [e, .Name y py] X.env = (false, eval e X.env) :: starEach [.Name y py] X.env := by rfl) (he2 : starEach [.Name y py] X.env = (false, eval (.Name y py) X.env) :: starEach [] X.env := by rfl) (hpl : (backTo pos (starEach [.Name y py] X.env)).any (·.1) = false := by rfl) :
    PV X .z (.Call (.Name "isinstance" p) [e, .Name y py] [] pos) (vIsi T f) :=
  pv_isi kT hg hm hgy hmy hvy (by decide +kernel) ha hny hdy he he2 hpl
end
theorem bt_int : bootBuiltins "int" = some (.type "int") := by decide +kernel
theorem bt_bool : bootBuiltins "bool" = some (.type "bool") := by decide +kernel
theorem bt_str : bootBuiltins "str" = some (.type "str") := by decide +kernel
theorem bt_list : bootBuiltins "list" = some (.type "list") := by decide +kernel
theorem bt_tuple : bootBuiltins "tuple" = some (.type "tuple") := by decide +kernel
theorem bt_dict : bootBuiltins "dict" = some (.type "dict") := by decide +kernel
def dNeg : D → Option D
  | .int i => some (.int (-i))
  | _ => none
theorem ud_neg {K : PySem.W.Frag} : UnD K (rU fun i => .int (-i)) dNeg := by
  intro x d q G ρ σ H F v Q R r k
  cases x <;> simp only [dNeg] at q <;> cases q
  exact ⟨_, Rp.int r, k _ Rp.mkint⟩
theorem pv_neg {X : Cx} {a : Expr} {fa : Sto → Option D} {pos : Pos} (ha : PV X .z a fa) : PV X .z (.UnaryOp .USub a pos) (v1 dNeg fa) := pv_un un_neg ud_neg ha
theorem fn_none {P : Program} {w : World} {K : PySem.W.Frag} {mg : Str → Option Value} {base : Heap} {k n : Nat} {f : Addr} {fd : FuncData} {ps : List Str} {rs : Sh} : FnOk P w K mg base CX0 k f fd ps (spP K n rs (fun _ => none)) :=
  ⟨fun vs H Q E ⟨_, _, _, _, _, h, _⟩ => (by cases h), fun A outer s H args us vs Q E _ _ _ _ ⟨_, _, _, _, _, h, _⟩ => (by cases h)⟩
end VL

set_option Elab.async false
set_option linter.all false
set_option maxRecDepth 100000
/-! VLn: plain laws: the functions that the walks compute, made to run. -/
noncomputable section
namespace VL
open PySem PySem.Spec PyProof.Rows L2

/-! ### running -/
section
variable {ρ : Sto} {d : D}
theorem vVarZ_ev {i : Nat} (h : ρ[i]? = some (some (.z, d))) : vVarZ i ρ = some d := by unfold vVarZ; rw [h]
theorem vVarS_ev {i : Nat} (h : ρ[i]? = some (some (.seq .z, d))) : vVarS i ρ = some d := by unfold vVarS; rw [h]
theorem sSeq_nx {f g : Sto → Option Fl} {ρ' : Sto} (h : f ρ = some (.nx ρ')) : sSeq f g ρ = g ρ' := by unfold sSeq; rw [h]; rfl
theorem sSeq_rt {f g : Sto → Option Fl} {ρ' : Sto} {d : D} (h : f ρ = some (.rt d ρ')) : sSeq f g ρ = some (.rt d ρ') := by unfold sSeq; rw [h]; rfl
end
section
variable (ρ : Sto) (i j n : Nat) (d e x y : D) (ds es : List D) (f fa fb : Sto → Option D) (fs : Sto → Option (List D)) (fe ga gb : Sto → Option (D × Sto)) (gs : Sto → Option (List D × Sto)) (t u : Sto → Option Bool) (te : Sto → Option (Bool × Sto)) (a b : Sto → Option Fl) (s : Sh) (g : D → D → Option D) (h : D → Option D) (m : List D → Option D)
@[simp] theorem q_vVarZ : vVarZ i ρ = (match ρ[i]? with | some (some (.z, d)) => some d | _ => none) := id rfl
@[simp] theorem q_vVarS : vVarS i ρ = (match ρ[i]? with | some (some (.seq .z, d)) => some d | _ => none) := id rfl
@[simp] theorem q_vVar : vVar i ρ = (match ρ[i]? with | some (some (_, d)) => some d | _ => none) := id rfl
@[simp] theorem q_vC : vC d ρ = some d := id rfl
@[simp] theorem q_v1 : v1 h f ρ = (f ρ).bind h := id rfl
@[simp] theorem q_v2 : v2 g fa fb ρ = (fa ρ).bind fun x => (fb ρ).bind fun y => g x y := id rfl
@[simp] theorem q_e1 : e1 h fe ρ = (fe ρ).bind fun x => (h x.1).map fun d => (d, x.2) := id rfl
@[simp] theorem q_e2 : e2 g ga gb ρ = (ga ρ).bind fun x => (gb x.2).bind fun y => (g x.1 y.1).map fun d => (d, y.2) := id rfl
@[simp] theorem q_up : up f ρ = (f ρ).map fun d => (d, ρ) := id rfl
@[simp] theorem q_upI : upI fs ρ = (fs ρ).map fun d => (d, ρ) := id rfl
@[simp] theorem q_upT : upT t ρ = (t ρ).map fun d => (d, ρ) := id rfl
@[simp] theorem q_aNil : aNil ρ = some [] := id rfl
@[simp] theorem q_aCons : aCons f fs ρ = (f ρ).bind fun d => (fs ρ).map fun ds => d :: ds := id rfl
@[simp] theorem q_bNil : bNil ρ = some ([], ρ) := id rfl
@[simp] theorem q_bCons : bCons fe gs ρ = (fe ρ).bind fun d => (gs d.2).map fun ds => (d.1 :: ds.1, ds.2) := id rfl
@[simp] theorem q_vTup : vTup fs ρ = (fs ρ).bind fun ds => if ds.length ≤ 1000000 then some (.tup ds) else none := id rfl
@[simp] theorem q_vLst : vLst fs ρ = (fs ρ).bind fun ds => if ds.length ≤ 1000000 then some (.lst ds) else none := id rfl
@[simp] theorem q_eTup : eTup gs ρ = (gs ρ).bind fun ds => if ds.1.length ≤ 1000000 then some (.tup ds.1, ds.2) else none := id rfl
@[simp] theorem q_eLst : eLst gs ρ = (gs ρ).bind fun ds => if ds.1.length ≤ 1000000 then some (.lst ds.1, ds.2) else none := id rfl
@[simp] theorem q_vB : vB f ρ = (match f ρ with | some (.bl k) => some k | _ => none) := id rfl
@[simp] theorem q_eB : eB fe ρ = (match fe ρ with | some (.bl k, ρ') => some (k, ρ') | _ => none) := id rfl
@[simp] theorem q_tAnd : tAndF t u ρ = (t ρ).bind fun c => if c then u ρ else some false := id rfl
@[simp] theorem q_tOr : tOrF t u ρ = (t ρ).bind fun c => if c then some true else u ρ := id rfl
@[simp] theorem q_tNot : tNotF t ρ = (t ρ).map fun c => !c := id rfl
@[simp] theorem q_vAnd : vAndF fa fb ρ = (match fa ρ with | some (.bl true) => fb ρ | some (.bl false) => some (.bl false) | _ => none) := id rfl
@[simp] theorem q_vOr : vOrF fa fb ρ = (match fa ρ with | some (.bl true) => some (.bl true) | some (.bl false) => fb ρ | _ => none) := id rfl
@[simp] theorem q_vNot : vNotF f ρ = (match f ρ with | some (.bl c) => some (.bl (!c)) | _ => none) := id rfl
@[simp] theorem q_vIf : vIf t fa fb ρ = (t ρ).bind fun c => if c then fa ρ else fb ρ := id rfl
@[simp] theorem q_eIf : eIf te ga gb ρ = (te ρ).bind fun c => if c.1 then ga c.2 else gb c.2 := id rfl
@[simp] theorem q_vCall : vCall (n := n) m fs ρ = (fs ρ).bind fun ds => if ds.length = n then m ds else none := id rfl
@[simp] theorem q_eCall : eCall n m gs ρ = (gs ρ).bind fun ds => if ds.1.length = n then (m ds.1).map fun d => (d, ds.2) else none := id rfl
@[simp] theorem q_sSet : sSet i s fe ρ = (fe ρ).map fun x => .nx (x.2.set i (some (s, x.1))) := id rfl
@[simp] theorem q_sRet : sRet fe ρ = (fe ρ).map fun x => .rt x.1 x.2 := id rfl
@[simp] theorem q_sIf : sIf te a b ρ = (te ρ).bind fun c => if c.1 then a c.2 else b c.2 := id rfl
@[simp] theorem q_sNext : sNext ρ = some (.nx ρ) := id rfl
@[simp] theorem q_sThen_nx : sThen (some (.nx ρ)) a = a ρ := id rfl
@[simp] theorem q_sThen_rt : sThen (some (.rt d ρ)) a = some (.rt d ρ) := id rfl
@[simp] theorem q_sSeq : sSeq a b ρ = sThen (a ρ) b := id rfl
@[simp] theorem q_endP_rt : endP (some (.rt d ρ)) = some d := id rfl
@[simp] theorem q_endP_nx : endP (some (.nx ρ)) = some .non := id rfl
@[simp] theorem q_argZ : argZ ds = ds.map fun d => some (.z, d) := id rfl
@[simp] theorem q_argS0 : argS 0 s (d :: ds) = some (s, d) :: argZ ds := id rfl
@[simp] theorem q_dItems_l : dItems (.lst ds) = some ds := id rfl
@[simp] theorem q_dItems_t : dItems (.tup ds) = some ds := id rfl
@[simp] theorem q_vItems : vItems f ρ = (f ρ).bind dItems := id rfl
@[simp] theorem q_gN : gN i d ρ = some (ρ.set i (some (.z, d))) := id rfl
@[simp] theorem q_gsNil : gsNil [] ρ = some ρ := id rfl
@[simp] theorem q_gsCons (g : D → Sto → Option Sto) (k : List D → Sto → Option Sto) : gsCons g k (d :: ds) ρ = (g d ρ).bind fun ρ1 => k ds ρ1 := id rfl
@[simp] theorem q_gTup (k : List D → Sto → Option Sto) : gTupF n k (.tup ds) ρ = if ds.length = n then k ds ρ else none := id rfl
@[simp] theorem q_sAsg (g : D → Sto → Option Sto) : sAsg fe g ρ = (fe ρ).bind fun x => (g x.1 x.2).map .nx := id rfl
@[simp] theorem q_sPar (gs : Sto → Option (List D × Sto)) : sPar i j gs ρ = (gs ρ).bind fun x => match x.1 with | [d, e] => some (.nx ((x.2.set i (some (.z, d))).set j (some (.z, e)))) | _ => none := id rfl
@[simp] theorem q_sAug : sAug i fe g ρ = (match ρ[i]? with | some (some (.z, d)) => (fe ρ).bind fun x => (g d x.1).map fun z => .nx (x.2.set i (some (.z, z))) | _ => none) := id rfl
@[simp] theorem q_sDrop : sDrop fe ρ = (fe ρ).map fun x => .nx x.2 := id rfl
@[simp] theorem q_sRetN : sRetN ρ = some (.rt .non ρ) := id rfl
@[simp] theorem q_wipe0 : wipeS ρ [] = ρ := id rfl
@[simp] theorem q_wipe1 (v : Nat) (vs : List Nat) : wipeS ρ (v :: vs) = (wipeS ρ vs).set v none := id rfl
@[simp] theorem q_eqb : Sh.eqb s s = true := Sh.eqb_self s
@[simp] theorem q_tuple_l : dTuple (.lst ds) = some (.tup ds) := id rfl
@[simp] theorem q_tuple_t : dTuple (.tup ds) = some (.tup ds) := id rfl
@[simp] theorem q_list_l : dList (.lst ds) = some (.lst ds) := id rfl
@[simp] theorem q_list_t : dList (.tup ds) = some (.lst ds) := id rfl
@[simp] theorem q_neg (k : Int) : dNeg (.int k) = some (.int (-k)) := id rfl
@[simp] theorem q_int (k : Int) : dInt (.int k) = some (.int k) := id rfl
@[simp] theorem q_intb (k : Bool) : dInt (.bl k) = some (.int (if k then 1 else 0)) := id rfl
@[simp] theorem q_len_l : dLen (.lst ds) = some (.int ds.length) := id rfl
@[simp] theorem q_len_t : dLen (.tup ds) = some (.int ds.length) := id rfl
@[simp] theorem q_rev : dRev (.lst ds) = some (.lst ds.reverse) := id rfl
@[simp] theorem q_sFor (fi : Sto → Option (List D × Sto)) (g : D → Sto → Option Sto) : sFor fi g b ρ = (fi ρ).bind fun x => forL g b x.1 x.2 := id rfl
@[simp] theorem q_frz : sFrz i a ρ = (match ρ[i]? with | some (some (_, d)) => a (ρ.set i (some (.z, d))) | _ => none) := id rfl
@[simp] theorem q_vFrz : vFrz i ρ = (match ρ[i]? with | some (some (_, d)) => some (d, ρ.set i (some (.z, d))) | _ => none) := id rfl
@[simp] theorem q_vMove : vMove i ρ = (match ρ[i]? with | some (some (.seq .z, d)) => some (d, ρ.set i none) | _ => none) := id rfl
@[simp] theorem q_II (k : Int → Int → D) (p q : Int) : dII k (.int p) (.int q) = some (k p q) := id rfl
@[simp] theorem q_IIc (C : Int → Int → Bool) (k : Int → Int → D) (p q : Int) : dIIc C k (.int p) (.int q) = if C p q then some (k p q) else none := id rfl
@[simp] theorem q_isi (T : String) : vIsi T f ρ = (f ρ).bind fun x => (isT T x).map .bl := id rfl
@[simp] theorem q_lVar : lVar i ρ = (match ρ[i]? with | some (some _) => some [] | _ => none) := id rfl
@[simp] theorem q_nodeAt (ps : List Nat) : nodeAt i ρ ps = (match ρ[i]? with | some (some (sh, d)) => navS sh d ps | _ => none) := id rfl
@[simp] theorem q_putAt (ps : List Nat) : putAt i ρ ps d = (match ρ[i]? with | some (some (sh, d0)) => ρ.set i (some (sh, putS d0 ps d)) | _ => ρ) := id rfl
@[simp] theorem q_nav0 : navS s d [] = some (s, d) := by cases s <;> cases d <;> rfl
@[simp] theorem q_put0 : putS e [] d = d := by cases e <;> rfl
end
def fldD (C : Addr) (f : Str) (d : D) : Option D := vFld C f (fun _ => some d) []
@[simp] theorem q_vFld (C : Addr) (f : Str) (fo : Sto → Option D) (ρ : Sto) : vFld C f fo ρ = (fo ρ).bind (fldD C f) := by
  unfold fldD vFld
  cases fo ρ <;> rfl
@[simp] theorem bShr_nat (i : Int) (j : Nat) : bShr i (j : Int) = true := by simp [bShr]
@[simp] theorem deq_int (i j : Int) : deq (.int i) (.int j) = some (i == j) := by simp [deq]
@[simp] theorem deq_bl (i j : Bool) : deq (.bl i) (.bl j) = some (i == j) := by simp [deq]
@[simp] theorem dEq_int (i j : Int) : dEq (.int i) (.int j) = some (.bl (i == j)) := by simp [dEq]
@[simp] theorem dEq_bl (i j : Bool) : dEq (.bl i) (.bl j) = some (.bl (i == j)) := by simp [dEq]
@[simp] theorem dIx_lst (ds : List D) (k : Nat) : dIx (.lst ds) (.int (k : Int)) = ds[k]? := by
  simp only [dIx, ixN]
  by_cases h : k < ds.length
  · simp [h]
  · simp [h]
@[simp] theorem dIx_tup (ds : List D) (k : Nat) : dIx (.tup ds) (.int (k : Int)) = ds[k]? := by
  simp only [dIx, ixN]
  by_cases h : k < ds.length
  · simp [h]
  · simp [h]
@[simp] theorem dRange0 (n : Nat) : dRange 0 (n : Int) = (List.range n).map fun k : Nat => D.int (k : Int) := by
  simp [dRange]
@[simp] theorem dIx_l0 (ds : List D) : dIx (.lst ds) (.int 0) = ds[0]? := dIx_lst ds 0
@[simp] theorem dIx_l1 (ds : List D) : dIx (.lst ds) (.int 1) = ds[1]? := dIx_lst ds 1
@[simp] theorem dIx_l2 (ds : List D) : dIx (.lst ds) (.int 2) = ds[2]? := dIx_lst ds 2
@[simp] theorem dIx_l3 (ds : List D) : dIx (.lst ds) (.int 3) = ds[3]? := dIx_lst ds 3
@[simp] theorem dIx_t0 (ds : List D) : dIx (.tup ds) (.int 0) = ds[0]? := dIx_tup ds 0
@[simp] theorem dIx_t1 (ds : List D) : dIx (.tup ds) (.int 1) = ds[1]? := dIx_tup ds 1
@[simp] theorem dIx_t2 (ds : List D) : dIx (.tup ds) (.int 2) = ds[2]? := dIx_tup ds 2
@[simp] theorem q_eCallIO (n i0 j : Nat) (sh : Sh) (m : List D → Option (D × D)) (fs : Sto → Option (List D)) (ρ : Sto) : eCallIO n i0 j sh m fs ρ = (match ρ[j]? with
  | some (some (s, d0)) => if Sh.eqb s sh then (fs ρ).bind fun ds => match ds[i0]? with
    | some d => if ds.length = n then (m ds).map fun r => (r.1, ρ.set j (some (sh, r.2))) else none
    | none => none else none
  | _ => none) := id rfl
@[simp] theorem q_endIO_rt (i0 : Nat) (sh : Sh) (r : D) (ρ : Sto) : endIO i0 sh (some (.rt r ρ)) = (match ρ[i0]? with
    | some (some (s, d)) => if Sh.eqb s sh then some (r, d) else none
    | _ => none) := id rfl
@[simp] theorem q_endIO_nx (i0 : Nat) (sh : Sh) (ρ : Sto) : endIO i0 sh (some (.nx ρ)) = (match ρ[i0]? with
    | some (some (s, d)) => if Sh.eqb s sh then some (.non, d) else none
    | _ => none) := id rfl
/-- a while loop that counts a slot down -/
def downE (E : Nat → Bool) : Nat → Nat
  | 0 => 0
  | a + 1 => if E a then downE E a else a + 1
theorem whileL_down {t : Sto → Option (Bool × Sto)} {b : Sto → Option Fl} (E : Nat → Bool) (R : Nat → Sto) (m : Nat) (h0 : t (R 0) = some (false, R 0)) (ht : ∀ a, a < m → t (R (a + 1)) = some (E a, R (a + 1))) (hb : ∀ a, a < m → b (R (a + 1)) = some (.nx (R a))) :
    ∀ (a k : Nat), a ≤ m → a < k → whileL t b k (R a) = some (.nx (R (downE E a)))
  | 0, k + 1, _, _ => by unfold whileL; rw [h0]; rfl
  | a + 1, k + 1, h1, h2 => by
    unfold whileL
    rw [ht a (by omega), Option.bind_some]
    unfold downE
    cases E a with
    | false => rfl
    | true =>
      simp only [if_true]
      rw [hb a (by omega)]
      exact whileL_down E R m h0 ht hb a k (by omega) (by omega)
/-- what == can tell -/
def Okd (k : Nat) (d : D) : Prop := ∃ p, toPy d = some p ∧ p.canLay0 = true ∧ p.depth ≤ k
theorem Okd.int {k : Nat} (i : Int) : Okd k (.int i) := ⟨.int i, rfl, rfl, Nat.zero_le _⟩
theorem Okd.tupL {k : Nat} : ∀ {ds : List D}, (∀ d ∈ ds, Okd k d) → ∃ ps, toPyL ds = some ps ∧ PyData.canLayAll0 ps = true ∧ PyData.depthAll ps ≤ k
  | [], _ => ⟨[], rfl, rfl, Nat.zero_le _⟩
  | d :: ds, h => by
    obtain ⟨p, h1, h2, h3⟩ := h d List.mem_cons_self
    obtain ⟨ps, h4, h5, h6⟩ := Okd.tupL fun e m => h e (List.mem_cons_of_mem _ m)
    exact ⟨p :: ps, by simp only [toPyL, h1, h4], by simp only [PyData.canLayAll0, h2, h5, Bool.and_self], by simp only [PyData.depthAll]; omega⟩
theorem Okd.tup {k : Nat} {ds : List D} (h : ∀ d ∈ ds, Okd k d) : Okd (k + 1) (.tup ds) := by
  obtain ⟨ps, h4, h5, h6⟩ := Okd.tupL h
  exact ⟨.tuple ps, by simp only [toPy, h4]; rfl, by simpa only [PyData.canLay0] using h5, by simp only [PyData.depth]; omega⟩
theorem Okd.eq {k : Nat} {ds es : List D} (h1 : Okd k (.tup ds)) (h2 : Okd k (.tup es)) (hk : k ≤ 64) : ∃ b, deq (.tup ds) (.tup es) = some b := by
  obtain ⟨p, a1, a2, a3⟩ := h1
  obtain ⟨q, b1, b2, b3⟩ := h2
  have sp : SeqAt.shaped p = true := by simp only [SeqAt.shaped, a2, Bool.true_and, decide_eq_true_eq]; omega
  have sq : SeqAt.shaped q = true := by simp only [SeqAt.shaped, b2, Bool.true_and, decide_eq_true_eq]; omega
  refine ⟨PyData.eqv p q, ?_⟩
  simp only [deq, a1, b1, sp, sq, Bool.and_self, if_true]
theorem dRange_nat (i j : Nat) : dRange (i : Int) (j : Int) = (List.range' i (j - i)).map fun k : Nat => D.int (k : Int) := by
  unfold dRange
  have : ((j : Int) - (i : Int)).toNat = j - i := by omega
  rw [this, List.range'_eq_map_range, List.map_map]
  apply List.map_congr_left
  intro k _
  simp
@[simp] theorem dInts_int {ι : Type} (L : ι → Int) (xs : List ι) : dInts (xs.map fun k => D.int (L k)) = some (xs.map L) := by
  induction xs with
  | nil => rfl
  | cons x xs ih => simp [dInts, ih]
@[simp] theorem dBls_bl {ι : Type} (L : ι → Bool) (xs : List ι) : dBls (xs.map fun k => D.bl (L k)) = some (xs.map L) := by
  induction xs with
  | nil => rfl
  | cons x xs ih => simp [dBls, ih]
@[simp] theorem dSum_int {ι : Type} (L : ι → Int) (xs : List ι) : dSum (.lst (xs.map fun k => D.int (L k))) = some (.int (xs.map L).sum) := by simp [dSum]
@[simp] theorem dAll_bl {ι : Type} (L : ι → Bool) (xs : List ι) : dAll (.lst (xs.map fun k => D.bl (L k))) = some (.bl (xs.all L)) := by simp [dAll]
theorem rep_one {α : Type} (a : α) : ∀ n : Nat, (List.replicate n [a]).flatten = (List.range n).map fun _ => a
  | 0 => rfl
  | n + 1 => by
    rw [List.replicate_succ, List.flatten_cons, rep_one a n, List.range_succ_eq_map]
    simp
theorem dRep_one (d : D) (n : Nat) (h : n ≤ 100000) : dRep (.lst [d]) (.int (n : Int)) = some (.lst ((List.range n).map fun _ => d)) := by
  have : (n : Int) ≤ 100000 := by omega
  simp only [dRep, Int.natCast_nonneg, this, List.length_singleton, true_and, rep_one, Int.toNat_natCast]
  rfl
/-- a comprehension -/
theorem lcL_eq {ι : Type} {g : D → Sto → Option Sto} {ft : Sto → Option Bool} {fe : Sto → Option D} {ρ : Sto} {I E : ι → D} {p : ι → Bool} : ∀ {xs : List ι}, (∀ x ∈ xs, ∃ ρ1, g (I x) ρ = some ρ1 ∧ ft ρ1 = some (p x) ∧ (p x = true → fe ρ1 = some (E x))) →
    lcL g ft fe ρ (xs.map I) = some ((xs.filter p).map E)
  | [], _ => rfl
  | x :: xs, h => by
    obtain ⟨ρ1, h1, h2, h3⟩ := h x List.mem_cons_self
    have ih := lcL_eq (xs := xs) fun y m => h y (List.mem_cons_of_mem _ m)
    rw [List.map_cons]
    unfold lcL
    rw [h1, Option.bind_some, h2, Option.bind_some, ih]
    cases q : p x with
    | true => rw [List.filter_cons_of_pos q]; simp [h3 q]
    | false => rw [List.filter_cons_of_neg (by simp [q])]; simp
theorem vLc_eq {ι : Type} {vs : List Nat} {fi : Sto → Option (List D)} {g : D → Sto → Option Sto} {ft : Sto → Option Bool} {fe : Sto → Option D} {ρ : Sto} {I E : ι → D} {p : ι → Bool} {xs : List ι} (hp : PlainAt ρ vs = true) (hi : fi ρ = some (xs.map I)) (hl : xs.length ≤ 1000000)
    (h : ∀ x ∈ xs, ∃ ρ1, g (I x) (wipeS ρ vs) = some ρ1 ∧ ft ρ1 = some (p x) ∧ (p x = true → fe ρ1 = some (E x))) : vLc vs fi g ft fe ρ = some (.lst ((xs.filter p).map E)) := by
  unfold vLc
  rw [if_pos hp, hi, Option.bind_some, if_pos (by simpa using hl), lcL_eq h]
  rfl
/-- with no test -/
theorem vLc_map {ι : Type} {vs : List Nat} {fi : Sto → Option (List D)} {g : D → Sto → Option Sto} {fe : Sto → Option D} {ρ : Sto} {I E : ι → D} {xs : List ι} (hp : PlainAt ρ vs = true) (hi : fi ρ = some (xs.map I)) (hl : xs.length ≤ 1000000)
    (h : ∀ x ∈ xs, ∃ ρ1, g (I x) (wipeS ρ vs) = some ρ1 ∧ fe ρ1 = some (E x)) : vLc vs fi g (fun _ => some true) fe ρ = some (.lst (xs.map E)) := by
  rw [vLc_eq (p := fun _ => true) (E := E) hp hi hl fun x m => by
    obtain ⟨ρ1, h1, h2⟩ := h x m
    exact ⟨ρ1, h1, rfl, fun _ => h2⟩, List.filter_eq_self.mpr fun _ _ => rfl]
/-- a for loop that always goes on -/
theorem forL_inv {ι : Type} {g : D → Sto → Option Sto} {b : Sto → Option Fl} {I : ι → D} (xs : List ι) (R : Nat → Sto → Prop) (h : ∀ k x ρ, xs[k]? = some x → R k ρ → ∃ ρ1 ρ2, g (I x) ρ = some ρ1 ∧ (b ρ1 = some (.nx ρ2) ∨ b ρ1 = some (.ct ρ2)) ∧ R (k + 1) ρ2) :
    ∀ {ρ : Sto}, R 0 ρ → ∃ ρ', forL g b (xs.map I) ρ = some (.nx ρ') ∧ R xs.length ρ' := by
  have aux : ∀ (ys : List ι) (k : Nat) (ρ : Sto), xs.drop k = ys → R k ρ → ∃ ρ', forL g b (ys.map I) ρ = some (.nx ρ') ∧ R (k + ys.length) ρ' := by
    intro ys
    induction ys with
    | nil => intro k ρ _ r; exact ⟨ρ, rfl, r⟩
    | cons y ys ih =>
      intro k ρ e r
      have hk : xs[k]? = some y := by
        have := congrArg (·[0]?) e
        simpa using this
      obtain ⟨ρ1, ρ2, h1, h2, h3⟩ := h k y ρ hk r
      have e2 : xs.drop (k + 1) = ys := by
        have := congrArg (List.drop 1) e
        simpa [List.drop_drop, Nat.add_comm] using this
      obtain ⟨ρ', q1, q2⟩ := ih (k + 1) ρ2 e2 h3
      refine ⟨ρ', ?_, by have e3 : k + 1 + ys.length = k + (ys.length + 1) := by omega
                         rw [e3] at q2; exact q2⟩
      rw [List.map_cons]
      unfold forL
      rw [h1, Option.bind_some]
      rcases h2 with h2 | h2 <;> (rw [h2]; exact q1)
  intro ρ r
  simpa using aux xs 0 ρ rfl r
@[simp] theorem q_sApp (i : Nat) (s : Sh) (fo : Sto → Option (List Nat)) (fe : Sto → Option (D × Sto)) (ρ : Sto) : sApp i s fo fe ρ = (fo ρ).bind fun ps => match nodeAt i ρ ps with
  | some (.seq _, .lst _) => (fe ρ).bind fun x => match nodeAt i x.2 ps with
    | some (.seq s', .lst ds) => if Sh.eqb s' s && decide (ds.length < 1000000) then some (.nx (putAt i x.2 ps (.lst (ds ++ [x.1])))) else none
    | _ => none
  | _ => none := id rfl
@[simp] theorem q_sAugS (i : Nat) (fo : Sto → Option (List Nat)) (fi fe : Sto → Option D) (g : D → D → Option D) (ρ : Sto) : sAugS i fo fi fe g ρ = (fo ρ).bind fun ps => (fi ρ).bind fun x => match nodeAt i ρ ps with
  | some (.seq .z, .lst ds) => (lstIx i ρ ps x).bind fun j => (ds[j]?).bind fun old => (fe ρ).bind fun y => (g old y).map fun z => .nx (putAt i ρ ps (.lst (ds.set j z)))
  | _ => none := id rfl
@[simp] theorem q_lstIx (i : Nat) (ρ : Sto) (ps : List Nat) (x : D) : lstIx i ρ ps x = (match nodeAt i ρ ps, x with
  | some (.seq _, .lst ds), .int k => ixN ds.length k
  | _, _ => none) := id rfl
@[simp] theorem q_gSet (i : Nat) (s : Sh) (fo : Sto → Option (List Nat)) (fi : Sto → Option D) (d : D) (ρ : Sto) : gSet i s fo fi d ρ = (fo ρ).bind fun ps => (fi ρ).bind fun x => match nodeAt i ρ ps with
  | some (.seq s', .lst ds) => if Sh.eqb s' s then (lstIx i ρ ps x).map fun j => putAt i ρ ps (.lst (ds.set j d)) else none
  | _ => none := id rfl
theorem ixN_nat {n k : Nat} (h : k < n) : ixN n (k : Int) = some k := by simp [ixN, h]
@[simp] theorem q_vChain (g g' : D → D → Option D) (fa fb fc : Sto → Option D) (ρ : Sto) : vChain g g' fa fb fc ρ = (fa ρ).bind fun x => (fb ρ).bind fun y => match g x y with
  | some (.bl true) => (fc ρ).bind fun z => g' y z
  | some (.bl false) => some (.bl false)
  | _ => none := id rfl
@[simp] theorem q_vEnum (f : Sto → Option D) (ρ : Sto) : vEnum f ρ = ((f ρ).bind dItems).map dEnum := id rfl
theorem dEnum_map {n : Nat} (E : Nat → D) : dEnum ((List.range n).map E) = (List.range n).map fun i => .tup [.int (i : Nat), E i] := by
  unfold dEnum
  rw [List.length_map, List.length_range]
  refine List.map_congr_left fun i m => ?_
  have := List.mem_range.mp m
  simp [this]
/-! ### the keys of a dict made over a list of ints -/
def kfold (acc : List Int) : List Int → List Int
  | [] => acc
  | x :: xs => kfold (if x ∈ acc then acc else acc ++ [x]) xs
theorem kfold_mem {k : Int} : ∀ {xs acc : List Int}, k ∈ kfold acc xs ↔ k ∈ acc ∨ k ∈ xs
  | [], acc => by simp [kfold]
  | x :: xs, acc => by
    unfold kfold
    rw [kfold_mem]
    split
    · rename_i h
      simp only [List.mem_cons]
      constructor
      · rintro (h | h) <;> simp [h]
      · rintro (h | rfl | h) <;> simp [*]
    · simp only [List.mem_append, List.mem_cons, List.not_mem_nil, or_false]
      exact or_assoc
theorem kfold_nodup : ∀ {xs acc : List Int}, acc.Nodup → (kfold acc xs).Nodup
  | [], acc, h => h
  | x :: xs, acc, h => by
    unfold kfold
    refine kfold_nodup ?_
    split
    · exact h
    · rename_i hx
      refine List.nodup_append.mpr ⟨h, List.nodup_cons.mpr ⟨List.not_mem_nil, List.nodup_nil⟩, fun a ha b hb e => ?_⟩
      rw [List.mem_singleton.mp hb] at e
      exact hx (e ▸ ha)
theorem kfold_len : ∀ {xs acc : List Int}, (kfold acc xs).length ≤ acc.length + xs.length
  | [], acc => by simp [kfold]
  | x :: xs, acc => by
    unfold kfold
    have := kfold_len (xs := xs) (acc := if x ∈ acc then acc else acc ++ [x])
    refine Nat.le_trans this ?_
    split
    · simp
    · simp; omega
theorem isort_kfold (ns : List Int) : isort (kfold [] ns) = sset ns := by
  refine strict_ext ?_ (sset_sorted ns) fun k => ?_
  · have h1 := isort_le (kfold [] ns)
    have h2 : (isort (kfold [] ns)).Nodup := (isort_perm _).nodup_iff.mpr (kfold_nodup List.nodup_nil)
    have h3 := List.pairwise_and_iff.mpr ⟨h1, h2⟩
    exact h3.imp fun h => by omega
  · rw [(isort_perm _).mem_iff, kfold_mem, sset_mem]; simp
theorem keyInts_map (ns : List Int) : keyInts (ns.map Sum.inl) = some ns := by
  induction ns with
  | nil => rfl
  | cons n ns ih => simp [keyInts, ih]
theorem dSortedDK_keys {ns : List Int} {ds : List D} (h : ns.length < 64) : dSortedDK (.dicK ((kfold [] ns).map Sum.inl) ds) = some (.lst ((sset ns).map .int)) := by
  simp only [dSortedDK]
  rw [keyInts_map, Option.bind_some, if_pos (by have := kfold_len (xs := ns) (acc := []); simp at this; omega), isort_kfold]
theorem dcL_keys {g : D → Sto → Option Sto} {ft : Sto → Option Bool} {fk fv : Sto → Option D} {ρ : Sto} : ∀ {ns : List Int}, (∀ n ∈ ns, ∃ ρ1 v, g (.int n) ρ = some ρ1 ∧ ft ρ1 = some true ∧ fk ρ1 = some (.int n) ∧ fv ρ1 = some v) → ∀ (acc : List Int) (ds : List D),
    ∃ ds', dcL g ft fk fv ρ (ns.map .int) (acc.map Sum.inl, ds) = some ((kfold acc ns).map Sum.inl, ds')
  | [], _, acc, ds => ⟨ds, rfl⟩
  | n :: ns, h, acc, ds => by
    obtain ⟨ρ1, v, h1, h2, h3, h4⟩ := h n List.mem_cons_self
    rw [List.map_cons]
    unfold dcL kfold
    rw [h1, Option.bind_some, h2, Option.bind_some, if_pos rfl, h3, Option.bind_some]
    have e : dKey (.int n) = some (.inl n) := rfl
    rw [e, Option.bind_some, h4, Option.bind_some]
    have key : ∃ ds2, dputK (acc.map Sum.inl) ds (.inl n) v = ((if n ∈ acc then acc else acc ++ [n]).map Sum.inl, ds2) := by
      unfold dputK
      by_cases hn : n ∈ acc
      · rw [if_pos hn, if_pos (by simp [hn])]; exact ⟨_, rfl⟩
      · rw [if_neg hn, if_neg (by simp; exact hn)]; exact ⟨ds ++ [v], by simp⟩
    obtain ⟨ds2, e2⟩ := key
    simp only
    rw [e2]
    exact dcL_keys (fun m hm => h m (List.mem_cons_of_mem _ hm)) _ ds2
theorem vDc_keys {vs : List Nat} {fi : Sto → Option (List D)} {g : D → Sto → Option Sto} {ft : Sto → Option Bool} {fk fv : Sto → Option D} {ρ : Sto} {ns : List Int} (hp : PlainAt ρ vs = true) (hi : fi ρ = some (ns.map .int)) (hl : ns.length ≤ 1000000)
    (h : ∀ n ∈ ns, ∃ ρ1 v, g (.int n) (wipeS ρ vs) = some ρ1 ∧ ft ρ1 = some true ∧ fk ρ1 = some (.int n) ∧ fv ρ1 = some v) : ∃ ds', vDc vs fi g ft fk fv ρ = some (.dicK ((kfold [] ns).map Sum.inl) ds') := by
  obtain ⟨ds', e⟩ := dcL_keys h [] []
  refine ⟨ds', ?_⟩
  unfold vDc
  rw [if_pos hp, hi, Option.bind_some, if_pos (by simpa using hl)]
  rw [show (([] : List L2.Key), ([] : List D)) = (([] : List Int).map Sum.inl, []) from rfl, e]
  rfl
theorem dSortedSet_f {ι : Type} {F : ι → Int} {xs : List ι} (h : xs.length < 64) : dSortedSet (.lst (xs.map fun i => .int (F i))) = some (.lst ((sset (xs.map F)).map .int)) := by
  simp only [dSortedSet]
  rw [dInts_int, Option.bind_some, if_pos (by simpa using h)]
theorem dSortedSet_int {ns : List Int} (h : ns.length < 64) : dSortedSet (.lst (ns.map .int)) = some (.lst ((sset ns).map .int)) := by
  simp only [dSortedSet]
  rw [dInts_map, Option.bind_some, if_pos h]
end VL

set_option Elab.async false
set_option linter.all false
set_option maxRecDepth 100000
set_option maxHeartbeats 4000000
noncomputable section
namespace K09
open PySem PySem.Spec PyProof.Rows L2 VL
/-! the text by places -/
def top (i : Nat) : Stmt := PySem.Challenge.pw_whobeatwhom_k09_whole_walks_of_four_hund.main.body.getD i (.Pass ⟨0, 0, 0, 0⟩)
structure Txt (K : PySem.W.Frag) (mg : Str → Option Value) (C : Addr) : Prop where
  b_all : mg "all" = none
  b_bool : mg "bool" = none
  b_enumerate : mg "enumerate" = none
  b_int : mg "int" = none
  b_isinstance : mg "isinstance" = none
  b_len : mg "len" = none
  b_list : mg "list" = none
  b_range : mg "range" = none
  b_set : mg "set" = none
  b_sorted : mg "sorted" = none
  b_str : mg "str" = none
  b_sum : mg "sum" = none
  b_tuple : mg "tuple" = none
  c_MOST_LENGTH : ∃ t, mg "MOST_LENGTH" = some (.int 400 t)
  c_MOST_SIDES : ∃ t, mg "MOST_SIDES" = some (.int 12 t)
  f_everyone : FldC K C "everyone"
  f_rows : FldC K C "rows"
  f_size : FldC K C "size"
/-! ### is_integer -/
abbrev st_is_integer : Stmt := top 6
theorem sc_is_integer : FnScope ["value"] ["value"] (defScope st_is_integer) := ⟨rfl, rfl, rfl, by decide +kernel, rfl, by decide +kernel, by decide +kernel⟩
def fb_is_integer : Sto → Option Fl :=
  (sRet (up (vAndF (vIsi "int" (vVarZ 0)) (vNotF (vIsi "bool" (vVarZ 0))))))
def m_is_integer : List D → Option D := fun ds => endP (fb_is_integer (argZ ds ++ List.replicate 0 none))
theorem ok_is_integer {P : Program} {w : World} {K : PySem.W.Frag} {mg : Str → Option Value} {base : Heap} {C : Addr} {f : Addr} {fd : FuncData} (F : Fun K "is_integer" "is_integer" st_is_integer f fd) (T : Txt K mg C)  : FnOk P w K mg base CX0 1 f fd ["value"] (spP K 1 .z m_is_integer) :=
  fn_pure (fb := fb_is_integer) F sc_is_integer (fun cdv A outer s H E hr => ((ssv_one (sv_ret (FP.ef (PV.fp (pv_and (pv_isiT kit_int bt_int T.b_isinstance T.b_int (pv_varZ (i := 0) rfl (vis_of rfl)) rfl rfl) (pv_one (pv_not (pv_isiT kit_bool bt_bool T.b_isinstance T.b_bool (pv_varZ (i := 0) rfl (vis_of rfl)) rfl rfl))))))))
    : SSV (BCx P w K mg base _ _ st_is_integer f cdv A outer s H E) .z [] (defBody st_is_integer) (fb_is_integer))) (fun _ _ _ h => h)
/-! ### bit -/
abbrev st_bit : Stmt := top 7
theorem sc_bit : FnScope ["number", "at"] ["number", "at"] (defScope st_bit) := ⟨rfl, rfl, rfl, by decide +kernel, rfl, by decide +kernel, by decide +kernel⟩
def fb_bit : Sto → Option Fl :=
  (sRet (up (v2 dEq (v2 dAnd (v2 dShr (vVarZ 0) (vVarZ 1)) (vC (.int 1))) (vC (.int 1)))))
def m_bit : List D → Option D := fun ds => endP (fb_bit (argZ ds ++ List.replicate 0 none))
theorem ok_bit {P : Program} {w : World} {K : PySem.W.Frag} {mg : Str → Option Value} {base : Heap} {C : Addr} {f : Addr} {fd : FuncData} (F : Fun K "bit" "bit" st_bit f fd) (T : Txt K mg C)  : FnOk P w K mg base CX0 1 f fd ["number", "at"] (spP K 2 .z m_bit) :=
  fn_pure (fb := fb_bit) F sc_bit (fun cdv A outer s H E hr => ((ssv_one (sv_ret (FP.ef (PV.fp (pv_cmp (op_eqD hr.units) od_eq (pv_bin op_and od_and (pv_bin op_shr od_shr (pv_varZ (i := 0) rfl (vis_of rfl)) (pv_varZ (i := 1) rfl (vis_of rfl))) pv_int) pv_int (nomark _))))))
    : SSV (BCx P w K mg base _ _ st_bit f cdv A outer s H E) .z [] (defBody st_bit) (fb_bit))) (fun _ _ _ h => h)
/-! ### members -/
abbrev st_members : Stmt := top 8
theorem sc_members : FnScope ["number", "at"] ["number"] (defScope st_members) := ⟨rfl, rfl, rfl, by decide +kernel, rfl, by decide +kernel, by decide +kernel⟩
def fb_members_c1 : Sto → Option D :=
  vLc [1] (vRng1 (aCons (vC (.int 12)) aNil)) (gN 1) (vB (vCall (n := 2) m_bit (aCons (vVarZ 0) (aCons (vVarZ 1) aNil)))) (vVarZ 1)
def fb_members : Sto → Option Fl :=
  (sRet (up (v1 dTuple fb_members_c1)))
def m_members : List D → Option D := fun ds => endP (fb_members (argZ ds ++ List.replicate 1 none))
theorem ok_members {P : Program} {w : World} {K : PySem.W.Frag} {mg : Str → Option Value} {base : Heap} {C : Addr} {f : Addr} {fd : FuncData} (F : Fun K "members" "members" st_members f fd) (T : Txt K mg C) (c_bit : Fc P w K mg base "bit" ["number", "at"] 1 (spP K 2 .z m_bit)) : FnOk P w K mg base CX0 2 f fd ["number"] (spP K 1 .z m_members) :=
  fn_pure (fb := fb_members) F sc_members (fun cdv A outer s H E hr => ((ssv_one (sv_ret (FP.ef (PV.fp (pv_tupC T.b_tuple rfl (FP.pv (fp_lc (own := [("at", 1)]) rfl sc_members.nd (ip_range1 rfl T.b_range (pav_cons (pv_globE rfl T.c_MOST_SIDES) pav_nil)) (blkOk_by (by rfl)) (fun _ _ _ _ _ => (pgv_name (i := 1) sc_members.nd rfl (loc_of rfl))) (fun _ _ _ _ _ => (ptsv_one (pt_valV (FP.pv (fp_call c_bit.ok (hr.mono (by decide)) rfl c_bit.g c_bit.q c_bit.b (pav_cons (pv_varZ (i := 0) rfl (vis_of rfl)) (pav_cons (pv_varZ (i := 1) rfl (vis_of rfl)) pav_nil))))))) (fun _ _ _ _ _ => (PV.fp (pv_varZ (i := 1) rfl (vis_of rfl)))) rfl)) rfl)))))
    : SSV (BCx P w K mg base _ _ st_members f cdv A outer s H E) .z [] (defBody st_members) (fb_members))) (fun _ _ _ h => h)
/-! ### Table.__init__ -/
abbrev st_Table_init : Stmt := inClass (top 9) 0
theorem sc_Table_init : FnScope ["self", "rows", "one", "other", "row"] ["self", "rows"] (defScope st_Table_init) := ⟨rfl, rfl, rfl, by decide +kernel, rfl, by decide +kernel, by decide +kernel⟩
def fb_Table_init_c1 : Sto → Option D :=
  vLc [4] (vItems (vVarZ 1)) (gN 4) (fun _ => some true) (vAndF (vCall (n := 1) m_is_integer (aCons (vVarZ 4) aNil)) (vChain dLe dLt (vC (.int 0)) (vVarZ 4) (v2 dShl (vC (.int 1)) (v1 dLen (vVarZ 1)))))
def fb_Table_init_b1 : Sto → Option Fl :=
  (sIf (upT (tAndF (vB (v2 dEq (vCall (n := 2) m_bit (aCons (v2 dIx (vVarZ 1) (vVarZ 2)) (aCons (vVarZ 3) aNil))) (vCall (n := 2) m_bit (aCons (v2 dIx (vVarZ 1) (vVarZ 3)) (aCons (vVarZ 2) aNil))))) (tOrF (vB (v2 dNe (vVarZ 2) (vVarZ 3))) (vB (vCall (n := 2) m_bit (aCons (v2 dIx (vVarZ 1) (vVarZ 2)) (aCons (vVarZ 2) aNil)))))))
      sNever
      sNext)
def fb_Table_init_b2 : Sto → Option Fl :=
  (sFor (upI (vRng1 (aCons (v2 dAddI (vVarZ 2) (vC (.int 1))) aNil))) (gN 3) fb_Table_init_b1)
def fb_Table_init (C : Addr) : Sto → Option Fl :=
  (sSeq (sIf (upT (tOrF (tNotF (vB (vIsi "tuple" (vVarZ 1)))) (tNotF (vB (vChain dLt dLe (vC (.int 0)) (v1 dLen (vVarZ 1)) (vC (.int 12)))))))
      sNever
      sNext)
      (sSeq (sIf (upT (tNotF (vB (v1 dAll fb_Table_init_c1))))
      sNever
      sNext)
      (sSeq (sFor (upI (vRng1 (aCons (v1 dLen (vVarZ 1)) aNil))) (gN 2) fb_Table_init_b2)
      (sSeq (sFld 0 C "rows" (up (vVarZ 1)))
      (sSeq (sFld 0 C "size" (up (v1 dLen (vVarZ 1))))
      (sFld 0 C "everyone" (up (v2 dSub (v2 dShl (vC (.int 1)) (v1 dLen (vVarZ 1))) (vC (.int 1))))))))))
def m_Table_init (C : Addr) : List D → Option (D × D) := fun ds => endIO 0 (.obj fun _ => .z) (fb_Table_init C (argS 0 (.obj fun _ => .z) ds ++ List.replicate 3 none))
theorem ok_Table_init {P : Program} {w : World} {K : PySem.W.Frag} {mg : Str → Option Value} {base : Heap} {C : Addr} {f : Addr} {fd : FuncData} (F : Fun K "__init__" "Table.__init__" st_Table_init f fd) (T : Txt K mg C) (c_is_integer : Fc P w K mg base "is_integer" ["value"] 1 (spP K 1 .z m_is_integer)) (c_bit : Fc P w K mg base "bit" ["number", "at"] 1 (spP K 2 .z m_bit)) : FnOk P w K mg base CX0 2 f fd ["self", "rows"] (spIO K 2 0 (.obj fun _ => .z) .z (m_Table_init C)) :=
  fn_io (fb := fb_Table_init C) F sc_Table_init (by decide) (fun cdv A outer s H E hr => ((ssv_cons (sv_if (PTV.etv (PWV.pt (pw_orV (pt_notV (pt_valV (pv_isiT kit_tuple bt_tuple T.b_isinstance T.b_tuple (pv_varZ (i := 1) rfl (vis_of rfl)) rfl rfl))) (pw_or1V (pt_notV (pt_chainV op_lt op_le od_lt od_le pv_int (pv_len T.b_len (pv_varZ (i := 1) rfl (vis_of rfl)) rfl) (pv_globE rfl T.c_MOST_SIDES)))))))
      ssv_never
      ssv_nil)
      (ssv_cons (sv_if (PTV.etv (pt_notV (pt_valV (pv_all T.b_all rfl (FP.pv (fp_lc (own := [("row", 4)]) rfl sc_Table_init.nd (ip_seq (pv_varZ (i := 1) rfl (vis_of rfl))) (blkOk_by (by rfl)) (fun _ _ _ _ _ => (pgv_name (i := 4) sc_Table_init.nd rfl (loc_of rfl))) (fun _ _ _ _ _ => ptsv_nil) (fun _ _ _ _ _ => (PV.fp (pv_and (FP.pv (fp_call c_is_integer.ok (hr.mono (by decide)) rfl c_is_integer.g c_is_integer.q c_is_integer.b (pav_cons (pv_varZ (i := 4) rfl (vis_of rfl)) pav_nil))) (pv_one (pv_chain op_le op_lt od_le od_lt pv_int (pv_varZ (i := 4) rfl (vis_of rfl)) (pv_bin op_shl od_shl pv_int (pv_len T.b_len (pv_varZ (i := 1) rfl (vis_of rfl)) rfl))))))) rfl)) rfl))))
      ssv_never
      ssv_nil)
      (ssv_cons (sv_for PassesOwn.never rfl (IPV.iev (ip_range1 rfl T.b_range (pav_cons (pv_len T.b_len (pv_varZ (i := 1) rfl (vis_of rfl)) rfl) pav_nil))) (pgv_name (i := 2) sc_Table_init.nd rfl (loc_of rfl))
      (ssv_one (sv_for PassesOwn.never rfl (IPV.iev (ip_range1 rfl T.b_range (pav_cons (pv_bin op_add od_addI (pv_varZ (i := 2) rfl (vis_of rfl)) pv_int) pav_nil))) (pgv_name (i := 3) sc_Table_init.nd rfl (loc_of rfl))
      (ssv_one (sv_if (PTV.etv (PWV.pt (pw_andV (pt_cmpV (op_eqD hr.units) od_eq (FP.pv (fp_call c_bit.ok (hr.mono (by decide)) rfl c_bit.g c_bit.q c_bit.b (pav_cons (pv_ix ix_seq (od_ix (by rfl)) (pv_varZ (i := 1) rfl (vis_of rfl)) (pv_varZ (i := 2) rfl (vis_of rfl)) (by intro _ _; rfl)) (pav_cons (pv_varZ (i := 3) rfl (vis_of rfl)) pav_nil)))) (FP.pv (fp_call c_bit.ok (hr.mono (by decide)) rfl c_bit.g c_bit.q c_bit.b (pav_cons (pv_ix ix_seq (od_ix (by rfl)) (pv_varZ (i := 1) rfl (vis_of rfl)) (pv_varZ (i := 3) rfl (vis_of rfl)) (by intro _ _; rfl)) (pav_cons (pv_varZ (i := 2) rfl (vis_of rfl)) pav_nil)))) (nomark _)) (pw_and1V (PWV.pt (pw_orV (pt_cmpV (op_neD hr.units) od_ne (pv_varZ (i := 2) rfl (vis_of rfl)) (pv_varZ (i := 3) rfl (vis_of rfl)) (nomark _)) (pw_or1V (pt_valV (FP.pv (fp_call c_bit.ok (hr.mono (by decide)) rfl c_bit.g c_bit.q c_bit.b (pav_cons (pv_ix ix_seq (od_ix (by rfl)) (pv_varZ (i := 1) rfl (vis_of rfl)) (pv_varZ (i := 2) rfl (vis_of rfl)) (by intro _ _; rfl)) (pav_cons (pv_varZ (i := 2) rfl (vis_of rfl)) pav_nil))))))))))))
      ssv_never
      ssv_nil)) rfl)) rfl)
      (ssv_cons (sv_fldN (i := 0) rfl (vis_of rfl) T.f_rows (PV.ev (pv_varZ (i := 1) rfl (vis_of rfl))))
      (ssv_cons (sv_fldN (i := 0) rfl (vis_of rfl) T.f_size (PV.ev (pv_len T.b_len (pv_varZ (i := 1) rfl (vis_of rfl)) rfl)))
      (ssv_one (sv_fldN (i := 0) rfl (vis_of rfl) T.f_everyone (PV.ev (pv_bin op_sub od_sub (pv_bin op_shl od_shl pv_int (pv_len T.b_len (pv_varZ (i := 1) rfl (vis_of rfl)) rfl)) pv_int)))))))))
    : SSV (BCx P w K mg base _ _ st_Table_init f cdv A outer s H E) .z [0] (defBody st_Table_init) (fb_Table_init C))) (fun _ _ _ h => h)
/-! ### look_at_length -/
abbrev st_look_at_length : Stmt := top 12
theorem sc_look_at_length : FnScope ["value"] ["value"] (defScope st_look_at_length) := ⟨rfl, rfl, rfl, by decide +kernel, rfl, by decide +kernel, by decide +kernel⟩
def fb_look_at_length : Sto → Option Fl :=
  (sIf (upT (tOrF (tNotF (vB (vCall (n := 1) m_is_integer (aCons (vVarZ 0) aNil)))) (tNotF (vB (vChain dLe dLe (vC (.int 0)) (vVarZ 0) (vC (.int 400)))))))
      sNever
      sNext)
def m_look_at_length : List D → Option D := fun ds => endP (fb_look_at_length (argZ ds ++ List.replicate 0 none))
theorem ok_look_at_length {P : Program} {w : World} {K : PySem.W.Frag} {mg : Str → Option Value} {base : Heap} {C : Addr} {f : Addr} {fd : FuncData} (F : Fun K "look_at_length" "look_at_length" st_look_at_length f fd) (T : Txt K mg C) (c_is_integer : Fc P w K mg base "is_integer" ["value"] 1 (spP K 1 .z m_is_integer)) : FnOk P w K mg base CX0 2 f fd ["value"] (spP K 1 .z m_look_at_length) :=
  fn_pure (fb := fb_look_at_length) F sc_look_at_length (fun cdv A outer s H E hr => ((ssv_one (sv_if (PTV.etv (PWV.pt (pw_orV (pt_notV (pt_valV (FP.pv (fp_call c_is_integer.ok (hr.mono (by decide)) rfl c_is_integer.g c_is_integer.q c_is_integer.b (pav_cons (pv_varZ (i := 0) rfl (vis_of rfl)) pav_nil))))) (pw_or1V (pt_notV (pt_chainV op_le op_le od_le od_le pv_int (pv_varZ (i := 0) rfl (vis_of rfl)) (pv_globE rfl T.c_MOST_LENGTH)))))))
      ssv_never
      ssv_nil))
    : SSV (BCx P w K mg base _ _ st_look_at_length f cdv A outer s H E) .z [] (defBody st_look_at_length) (fb_look_at_length))) (fun _ _ _ h => h)
/-! ### walks_from -/
abbrev st_walks_from : Stmt := top 13
theorem sc_walks_from : FnScope ["table", "length", "found", "_", "side", "other"] ["table", "length"] (defScope st_walks_from) := ⟨rfl, rfl, rfl, by decide +kernel, rfl, by decide +kernel, by decide +kernel⟩
def fb_walks_from_c1 (C : Addr) : Sto → Option D :=
  vLc [5] (vItems (vCall (n := 1) m_members (aCons (v2 dIx (vFld C "rows" (vVarZ 0)) (vVarZ 4)) aNil))) (gN 5) (fun _ => some true) (v2 dIx (vVarZ 2) (vVarZ 5))
def fb_walks_from_c2 (C : Addr) : Sto → Option D :=
  vLc [4] (vRng1 (aCons (vFld C "size" (vVarZ 0)) aNil)) (gN 4) (fun _ => some true) (v1 dSum (fb_walks_from_c1 C))
def fb_walks_from_b1 (C : Addr) : Sto → Option Fl :=
  (sSet 2 .z (up (fb_walks_from_c2 C)))
def fb_walks_from (C : Addr) : Sto → Option Fl :=
  (sSeq (sDrop (up (vCall (n := 1) m_look_at_length (aCons (vVarZ 1) aNil))))
      (sSeq (sSet 2 .z (up (v2 dRep (vLst (aCons (vC (.int 1)) aNil)) (vFld C "size" (vVarZ 0)))))
      (sSeq (sFor (upI (vRng1 (aCons (vVarZ 1) aNil))) (gN 3) (fb_walks_from_b1 C))
      (sRet (up (v1 dTuple (vVarZ 2)))))))
def m_walks_from (C : Addr) : List D → Option D := fun ds => endP (fb_walks_from C (argZ ds ++ List.replicate 4 none))
theorem ok_walks_from {P : Program} {w : World} {K : PySem.W.Frag} {mg : Str → Option Value} {base : Heap} {C : Addr} {f : Addr} {fd : FuncData} (F : Fun K "walks_from" "walks_from" st_walks_from f fd) (T : Txt K mg C) (c_look_at_length : Fc P w K mg base "look_at_length" ["value"] 2 (spP K 1 .z m_look_at_length)) (c_members : Fc P w K mg base "members" ["number"] 2 (spP K 1 .z m_members)) : FnOk P w K mg base CX0 3 f fd ["table", "length"] (spP K 2 .z (m_walks_from C)) :=
  fn_pure (fb := fb_walks_from C) F sc_walks_from (fun cdv A outer s H E hr => ((ssv_cons (sv_expr (PV.ev (FP.pv (fp_call c_look_at_length.ok (hr.mono (by decide)) rfl c_look_at_length.g c_look_at_length.q c_look_at_length.b (pav_cons (pv_varZ (i := 1) rfl (vis_of rfl)) pav_nil)))))
      (ssv_cons (sv_set (i := 2) sc_walks_from.nd rfl (loc_of rfl) (FP.ef (PV.fp (FP.pv (fp_bin op_rep of_rep (FP.pb (fp_lst (pav_cons pv_int pav_nil))) (pv_fld T.f_size (pv_varZ (i := 0) rfl (vis_of rfl))))))) rfl)
      (ssv_cons (sv_for PassesOwn.never rfl (IPV.iev (ip_range1 rfl T.b_range (pav_cons (pv_varZ (i := 1) rfl (vis_of rfl)) pav_nil))) (pgv_name (i := 3) sc_walks_from.nd rfl (loc_of rfl))
      (ssv_one (sv_set (i := 2) sc_walks_from.nd rfl (loc_of rfl) (FP.ef (PV.fp (FP.pv (fp_lc (own := [("side", 4)]) rfl sc_walks_from.nd (ip_range1 rfl T.b_range (pav_cons (pv_fld T.f_size (pv_varZ (i := 0) rfl (vis_of rfl))) pav_nil)) (blkOk_by (by rfl)) (fun _ _ _ _ _ => (pgv_name (i := 4) sc_walks_from.nd rfl (loc_of rfl))) (fun _ _ _ _ _ => ptsv_nil) (fun _ _ _ _ _ => (PV.fp (pv_sum T.b_sum rfl (FP.pv (fp_lc (own := [("other", 5)]) rfl sc_walks_from.nd (ip_seq (FP.pv (fp_call c_members.ok (hr.mono (by decide)) rfl c_members.g c_members.q c_members.b (pav_cons (pv_ix ix_seq (od_ix (by rfl)) (pv_fld T.f_rows (pv_varZ (i := 0) rfl (vis_of rfl))) (pv_varZ (i := 4) rfl (vis_of rfl)) (by intro _ _; rfl)) pav_nil)))) (blkOk_by (by rfl)) (fun _ _ _ _ _ => (pgv_name (i := 5) sc_walks_from.nd rfl (loc_of rfl))) (fun _ _ _ _ _ => ptsv_nil) (fun _ _ _ _ _ => (PV.fp (pv_ix ix_seq (od_ix (by rfl)) (pv_varZ (i := 2) rfl (vis_of rfl)) (pv_varZ (i := 5) rfl (vis_of rfl)) (by intro _ _; rfl)))) rfl)) rfl))) rfl)))) rfl)) rfl)
      (ssv_one (sv_ret (FP.ef (PV.fp (pv_tupC T.b_tuple rfl (pv_varZ (i := 2) rfl (vis_of rfl)) rfl))))))))
    : SSV (BCx P w K mg base _ _ st_walks_from f cdv A outer s H E) .z [] (defBody st_walks_from) (fb_walks_from C))) (fun _ _ _ h => h)
/-! ### walks_between -/
abbrev st_walks_between : Stmt := top 14
theorem sc_walks_between : FnScope ["table", "length", "rows", "first", "here", "_", "after", "side", "other"] ["table", "length"] (defScope st_walks_between) := ⟨rfl, rfl, rfl, by decide +kernel, rfl, by decide +kernel, by decide +kernel⟩
def fb_walks_between_c1 (C : Addr) : Sto → Option D :=
  vLc [7] (vRng1 (aCons (vFld C "size" (vVarZ 0)) aNil)) (gN 7) (fun _ => some true) (v1 dInt (v2 dEq (vVarZ 7) (vVarZ 3)))
def fb_walks_between_b3 : Sto → Option Fl :=
  (sAugS 6 (lVar 6) (vVarZ 8) (v2 dIx (vVarZ 4) (vVarZ 7)) dAddI)
def fb_walks_between_b4 (C : Addr) : Sto → Option Fl :=
  (sFor (upI (vItems (vCall (n := 1) m_members (aCons (v2 dIx (vFld C "rows" (vVarZ 0)) (vVarZ 7)) aNil)))) (gN 8) fb_walks_between_b3)
def fb_walks_between_b5 (C : Addr) : Sto → Option Fl :=
  (sSeq (sSet 6 (.seq .z) (up (v2 dRep (vLst (aCons (vC (.int 0)) aNil)) (vFld C "size" (vVarZ 0)))))
      (sSeq (sFor (upI (vRng1 (aCons (vFld C "size" (vVarZ 0)) aNil))) (gN 7) (fb_walks_between_b4 C))
      (sSet 4 .z (vFrz 6))))
def fb_walks_between_b6 (C : Addr) : Sto → Option Fl :=
  (sSeq (sSet 4 (.seq .z) (up (fb_walks_between_c1 C)))
      (sSeq (sFrz 4 (sFor (upI (vRng1 (aCons (vVarZ 1) aNil))) (gN 5) (fb_walks_between_b5 C)))
      (sApp 2 .z (lVar 2) (up (v1 dTuple (vVarZ 4))))))
def fb_walks_between (C : Addr) : Sto → Option Fl :=
  (sSeq (sDrop (up (vCall (n := 1) m_look_at_length (aCons (vVarZ 1) aNil))))
      (sSeq (sSet 2 (.seq .z) (up (vLst aNil)))
      (sSeq (sFor (upI (vRng1 (aCons (vFld C "size" (vVarZ 0)) aNil))) (gN 3) (fb_walks_between_b6 C))
      (sRet (up (v1 dTuple (vVarS 2)))))))
def m_walks_between (C : Addr) : List D → Option D := fun ds => endP (fb_walks_between C (argZ ds ++ List.replicate 7 none))
theorem ok_walks_between {P : Program} {w : World} {K : PySem.W.Frag} {mg : Str → Option Value} {base : Heap} {C : Addr} {f : Addr} {fd : FuncData} (F : Fun K "walks_between" "walks_between" st_walks_between f fd) (T : Txt K mg C) (c_look_at_length : Fc P w K mg base "look_at_length" ["value"] 2 (spP K 1 .z m_look_at_length)) (c_members : Fc P w K mg base "members" ["number"] 2 (spP K 1 .z m_members)) : FnOk P w K mg base CX0 3 f fd ["table", "length"] (spP K 2 .z (m_walks_between C)) :=
  fn_pure (fb := fb_walks_between C) F sc_walks_between (fun cdv A outer s H E hr => ((ssv_cons (sv_expr (PV.ev (FP.pv (fp_call c_look_at_length.ok (hr.mono (by decide)) rfl c_look_at_length.g c_look_at_length.q c_look_at_length.b (pav_cons (pv_varZ (i := 1) rfl (vis_of rfl)) pav_nil)))))
      (ssv_cons (sv_set (i := 2) sc_walks_between.nd rfl (loc_of rfl) (FP.ef (fp_lst pav_nil)) rfl)
      (ssv_cons (sv_for PassesOwn.never rfl (IPV.iev (ip_range1 rfl T.b_range (pav_cons (pv_fld T.f_size (pv_varZ (i := 0) rfl (vis_of rfl))) pav_nil))) (pgv_name (i := 3) sc_walks_between.nd rfl (loc_of rfl))
      (ssv_cons (sv_setLc (i := 4) (own := [("side", 7)]) rfl sc_walks_between.nd rfl rfl (sw_true rfl rfl rfl rfl) (ip_range1 rfl T.b_range (pav_cons (pv_fld T.f_size (pv_varZ (i := 0) rfl (vis_of rfl))) pav_nil)) (blkOk_by (by rfl)) (fun _ _ _ _ _ => (pgv_name (i := 7) sc_walks_between.nd rfl (loc_of rfl))) (fun _ _ _ _ _ => ptsv_nil) (fun _ _ _ _ _ => (PV.fp (pv_intC T.b_int (pv_cmp (op_eqD hr.units) od_eq (pv_varZ (i := 7) rfl (vis_of rfl)) (pv_varZ (i := 3) rfl (vis_of rfl)) (nomark _)) rfl))) rfl rfl)
      (ssv_cons (sv_frz (i := 4) (sv_for PassesOwn.never rfl (IPV.iev (ip_range1 rfl T.b_range (pav_cons (pv_varZ (i := 1) rfl (vis_of rfl)) pav_nil))) (pgv_name (i := 5) sc_walks_between.nd rfl (loc_of rfl))
      (ssv_cons (sv_set (i := 6) sc_walks_between.nd rfl (loc_of rfl) (FP.ef (fp_bin op_rep of_rep (FP.pb (fp_lst (pav_cons pv_int pav_nil))) (pv_fld T.f_size (pv_varZ (i := 0) rfl (vis_of rfl))))) rfl)
      (ssv_cons (sv_for PassesOwn.never rfl (IPV.iev (ip_range1 rfl T.b_range (pav_cons (pv_fld T.f_size (pv_varZ (i := 0) rfl (vis_of rfl))) pav_nil))) (pgv_name (i := 7) sc_walks_between.nd rfl (loc_of rfl))
      (ssv_one (sv_for PassesOwn.never rfl (IPV.iev (ip_seq (FP.pv (fp_call c_members.ok (hr.mono (by decide)) rfl c_members.g c_members.q c_members.b (pav_cons (pv_ix ix_seq (od_ix (by rfl)) (pv_fld T.f_rows (pv_varZ (i := 0) rfl (vis_of rfl))) (pv_varZ (i := 7) rfl (vis_of rfl)) (by intro _ _; rfl)) pav_nil))))) (pgv_name (i := 8) sc_walks_between.nd rfl (loc_of rfl))
      (ssv_one (sv_augS (i := 6) (lv_var (i := 6) rfl (vis_of rfl)) (pv_varZ (i := 8) rfl (vis_of rfl)) (pv_ix ix_seq (od_ix (by rfl)) (pv_varZ (i := 4) rfl (vis_of rfl)) (pv_varZ (i := 7) rfl (vis_of rfl)) (by intro _ _; rfl)) iop_add od_addI)) rfl)) rfl)
      (ssv_one (sv_set (i := 4) sc_walks_between.nd rfl (loc_of rfl) (EV.ef (ev_frz (i := 6) rfl (vis_of rfl))) rfl)))) rfl))
      (ssv_one (sv_append (lv_var (i := 2) rfl (vis_of rfl)) (FP.ef (PV.fp (pv_tupC T.b_tuple rfl (pv_varZ (i := 4) rfl (vis_of rfl)) rfl))) rfl)))) rfl)
      (ssv_one (sv_ret (FP.ef (PV.fp (pv_tupC T.b_tuple rfl (pv_varS (i := 2) rfl (vis_of rfl)) rfl))))))))
    : SSV (BCx P w K mg base _ _ st_walks_between f cdv A outer s H E) .z [] (defBody st_walks_between) (fb_walks_between C))) (fun _ _ _ h => h)
/-! ### closed_walks -/
abbrev st_closed_walks : Stmt := top 15
theorem sc_closed_walks : FnScope ["table", "length", "side", "row"] ["table", "length"] (defScope st_closed_walks) := ⟨rfl, rfl, rfl, by decide +kernel, rfl, by decide +kernel, by decide +kernel⟩
def fb_closed_walks_c1 (C : Addr) : Sto → Option D :=
  vLc [2, 3] (vEnum (vCall (n := 2) (m_walks_between C) (aCons (vVarZ 0) (aCons (vVarZ 1) aNil)))) (gTupF 2 (gsCons (gN 2) (gsCons (gN 3) gsNil))) (fun _ => some true) (v2 dIx (vVarZ 3) (vVarZ 2))
def fb_closed_walks (C : Addr) : Sto → Option Fl :=
  (sRet (up (v1 dSum (fb_closed_walks_c1 C))))
def m_closed_walks (C : Addr) : List D → Option D := fun ds => endP (fb_closed_walks C (argZ ds ++ List.replicate 2 none))
theorem ok_closed_walks {P : Program} {w : World} {K : PySem.W.Frag} {mg : Str → Option Value} {base : Heap} {C : Addr} {f : Addr} {fd : FuncData} (F : Fun K "closed_walks" "closed_walks" st_closed_walks f fd) (T : Txt K mg C) (c_walks_between : Fc P w K mg base "walks_between" ["table", "length"] 3 (spP K 2 .z (m_walks_between C))) : FnOk P w K mg base CX0 4 f fd ["table", "length"] (spP K 2 .z (m_closed_walks C)) :=
  fn_pure (fb := fb_closed_walks C) F sc_closed_walks (fun cdv A outer s H E hr => ((ssv_one (sv_ret (FP.ef (PV.fp (pv_sum T.b_sum rfl (FP.pv (fp_lc (own := [("side", 2), ("row", 3)]) rfl sc_closed_walks.nd (ip_enum rfl T.b_enumerate (FP.pv (fp_call c_walks_between.ok (hr.mono (by decide)) rfl c_walks_between.g c_walks_between.q c_walks_between.b (pav_cons (pv_varZ (i := 0) rfl (vis_of rfl)) (pav_cons (pv_varZ (i := 1) rfl (vis_of rfl)) pav_nil))))) (blkOk_by (by rfl)) (fun _ _ _ _ _ => (pgv_tup rfl (pgsv_cons (pgv_name (i := 2) sc_closed_walks.nd rfl (loc_of rfl)) (pgsv_cons (pgv_name (i := 3) sc_closed_walks.nd rfl (loc_of rfl)) pgsv_nil)))) (fun _ _ _ _ _ => ptsv_nil) (fun _ _ _ _ _ => (PV.fp (pv_ix ix_seq (od_ix (by rfl)) (pv_varZ (i := 3) rfl (vis_of rfl)) (pv_varZ (i := 2) rfl (vis_of rfl)) (by intro _ _; rfl)))) rfl)) rfl)))))
    : SSV (BCx P w K mg base _ _ st_closed_walks f cdv A outer s H E) .z [] (defBody st_closed_walks) (fb_closed_walks C))) (fun _ _ _ h => h)
/-! ### by_walks -/
abbrev st_by_walks : Stmt := top 16
theorem sc_by_walks : FnScope ["table", "length", "own", "found", "many", "number", "side"] ["table", "length"] (defScope st_by_walks) := ⟨rfl, rfl, rfl, by decide +kernel, rfl, by decide +kernel, by decide +kernel⟩
def fb_by_walks_c1 : Sto → Option D :=
  vDc [5] (vItems (vVarZ 2)) (gN 5) (fun _ => some true) (vVarZ 5) (vC (.bl true))
def fb_by_walks_c2 (C : Addr) : Sto → Option D :=
  vLc [6] (vRng1 (aCons (vFld C "size" (vVarZ 0)) aNil)) (gN 6) (vB (v2 dEq (v2 dIx (vVarZ 2) (vVarZ 6)) (vVarZ 4))) (vVarZ 6)
def fb_by_walks_b1 (C : Addr) : Sto → Option Fl :=
  (sApp 3 .z (lVar 3) (up (v1 dTuple (fb_by_walks_c2 C))))
def fb_by_walks (C : Addr) : Sto → Option Fl :=
  (sSeq (sSet 2 .z (up (vCall (n := 2) (m_walks_from C) (aCons (vVarZ 0) (aCons (vVarZ 1) aNil)))))
      (sSeq (sSet 3 (.seq .z) (up (vLst aNil)))
      (sSeq (sFor (upI (vItems (v1 dRev (v1 dSortedDK fb_by_walks_c1)))) (gN 4) (fb_by_walks_b1 C))
      (sRet (up (v1 dTuple (vVarS 3)))))))
def m_by_walks (C : Addr) : List D → Option D := fun ds => endP (fb_by_walks C (argZ ds ++ List.replicate 5 none))
theorem ok_by_walks {P : Program} {w : World} {K : PySem.W.Frag} {mg : Str → Option Value} {base : Heap} {C : Addr} {f : Addr} {fd : FuncData} (F : Fun K "by_walks" "by_walks" st_by_walks f fd) (T : Txt K mg C) (c_walks_from : Fc P w K mg base "walks_from" ["table", "length"] 3 (spP K 2 .z (m_walks_from C))) : FnOk P w K mg base CX0 4 f fd ["table", "length"] (spP K 2 .z (m_by_walks C)) :=
  fn_pure (fb := fb_by_walks C) F sc_by_walks (fun cdv A outer s H E hr => ((ssv_cons (sv_set (i := 2) sc_by_walks.nd rfl (loc_of rfl) (FP.ef (fp_call c_walks_from.ok (hr.mono (by decide)) rfl c_walks_from.g c_walks_from.q c_walks_from.b (pav_cons (pv_varZ (i := 0) rfl (vis_of rfl)) (pav_cons (pv_varZ (i := 1) rfl (vis_of rfl)) pav_nil)))) rfl)
      (ssv_cons (sv_set (i := 3) sc_by_walks.nd rfl (loc_of rfl) (FP.ef (fp_lst pav_nil)) rfl)
      (ssv_cons (sv_for PassesOwn.never rfl (IPV.iev (ip_seq (FP.pv (fp_rev (by rfl) (FP.pv (fp_srtDK T.b_sorted rfl (FP.pv (fp_dc (own := [("number", 5)]) rfl sc_by_walks.nd (ip_seq (pv_varZ (i := 2) rfl (vis_of rfl))) (blkOk_by (by rfl)) (fun _ _ _ _ _ => (pgv_name (i := 5) sc_by_walks.nd rfl (loc_of rfl))) (fun _ _ _ _ _ => ptsv_nil) (fun _ _ _ _ _ => (pv_varZ (i := 5) rfl (vis_of rfl))) (fun _ _ _ _ _ => pv_bl) rfl)) rfl)))))) (pgv_name (i := 4) sc_by_walks.nd rfl (loc_of rfl))
      (ssv_one (sv_append (lv_var (i := 3) rfl (vis_of rfl)) (FP.ef (PV.fp (pv_tupC T.b_tuple rfl (FP.pv (fp_lc (own := [("side", 6)]) rfl sc_by_walks.nd (ip_range1 rfl T.b_range (pav_cons (pv_fld T.f_size (pv_varZ (i := 0) rfl (vis_of rfl))) pav_nil)) (blkOk_by (by rfl)) (fun _ _ _ _ _ => (pgv_name (i := 6) sc_by_walks.nd rfl (loc_of rfl))) (fun _ _ _ _ _ => (ptsv_one (pt_cmpV (op_eqD hr.units) od_eq (pv_ix ix_seq (od_ix (by rfl)) (pv_varZ (i := 2) rfl (vis_of rfl)) (pv_varZ (i := 6) rfl (vis_of rfl)) (by intro _ _; rfl)) (pv_varZ (i := 4) rfl (vis_of rfl)) (nomark _)))) (fun _ _ _ _ _ => (PV.fp (pv_varZ (i := 6) rfl (vis_of rfl)))) rfl)) rfl))) rfl)) rfl)
      (ssv_one (sv_ret (FP.ef (PV.fp (pv_tupC T.b_tuple rfl (pv_varS (i := 3) rfl (vis_of rfl)) rfl))))))))
    : SSV (BCx P w K mg base _ _ st_by_walks f cdv A outer s H E) .z [] (defBody st_by_walks) (fb_by_walks C))) (fun _ _ _ h => h)
/-! ### steady_from -/
abbrev st_steady_from : Stmt := top 17
theorem sc_steady_from : FnScope ["table", "most", "rows", "at", "length"] ["table", "most"] (defScope st_steady_from) := ⟨rfl, rfl, rfl, by decide +kernel, rfl, by decide +kernel, by decide +kernel⟩
def fb_steady_from_c1 (C : Addr) : Sto → Option D :=
  vLc [4] (vRng1 (aCons (v2 dAddI (vVarZ 1) (vC (.int 1))) aNil)) (gN 4) (fun _ => some true) (vCall (n := 2) (m_by_walks C) (aCons (vVarZ 0) (aCons (vVarZ 4) aNil)))
def fb_steady_from_t1 : Sto → Option (Bool × Sto) :=
  (upT (tAndF (vB (v2 dGt (vVarZ 3) (vC (.int 0)))) (vB (v2 dEq (v2 dIx (vVarS 2) (v2 dSub (vVarZ 3) (vC (.int 1)))) (v2 dIx (vVarS 2) (vVarZ 1))))))
def fb_steady_from_b1 : Sto → Option Fl :=
  (sAug 3 (up (vC (.int 1))) dSub)
def fb_steady_from (C : Addr) : Sto → Option Fl :=
  (sSeq (sDrop (up (vCall (n := 1) m_look_at_length (aCons (vVarZ 1) aNil))))
      (sSeq (sSet 2 (.seq .z) (up (fb_steady_from_c1 C)))
      (sSeq (sSet 3 .z (up (vVarZ 1)))
      (sSeq (whileL fb_steady_from_t1 fb_steady_from_b1 1000)
      (sRet (up (vVarZ 3)))))))
def m_steady_from (C : Addr) : List D → Option D := fun ds => endP (fb_steady_from C (argZ ds ++ List.replicate 3 none))
theorem ok_steady_from {P : Program} {w : World} {K : PySem.W.Frag} {mg : Str → Option Value} {base : Heap} {C : Addr} {f : Addr} {fd : FuncData} (F : Fun K "steady_from" "steady_from" st_steady_from f fd) (T : Txt K mg C) (c_look_at_length : Fc P w K mg base "look_at_length" ["value"] 2 (spP K 1 .z m_look_at_length)) (c_by_walks : Fc P w K mg base "by_walks" ["table", "length"] 4 (spP K 2 .z (m_by_walks C))) : FnOk P w K mg base CX0 5 f fd ["table", "most"] (spP K 2 .z (m_steady_from C)) :=
  fn_pure (fb := fb_steady_from C) F sc_steady_from (fun cdv A outer s H E hr => ((ssv_cons (sv_expr (PV.ev (FP.pv (fp_call c_look_at_length.ok (hr.mono (by decide)) rfl c_look_at_length.g c_look_at_length.q c_look_at_length.b (pav_cons (pv_varZ (i := 1) rfl (vis_of rfl)) pav_nil)))))
      (ssv_cons (sv_setLc (i := 2) (own := [("length", 4)]) rfl sc_steady_from.nd rfl rfl (sw_true rfl rfl rfl rfl) (ip_range1 rfl T.b_range (pav_cons (pv_bin op_add od_addI (pv_varZ (i := 1) rfl (vis_of rfl)) pv_int) pav_nil)) (blkOk_by (by rfl)) (fun _ _ _ _ _ => (pgv_name (i := 4) sc_steady_from.nd rfl (loc_of rfl))) (fun _ _ _ _ _ => ptsv_nil) (fun _ _ _ _ _ => (fp_call c_by_walks.ok (hr.mono (by decide)) rfl c_by_walks.g c_by_walks.q c_by_walks.b (pav_cons (pv_varZ (i := 0) rfl (vis_of rfl)) (pav_cons (pv_varZ (i := 4) rfl (vis_of rfl)) pav_nil)))) rfl rfl)
      (ssv_cons (sv_set (i := 3) sc_steady_from.nd rfl (loc_of rfl) (FP.ef (PV.fp (pv_varZ (i := 1) rfl (vis_of rfl)))) rfl)
      (ssv_cons (sv_while 1000 PassesOwn.never (PTV.etv (PWV.pt (pw_andV (pt_cmpV op_gt od_gt (pv_varZ (i := 3) rfl (vis_of rfl)) pv_int (nomark _)) (pw_and1V (pt_cmpV (op_eqD hr.units) od_eq (pv_ix ix_seq (od_ix (by rfl)) (pv_varS (i := 2) rfl (vis_of rfl)) (pv_bin op_sub od_sub (pv_varZ (i := 3) rfl (vis_of rfl)) pv_int) (by intro _ _; rfl)) (pv_ix ix_seq (od_ix (by rfl)) (pv_varS (i := 2) rfl (vis_of rfl)) (pv_varZ (i := 1) rfl (vis_of rfl)) (by intro _ _; rfl)) (nomark _))))))
      (ssv_one (sv_aug (i := 3) sc_steady_from.nd rfl (loc_of rfl) (PV.ev pv_int) iop_sub od_sub rfl)))
      (ssv_one (sv_ret (FP.ef (PV.fp (pv_varZ (i := 3) rfl (vis_of rfl))))))))))
    : SSV (BCx P w K mg base _ _ st_steady_from f cdv A outer s H E) .z [] (defBody st_steady_from) (fb_steady_from C))) (fun _ _ _ h => h)
/-! ### _law_draws -/
abbrev st__law_draws : Stmt := top 19
theorem sc__law_draws : FnScope ["script"] ["script"] (defScope st__law_draws) := ⟨rfl, rfl, rfl, by decide +kernel, rfl, by decide +kernel, by decide +kernel⟩
def fb__law_draws : Sto → Option Fl :=
  (sRet (up (vLst (aCons (v1 dList (vVarZ 0)) (aCons (vC (.int 0)) (aCons (vC (.int 0)) (aCons (vC (.int 1)) aNil)))))))
def m__law_draws : List D → Option D := fun ds => endP (fb__law_draws (argZ ds ++ List.replicate 0 none))
theorem ok__law_draws {P : Program} {w : World} {K : PySem.W.Frag} {mg : Str → Option Value} {base : Heap} {C : Addr} {f : Addr} {fd : FuncData} (F : Fun K "_law_draws" "_law_draws" st__law_draws f fd) (T : Txt K mg C)  : FnOk P w K mg base CX0 1 f fd ["script"] (spP K 1 (.seq .z) m__law_draws) :=
  fn_pure (fb := fb__law_draws) F sc__law_draws (fun cdv A outer s H E hr => ((ssv_one (sv_ret (FP.ef (fp_lst (pav_cons (FP.pv (fp_lstC T.b_list rfl (pv_varZ (i := 0) rfl (vis_of rfl)) rfl)) (pav_cons pv_int (pav_cons pv_int (pav_cons pv_int pav_nil))))))))
    : SSV (BCx P w K mg base _ _ st__law_draws f cdv A outer s H E) (.seq .z) [] (defBody st__law_draws) (fb__law_draws))) (fun _ _ _ h => h)
/-! ### _law_draw -/
abbrev st__law_draw : Stmt := top 20
theorem sc__law_draw : FnScope ["draws", "limit", "cell", "value"] ["draws", "limit"] (defScope st__law_draw) := ⟨rfl, rfl, rfl, by decide +kernel, rfl, by decide +kernel, by decide +kernel⟩
def fb__law_draw : Sto → Option Fl :=
  (sSeq (sIf (upT (tAndF (vB (v2 dEq (v2 dIx (vVarS 0) (vC (.int 2))) (vC (.int 0)))) (vB (v2 dLt (v2 dIx (vVarS 0) (vC (.int 1))) (v1 dLen (v2 dIx (vVarS 0) (vC (.int 0))))))))
      (sSeq (sSet 2 .z (up (v2 dIx (v2 dIx (vVarS 0) (vC (.int 0))) (v2 dIx (vVarS 0) (vC (.int 1))))))
      (sSeq (sAsg (up (v2 dAddI (v2 dIx (vVarS 0) (vC (.int 1))) (vC (.int 1)))) (gSet 0 .z (lVar 0) (vC (.int 1))))
      (sSeq (sIf (upT (vB (v2 dGe (vVarZ 2) (v2 dPow (vC (.int 10)) (vC (.int 18))))))
      (sAsg (up (vVarZ 2)) (gSet 0 .z (lVar 0) (vC (.int 2))))
      sNext)
      (sAsg (up (v2 dMod (v1 dInt (v2 dAddI (v2 dAddI (v2 dMulI (v2 dIx (vVarS 0) (vC (.int 3))) (vC (.int 48271))) (vVarZ 2)) (vC (.int 13)))) (vC (.int 2147483647)))) (gSet 0 .z (lVar 0) (vC (.int 3)))))))
      sNext)
      (sSeq (sIf (upT (vB (v2 dGt (v2 dIx (vVarS 0) (vC (.int 2))) (vC (.int 0)))))
      (sSeq (sSet 3 .z (up (v2 dMod (v1 dInt (v2 dIx (vVarS 0) (vC (.int 2)))) (vVarZ 1))))
      (sSeq (sAsg (up (v2 dFdiv (v2 dIx (vVarS 0) (vC (.int 2))) (vVarZ 1))) (gSet 0 .z (lVar 0) (vC (.int 2))))
      (sRet (up (vVarZ 3)))))
      sNext)
      (sSeq (sAsg (up (v2 dMod (v1 dInt (v2 dAddI (v2 dMulI (v2 dIx (vVarS 0) (vC (.int 3))) (vC (.int 69621))) (vC (.int 7)))) (vC (.int 2147483629)))) (gSet 0 .z (lVar 0) (vC (.int 3))))
      (sRet (up (v2 dMod (v1 dInt (v2 dFdiv (v2 dIx (vVarS 0) (vC (.int 3))) (vC (.int 11)))) (vVarZ 1)))))))
def m__law_draw : List D → Option (D × D) := fun ds => endIO 0 (.seq .z) (fb__law_draw (argS 0 (.seq .z) ds ++ List.replicate 2 none))
theorem ok__law_draw {P : Program} {w : World} {K : PySem.W.Frag} {mg : Str → Option Value} {base : Heap} {C : Addr} {f : Addr} {fd : FuncData} (F : Fun K "_law_draw" "_law_draw" st__law_draw f fd) (T : Txt K mg C)  : FnOk P w K mg base CX0 1 f fd ["draws", "limit"] (spIO K 2 0 (.seq .z) .z m__law_draw) :=
  fn_io (fb := fb__law_draw) F sc__law_draw (by decide) (fun cdv A outer s H E hr => ((ssv_cons (sv_if (PTV.etv (PWV.pt (pw_andV (pt_cmpV (op_eqD hr.units) od_eq (pv_ix ix_seq (od_ix (by rfl)) (pv_varS (i := 0) rfl (vis_of rfl)) pv_int (by intro _ _; rfl)) pv_int (nomark _)) (pw_and1V (pt_cmpV op_lt od_lt (pv_ix ix_seq (od_ix (by rfl)) (pv_varS (i := 0) rfl (vis_of rfl)) pv_int (by intro _ _; rfl)) (pv_len T.b_len (pv_ix ix_seq (od_ix (by rfl)) (pv_varS (i := 0) rfl (vis_of rfl)) pv_int (by intro _ _; rfl)) rfl) (nomark _))))))
      (ssv_cons (sv_set (i := 2) sc__law_draw.nd rfl (loc_of rfl) (FP.ef (PV.fp (pv_ix ix_seq (od_ix (by rfl)) (pv_ix ix_seq (od_ix (by rfl)) (pv_varS (i := 0) rfl (vis_of rfl)) pv_int (by intro _ _; rfl)) (pv_ix ix_seq (od_ix (by rfl)) (pv_varS (i := 0) rfl (vis_of rfl)) pv_int (by intro _ _; rfl)) (by intro _ _; rfl)))) rfl)
      (ssv_cons (sv_asg (FP.ef (PV.fp (pv_bin op_add od_addI (pv_ix ix_seq (od_ix (by rfl)) (pv_varS (i := 0) rfl (vis_of rfl)) pv_int (by intro _ _; rfl)) pv_int))) (pgf_set (s := .z) (lv_var (i := 0) rfl (vis_of rfl)) pv_int) rfl)
      (ssv_cons (sv_if (PTV.etv (pt_cmpV op_ge od_ge (pv_varZ (i := 2) rfl (vis_of rfl)) (pv_bin op_pow od_pow pv_int pv_int) (nomark _)))
      (ssv_one (sv_asg (FP.ef (PV.fp (pv_varZ (i := 2) rfl (vis_of rfl)))) (pgf_set (s := .z) (lv_var (i := 0) rfl (vis_of rfl)) pv_int) rfl))
      ssv_nil)
      (ssv_one (sv_asg (FP.ef (PV.fp (pv_bin op_modN od_mod (pv_intC T.b_int (pv_bin op_add od_addI (pv_bin op_add od_addI (pv_bin op_mul od_mulI (pv_ix ix_seq (od_ix (by rfl)) (pv_varS (i := 0) rfl (vis_of rfl)) pv_int (by intro _ _; rfl)) pv_int) (pv_varZ (i := 2) rfl (vis_of rfl))) pv_int) rfl) pv_int))) (pgf_set (s := .z) (lv_var (i := 0) rfl (vis_of rfl)) pv_int) rfl)))))
      ssv_nil)
      (ssv_cons (sv_if (PTV.etv (pt_cmpV op_gt od_gt (pv_ix ix_seq (od_ix (by rfl)) (pv_varS (i := 0) rfl (vis_of rfl)) pv_int (by intro _ _; rfl)) pv_int (nomark _)))
      (ssv_cons (sv_set (i := 3) sc__law_draw.nd rfl (loc_of rfl) (FP.ef (PV.fp (pv_bin op_modN od_mod (pv_intC T.b_int (pv_ix ix_seq (od_ix (by rfl)) (pv_varS (i := 0) rfl (vis_of rfl)) pv_int (by intro _ _; rfl)) rfl) (pv_varZ (i := 1) rfl (vis_of rfl))))) rfl)
      (ssv_cons (sv_asg (FP.ef (PV.fp (pv_bin op_fdivN od_fdiv (pv_ix ix_seq (od_ix (by rfl)) (pv_varS (i := 0) rfl (vis_of rfl)) pv_int (by intro _ _; rfl)) (pv_varZ (i := 1) rfl (vis_of rfl))))) (pgf_set (s := .z) (lv_var (i := 0) rfl (vis_of rfl)) pv_int) rfl)
      (ssv_one (sv_ret (FP.ef (PV.fp (pv_varZ (i := 3) rfl (vis_of rfl))))))))
      ssv_nil)
      (ssv_cons (sv_asg (FP.ef (PV.fp (pv_bin op_modN od_mod (pv_intC T.b_int (pv_bin op_add od_addI (pv_bin op_mul od_mulI (pv_ix ix_seq (od_ix (by rfl)) (pv_varS (i := 0) rfl (vis_of rfl)) pv_int (by intro _ _; rfl)) pv_int) pv_int) rfl) pv_int))) (pgf_set (s := .z) (lv_var (i := 0) rfl (vis_of rfl)) pv_int) rfl)
      (ssv_one (sv_ret (FP.ef (PV.fp (pv_bin op_modN od_mod (pv_intC T.b_int (pv_bin op_fdivN od_fdiv (pv_ix ix_seq (od_ix (by rfl)) (pv_varS (i := 0) rfl (vis_of rfl)) pv_int (by intro _ _; rfl)) pv_int) rfl) (pv_varZ (i := 1) rfl (vis_of rfl))))))))))
    : SSV (BCx P w K mg base _ _ st__law_draw f cdv A outer s H E) .z [0] (defBody st__law_draw) (fb__law_draw))) (fun _ _ _ h => h)
/-! ### _law_same -/
abbrev st__law_same : Stmt := top 21
theorem sc__law_same : FnScope ["actual", "expected", "k"] ["actual", "expected"] (defScope st__law_same) := ⟨rfl, rfl, rfl, by decide +kernel, rfl, by decide +kernel, by decide +kernel⟩
def fb__law_same_b1 (mr : List D → Option D) : Sto → Option Fl :=
  (sIf (upT (tNotF (vB (vCall (n := 2) mr (aCons (v2 dIx (vVarZ 0) (vVarZ 2)) (aCons (v2 dIx (vVarZ 1) (vVarZ 2)) aNil))))))
      (sRet (up (vC (.bl false))))
      sNext)
def fb__law_same (mr : List D → Option D) : Sto → Option Fl :=
  (sSeq (sIf (upT (tOrF (vB (vIsi "tuple" (vVarZ 1))) (vB (vIsi "list" (vVarZ 1)))))
      (sSeq (sIf (upT (tAndF (vB (vIsi "tuple" (vVarZ 1))) (tNotF (vB (vIsi "tuple" (vVarZ 0))))))
      (sRet (up (vC (.bl false))))
      sNext)
      (sSeq (sIf (upT (tAndF (vB (vIsi "list" (vVarZ 1))) (tNotF (vB (vIsi "list" (vVarZ 0))))))
      (sRet (up (vC (.bl false))))
      sNext)
      (sSeq (sIf (upT (vB (v2 dNe (v1 dLen (vVarZ 0)) (v1 dLen (vVarZ 1)))))
      (sRet (up (vC (.bl false))))
      sNext)
      (sSeq (sFor (upI (vRng1 (aCons (v1 dLen (vVarZ 1)) aNil))) (gN 2) (fb__law_same_b1 mr))
      (sRet (up (vC (.bl true))))))))
      sNext)
      (sSeq (sIf (upT (vB (vIsi "str" (vVarZ 1))))
      (sRet (up (vAndF (vIsi "str" (vVarZ 0)) (v2 dEq (vVarZ 0) (vVarZ 1)))))
      sNext)
      (sSeq (sIf (upT (vB (v2 dIsN (vVarZ 1) (vC .non))))
      (sRet (up (v2 dIsN (vVarZ 0) (vC .non))))
      sNext)
      (sSeq (sIf (upT (tOrF (vB (vIsi "bool" (vVarZ 1))) (vB (vIsi "bool" (vVarZ 0)))))
      (sRet (up (vAndF (vIsi "bool" (vVarZ 1)) (vAndF (vIsi "bool" (vVarZ 0)) (v2 dEq (vVarZ 0) (vVarZ 1))))))
      sNext)
      (sRet (up (vAndF (vIsi "int" (vVarZ 0)) (vAndF (vIsi "int" (vVarZ 1)) (v2 dEq (vVarZ 0) (vVarZ 1))))))))))
def ms__law_same (mr : List D → Option D) : List D → Option D := fun ds => endP (fb__law_same mr (argZ ds ++ List.replicate 1 none))
def mn__law_same : Nat → List D → Option D
  | 0 => fun _ => none
  | n + 1 => ms__law_same (mn__law_same n)
abbrev m__law_same : List D → Option D := mn__law_same 3
theorem os__law_same {P : Program} {w : World} {K : PySem.W.Frag} {mg : Str → Option Value} {base : Heap} {C : Addr} {f : Addr} {fd : FuncData} {k : Nat} {mr : List D → Option D} (F : Fun K "_law_same" "_law_same" st__law_same f fd) (T : Txt K mg C) (cr : Fc P w K mg base "_law_same" ["actual", "expected"] k (spP K 2 .z mr)) : FnOk P w K mg base CX0 (k + 1) f fd ["actual", "expected"] (spP K 2 .z (ms__law_same mr)) :=
  fn_pure (fb := fb__law_same mr) F sc__law_same (fun cdv A outer s H E hr => ((ssv_cons (sv_if (PTV.etv (PWV.pt (pw_orV (pt_valV (pv_isiT kit_tuple bt_tuple T.b_isinstance T.b_tuple (pv_varZ (i := 1) rfl (vis_of rfl)) rfl rfl)) (pw_or1V (pt_valV (pv_isiT kit_list bt_list T.b_isinstance T.b_list (pv_varZ (i := 1) rfl (vis_of rfl)) rfl rfl))))))
      (ssv_cons (sv_if (PTV.etv (PWV.pt (pw_andV (pt_valV (pv_isiT kit_tuple bt_tuple T.b_isinstance T.b_tuple (pv_varZ (i := 1) rfl (vis_of rfl)) rfl rfl)) (pw_and1V (pt_notV (pt_valV (pv_isiT kit_tuple bt_tuple T.b_isinstance T.b_tuple (pv_varZ (i := 0) rfl (vis_of rfl)) rfl rfl)))))))
      (ssv_one (sv_ret (FP.ef (PV.fp pv_bl))))
      ssv_nil)
      (ssv_cons (sv_if (PTV.etv (PWV.pt (pw_andV (pt_valV (pv_isiT kit_list bt_list T.b_isinstance T.b_list (pv_varZ (i := 1) rfl (vis_of rfl)) rfl rfl)) (pw_and1V (pt_notV (pt_valV (pv_isiT kit_list bt_list T.b_isinstance T.b_list (pv_varZ (i := 0) rfl (vis_of rfl)) rfl rfl)))))))
      (ssv_one (sv_ret (FP.ef (PV.fp pv_bl))))
      ssv_nil)
      (ssv_cons (sv_if (PTV.etv (pt_cmpV (op_neD hr.units) od_ne (pv_len T.b_len (pv_varZ (i := 0) rfl (vis_of rfl)) rfl) (pv_len T.b_len (pv_varZ (i := 1) rfl (vis_of rfl)) rfl) (nomark _)))
      (ssv_one (sv_ret (FP.ef (PV.fp pv_bl))))
      ssv_nil)
      (ssv_cons (sv_for PassesOwn.never rfl (IPV.iev (ip_range1 rfl T.b_range (pav_cons (pv_len T.b_len (pv_varZ (i := 1) rfl (vis_of rfl)) rfl) pav_nil))) (pgv_name (i := 2) sc__law_same.nd rfl (loc_of rfl))
      (ssv_one (sv_if (PTV.etv (pt_notV (pt_valV (FP.pv (fp_call cr.ok hr rfl cr.g cr.q cr.b (pav_cons (pv_ix ix_seq (od_ix (by rfl)) (pv_varZ (i := 0) rfl (vis_of rfl)) (pv_varZ (i := 2) rfl (vis_of rfl)) (by intro _ _; rfl)) (pav_cons (pv_ix ix_seq (od_ix (by rfl)) (pv_varZ (i := 1) rfl (vis_of rfl)) (pv_varZ (i := 2) rfl (vis_of rfl)) (by intro _ _; rfl)) pav_nil)))))))
      (ssv_one (sv_ret (FP.ef (PV.fp pv_bl))))
      ssv_nil)) rfl)
      (ssv_one (sv_ret (FP.ef (PV.fp pv_bl))))))))
      ssv_nil)
      (ssv_cons (sv_if (PTV.etv (pt_valV (pv_isiT kit_str bt_str T.b_isinstance T.b_str (pv_varZ (i := 1) rfl (vis_of rfl)) rfl rfl)))
      (ssv_one (sv_ret (FP.ef (PV.fp (pv_and (pv_isiT kit_str bt_str T.b_isinstance T.b_str (pv_varZ (i := 0) rfl (vis_of rfl)) rfl rfl) (pv_one (pv_cmp (op_eqD hr.units) od_eq (pv_varZ (i := 0) rfl (vis_of rfl)) (pv_varZ (i := 1) rfl (vis_of rfl)) (nomark _))))))))
      ssv_nil)
      (ssv_cons (sv_if (PTV.etv (pt_cmpV op_isN od_isN (pv_varZ (i := 1) rfl (vis_of rfl)) pv_non (nomark _)))
      (ssv_one (sv_ret (FP.ef (PV.fp (pv_cmp op_isN od_isN (pv_varZ (i := 0) rfl (vis_of rfl)) pv_non (nomark _))))))
      ssv_nil)
      (ssv_cons (sv_if (PTV.etv (PWV.pt (pw_orV (pt_valV (pv_isiT kit_bool bt_bool T.b_isinstance T.b_bool (pv_varZ (i := 1) rfl (vis_of rfl)) rfl rfl)) (pw_or1V (pt_valV (pv_isiT kit_bool bt_bool T.b_isinstance T.b_bool (pv_varZ (i := 0) rfl (vis_of rfl)) rfl rfl))))))
      (ssv_one (sv_ret (FP.ef (PV.fp (pv_and (pv_isiT kit_bool bt_bool T.b_isinstance T.b_bool (pv_varZ (i := 1) rfl (vis_of rfl)) rfl rfl) (pv_and (pv_isiT kit_bool bt_bool T.b_isinstance T.b_bool (pv_varZ (i := 0) rfl (vis_of rfl)) rfl rfl) (pv_one (pv_cmp (op_eqD hr.units) od_eq (pv_varZ (i := 0) rfl (vis_of rfl)) (pv_varZ (i := 1) rfl (vis_of rfl)) (nomark _)))))))))
      ssv_nil)
      (ssv_one (sv_ret (FP.ef (PV.fp (pv_and (pv_isiT kit_int bt_int T.b_isinstance T.b_int (pv_varZ (i := 0) rfl (vis_of rfl)) rfl rfl) (pv_and (pv_isiT kit_int bt_int T.b_isinstance T.b_int (pv_varZ (i := 1) rfl (vis_of rfl)) rfl rfl) (pv_one (pv_cmp (op_eqD hr.units) od_eq (pv_varZ (i := 0) rfl (vis_of rfl)) (pv_varZ (i := 1) rfl (vis_of rfl)) (nomark _)))))))))))))
    : SSV (BCx P w K mg base _ _ st__law_same f cdv A outer s H E) .z [] (defBody st__law_same) (fb__law_same mr))) (fun _ _ _ h => h)
theorem on__law_same {P : Program} {w : World} {K : PySem.W.Frag} {mg : Str → Option Value} {base : Heap} {C : Addr} {f : Addr} {fd : FuncData} (F : Fun K "_law_same" "_law_same" st__law_same f fd) (T : Txt K mg C) (g : mg "_law_same" = some (.ref f)) (q : PySem.W.keepIn K (.ref f) = true) (b : Binds K fd ["actual", "expected"] []) : ∀ n, FnOk P w K mg base CX0 n f fd ["actual", "expected"] (spP K 2 .z (mn__law_same n))
  | 0 => fn_none
  | n + 1 => os__law_same F T ⟨f, fd, on__law_same F T g q b n, g, q, b⟩
theorem ok__law_same {P : Program} {w : World} {K : PySem.W.Frag} {mg : Str → Option Value} {base : Heap} {C : Addr} {f : Addr} {fd : FuncData} (F : Fun K "_law_same" "_law_same" st__law_same f fd) (T : Txt K mg C) (g : mg "_law_same" = some (.ref f)) (q : PySem.W.keepIn K (.ref f) = true) (b : Binds K fd ["actual", "expected"] []) : FnOk P w K mg base CX0 3 f fd ["actual", "expected"] (spP K 2 .z m__law_same) := on__law_same F T g q b 3
/-! ### _law_pick -/
abbrev st__law_pick : Stmt := top 22
theorem sc__law_pick : FnScope ["draws", "row"] ["draws", "row"] (defScope st__law_pick) := ⟨rfl, rfl, rfl, by decide +kernel, rfl, by decide +kernel, by decide +kernel⟩
def fb__law_pick : Sto → Option Fl :=
  (sRet (e2 dIx (up (vVarZ 1)) (eCallIO 2 0 0 (.seq .z) m__law_draw (aCons (vVar 0) (aCons (v1 dLen (vVarZ 1)) aNil)))))
def m__law_pick : List D → Option (D × D) := fun ds => endIO 0 (.seq .z) (fb__law_pick (argS 0 (.seq .z) ds ++ List.replicate 0 none))
theorem ok__law_pick {P : Program} {w : World} {K : PySem.W.Frag} {mg : Str → Option Value} {base : Heap} {C : Addr} {f : Addr} {fd : FuncData} (F : Fun K "_law_pick" "_law_pick" st__law_pick f fd) (T : Txt K mg C) (c__law_draw : Fc P w K mg base "_law_draw" ["draws", "limit"] 1 (spIO K 2 0 (.seq .z) .z m__law_draw)) : FnOk P w K mg base CX0 2 f fd ["draws", "row"] (spIO K 2 0 (.seq .z) .z m__law_pick) :=
  fn_io (fb := fb__law_pick) F sc__law_pick (by decide) (fun cdv A outer s H E hr => ((ssv_one (sv_ret (EV.ef (ev_ix ix_seq (od_ix (by rfl)) (PV.ev (pv_varZ (i := 1) rfl (vis_of rfl))) (EF.ev (ef_callIO c__law_draw.ok (hr.mono (by decide)) rfl c__law_draw.g c__law_draw.q c__law_draw.b (qa_here (j := 0) rfl (vis_of rfl) (pav_cons (pv_len T.b_len (pv_varZ (i := 1) rfl (vis_of rfl)) rfl) pav_nil)) hfs0)) (by intro _ _; rfl)))))
    : SSV (BCx P w K mg base _ _ st__law_pick f cdv A outer s H E) .z [0] (defBody st__law_pick) (fb__law_pick))) (fun _ _ _ h => h)
/-! ### _law_rows -/
abbrev st__law_rows : Stmt := top 23
theorem sc__law_rows : FnScope ["draws", "size", "rows", "one", "kind", "often", "other", "lesser", "winner", "loser"] ["draws", "size"] (defScope st__law_rows) := ⟨rfl, rfl, rfl, by decide +kernel, rfl, by decide +kernel, by decide +kernel⟩
def fb__law_rows_b1 : Sto → Option Fl :=
  (sSeq (sSet 7 .z (up (vIf (vB (v2 dEq (vVarZ 4) (vC (.int 0)))) (v2 dLe (v2 dSub (vVarZ 6) (vVarZ 3)) (v2 dFdiv (vVarZ 1) (vC (.int 2)))) (vC (.bl true)))))
      (sSeq (sSet 7 .z (eIf (eB (e2 dEq (eCallIO 2 0 0 (.seq .z) m__law_draw (aCons (vVar 0) (aCons (vIf (vB (v2 dEq (vVarZ 4) (vC (.int 1)))) (vC (.int 2)) (vVarZ 5)) aNil))) (up (vC (.int 0))))) (up (vNotF (vVarZ 7))) (up (vVarZ 7))))
      (sSeq (sAsg (up (vIf (vB (vVarZ 7)) (vTup (aCons (vVarZ 3) (aCons (vVarZ 6) aNil))) (vTup (aCons (vVarZ 6) (aCons (vVarZ 3) aNil))))) (gTupF 2 (gsCons (gN 8) (gsCons (gN 9) gsNil))))
      (sAsg (up (v2 dAddI (v2 dIx (vVarS 2) (vVarZ 8)) (v2 dShl (vC (.int 1)) (vVarZ 9)))) (gSet 2 .z (lVar 2) (vVarZ 8))))))
def fb__law_rows_b2 : Sto → Option Fl :=
  (sFor (upI (vRng2 (aCons (v2 dAddI (vVarZ 3) (vC (.int 1))) (aCons (vVarZ 1) aNil)))) (gN 6) fb__law_rows_b1)
def fb__law_rows : Sto → Option Fl :=
  (sSeq (sPar 4 5 (bCons (eCallIO 2 0 0 (.seq .z) m__law_draw (aCons (vVar 0) (aCons (vC (.int 4)) aNil))) (bCons (eCallIO 2 0 0 (.seq .z) m__law_pick (aCons (vVar 0) (aCons (vLst (aCons (vC (.int 2)) (aCons (vC (.int 4)) (aCons (vC (.int 9)) aNil)))) aNil))) bNil)))
      (sSeq (sSet 2 (.seq .z) (up (v2 dRep (vLst (aCons (vC (.int 0)) aNil)) (vVarZ 1))))
      (sSeq (sFor (upI (vRng1 (aCons (vVarZ 1) aNil))) (gN 3) fb__law_rows_b2)
      (sRet (up (v1 dTuple (vVarS 2)))))))
def m__law_rows : List D → Option (D × D) := fun ds => endIO 0 (.seq .z) (fb__law_rows (argS 0 (.seq .z) ds ++ List.replicate 8 none))
theorem ok__law_rows {P : Program} {w : World} {K : PySem.W.Frag} {mg : Str → Option Value} {base : Heap} {C : Addr} {f : Addr} {fd : FuncData} (F : Fun K "_law_rows" "_law_rows" st__law_rows f fd) (T : Txt K mg C) (c__law_draw : Fc P w K mg base "_law_draw" ["draws", "limit"] 1 (spIO K 2 0 (.seq .z) .z m__law_draw)) (c__law_pick : Fc P w K mg base "_law_pick" ["draws", "row"] 2 (spIO K 2 0 (.seq .z) .z m__law_pick)) : FnOk P w K mg base CX0 3 f fd ["draws", "size"] (spIO K 2 0 (.seq .z) .z m__law_rows) :=
  fn_io (fb := fb__law_rows) F sc__law_rows (by decide) (fun cdv A outer s H E hr => ((ssv_cons (sv_par (i := 4) (j := 5) rfl sc__law_rows.nd rfl rfl (by decide) rfl rfl (eav_cons (EF.ev (ef_callIO c__law_draw.ok (hr.mono (by decide)) rfl c__law_draw.g c__law_draw.q c__law_draw.b (qa_here (j := 0) rfl (vis_of rfl) (pav_cons pv_int pav_nil)) hfs0)) (eav_cons (EF.ev (ef_callIO c__law_pick.ok (hr.mono (by decide)) rfl c__law_pick.g c__law_pick.q c__law_pick.b (qa_here (j := 0) rfl (vis_of rfl) (pav_cons (FP.pv (fp_lst (pav_cons pv_int (pav_cons pv_int (pav_cons pv_int pav_nil))))) pav_nil)) hfs0)) eav_nil)) rfl rfl (by rfl))
      (ssv_cons (sv_set (i := 2) sc__law_rows.nd rfl (loc_of rfl) (FP.ef (fp_bin op_rep of_rep (FP.pb (fp_lst (pav_cons pv_int pav_nil))) (pv_varZ (i := 1) rfl (vis_of rfl)))) rfl)
      (ssv_cons (sv_for PassesOwn.never rfl (IPV.iev (ip_range1 rfl T.b_range (pav_cons (pv_varZ (i := 1) rfl (vis_of rfl)) pav_nil))) (pgv_name (i := 3) sc__law_rows.nd rfl (loc_of rfl))
      (ssv_one (sv_for PassesOwn.never rfl (IPV.iev (ip_range2 rfl T.b_range (pav_cons (pv_bin op_add od_addI (pv_varZ (i := 3) rfl (vis_of rfl)) pv_int) (pav_cons (pv_varZ (i := 1) rfl (vis_of rfl)) pav_nil)))) (pgv_name (i := 6) sc__law_rows.nd rfl (loc_of rfl))
      (ssv_cons (sv_set (i := 7) sc__law_rows.nd rfl (loc_of rfl) (FP.ef (PV.fp (pv_if (pt_cmpV (op_eqD hr.units) od_eq (pv_varZ (i := 4) rfl (vis_of rfl)) pv_int (nomark _)) (pv_cmp op_le od_le (pv_bin op_sub od_sub (pv_varZ (i := 6) rfl (vis_of rfl)) (pv_varZ (i := 3) rfl (vis_of rfl))) (pv_bin op_fdivN od_fdiv (pv_varZ (i := 1) rfl (vis_of rfl)) pv_int) (nomark _)) pv_bl))) rfl)
      (ssv_cons (sv_set (i := 7) sc__law_rows.nd rfl (loc_of rfl) (EV.ef (ev_if (pt_cmpE (op_eqD hr.units) od_eq (EF.ev (ef_callIO c__law_draw.ok (hr.mono (by decide)) rfl c__law_draw.g c__law_draw.q c__law_draw.b (qa_here (j := 0) rfl (vis_of rfl) (pav_cons (pv_if (pt_cmpV (op_eqD hr.units) od_eq (pv_varZ (i := 4) rfl (vis_of rfl)) pv_int (nomark _)) pv_int (pv_varZ (i := 5) rfl (vis_of rfl))) pav_nil)) hfs0)) (PV.ev pv_int) (nomark _)) (PV.ev (pv_not (pv_varZ (i := 7) rfl (vis_of rfl)))) (PV.ev (pv_varZ (i := 7) rfl (vis_of rfl))))) rfl)
      (ssv_cons (sv_asg (FP.ef (PV.fp (pv_if (pt_valV (pv_varZ (i := 7) rfl (vis_of rfl))) (pv_tup (pav_cons (pv_varZ (i := 3) rfl (vis_of rfl)) (pav_cons (pv_varZ (i := 6) rfl (vis_of rfl)) pav_nil))) (pv_tup (pav_cons (pv_varZ (i := 6) rfl (vis_of rfl)) (pav_cons (pv_varZ (i := 3) rfl (vis_of rfl)) pav_nil)))))) (PGV.pgf (pgv_tup rfl (pgsv_cons (pgv_name (i := 8) sc__law_rows.nd rfl (loc_of rfl)) (pgsv_cons (pgv_name (i := 9) sc__law_rows.nd rfl (loc_of rfl)) pgsv_nil)))) rfl)
      (ssv_one (sv_asg (FP.ef (PV.fp (pv_bin op_add od_addI (pv_ix ix_seq (od_ix (by rfl)) (pv_varS (i := 2) rfl (vis_of rfl)) (pv_varZ (i := 8) rfl (vis_of rfl)) (by intro _ _; rfl)) (pv_bin op_shl od_shl pv_int (pv_varZ (i := 9) rfl (vis_of rfl)))))) (pgf_set (s := .z) (lv_var (i := 2) rfl (vis_of rfl)) (pv_varZ (i := 8) rfl (vis_of rfl))) rfl))))) rfl)) rfl)
      (ssv_one (sv_ret (FP.ef (PV.fp (pv_tupC T.b_tuple rfl (pv_varS (i := 2) rfl (vis_of rfl)) rfl))))))))
    : SSV (BCx P w K mg base _ _ st__law_rows f cdv A outer s H E) .z [0] (defBody st__law_rows) (fb__law_rows))) (fun _ _ _ h => h)
/-! ### _law_times -/
abbrev st__law_times : Stmt := top 24
theorem sc__law_times : FnScope ["rows", "table", "size", "line", "other", "k"] ["rows", "table"] (defScope st__law_times) := ⟨rfl, rfl, rfl, by decide +kernel, rfl, by decide +kernel, by decide +kernel⟩
def fb__law_times_c1 : Sto → Option D :=
  vLc [5] (vRng1 (aCons (vVarZ 2) aNil)) (gN 5) (vB (v2 dEq (v2 dAnd (v2 dShr (v2 dIx (vVarZ 0) (vVarZ 5)) (vVarZ 4)) (vC (.int 1))) (vC (.int 1)))) (v2 dIx (vVarZ 3) (vVarZ 5))
def fb__law_times_c2 : Sto → Option D :=
  vLc [4] (vRng1 (aCons (vVarZ 2) aNil)) (gN 4) (fun _ => some true) (v1 dSum fb__law_times_c1)
def fb__law_times_c3 : Sto → Option D :=
  vLc [3] (vItems (vVarZ 1)) (gN 3) (fun _ => some true) fb__law_times_c2
def fb__law_times : Sto → Option Fl :=
  (sSeq (sSet 2 .z (up (v1 dLen (vVarZ 0))))
      (sRet (up fb__law_times_c3)))
def m__law_times : List D → Option D := fun ds => endP (fb__law_times (argZ ds ++ List.replicate 4 none))
theorem ok__law_times {P : Program} {w : World} {K : PySem.W.Frag} {mg : Str → Option Value} {base : Heap} {C : Addr} {f : Addr} {fd : FuncData} (F : Fun K "_law_times" "_law_times" st__law_times f fd) (T : Txt K mg C)  : FnOk P w K mg base CX0 1 f fd ["rows", "table"] (spP K 2 .z m__law_times) :=
  fn_pure (fb := fb__law_times) F sc__law_times (fun cdv A outer s H E hr => ((ssv_cons (sv_set (i := 2) sc__law_times.nd rfl (loc_of rfl) (FP.ef (PV.fp (pv_len T.b_len (pv_varZ (i := 0) rfl (vis_of rfl)) rfl))) rfl)
      (ssv_one (sv_ret (FP.ef (PV.fp (FP.pv (fp_lc (own := [("line", 3)]) rfl sc__law_times.nd (ip_seq (pv_varZ (i := 1) rfl (vis_of rfl))) (blkOk_by (by rfl)) (fun _ _ _ _ _ => (pgv_name (i := 3) sc__law_times.nd rfl (loc_of rfl))) (fun _ _ _ _ _ => ptsv_nil) (fun _ _ _ _ _ => (fp_lc (own := [("other", 4)]) rfl sc__law_times.nd (ip_range1 rfl T.b_range (pav_cons (pv_varZ (i := 2) rfl (vis_of rfl)) pav_nil)) (blkOk_by (by rfl)) (fun _ _ _ _ _ => (pgv_name (i := 4) sc__law_times.nd rfl (loc_of rfl))) (fun _ _ _ _ _ => ptsv_nil) (fun _ _ _ _ _ => (PV.fp (pv_sum T.b_sum rfl (FP.pv (fp_lc (own := [("k", 5)]) rfl sc__law_times.nd (ip_range1 rfl T.b_range (pav_cons (pv_varZ (i := 2) rfl (vis_of rfl)) pav_nil)) (blkOk_by (by rfl)) (fun _ _ _ _ _ => (pgv_name (i := 5) sc__law_times.nd rfl (loc_of rfl))) (fun _ _ _ _ _ => (ptsv_one (pt_cmpV (op_eqD hr.units) od_eq (pv_bin op_and od_and (pv_bin op_shr od_shr (pv_ix ix_seq (od_ix (by rfl)) (pv_varZ (i := 0) rfl (vis_of rfl)) (pv_varZ (i := 5) rfl (vis_of rfl)) (by intro _ _; rfl)) (pv_varZ (i := 4) rfl (vis_of rfl))) pv_int) pv_int (nomark _)))) (fun _ _ _ _ _ => (PV.fp (pv_ix ix_seq (od_ix (by rfl)) (pv_varZ (i := 3) rfl (vis_of rfl)) (pv_varZ (i := 5) rfl (vis_of rfl)) (by intro _ _; rfl)))) rfl)) rfl))) rfl)) rfl)))))))
    : SSV (BCx P w K mg base _ _ st__law_times f cdv A outer s H E) .z [] (defBody st__law_times) (fb__law_times))) (fun _ _ _ h => h)
/-! ### _law_lots -/
abbrev st__law_lots : Stmt := top 25
theorem sc__law_lots : FnScope ["counts", "found", "many", "side"] ["counts"] (defScope st__law_lots) := ⟨rfl, rfl, rfl, by decide +kernel, rfl, by decide +kernel, by decide +kernel⟩
def fb__law_lots_c1 : Sto → Option D :=
  vLc [3] (vRng1 (aCons (v1 dLen (vVarZ 0)) aNil)) (gN 3) (vB (v2 dEq (v2 dIx (vVarZ 0) (vVarZ 3)) (vVarZ 2))) (vVarZ 3)
def fb__law_lots_b1 : Sto → Option Fl :=
  (sApp 1 .z (lVar 1) (up (v1 dTuple fb__law_lots_c1)))
def fb__law_lots : Sto → Option Fl :=
  (sSeq (sSet 1 (.seq .z) (up (vLst aNil)))
      (sSeq (sFor (upI (vItems (v1 dRev (v1 dSortedSet (vVarZ 0))))) (gN 2) fb__law_lots_b1)
      (sRet (up (v1 dTuple (vVarS 1))))))
def m__law_lots : List D → Option D := fun ds => endP (fb__law_lots (argZ ds ++ List.replicate 3 none))
theorem ok__law_lots {P : Program} {w : World} {K : PySem.W.Frag} {mg : Str → Option Value} {base : Heap} {C : Addr} {f : Addr} {fd : FuncData} (F : Fun K "_law_lots" "_law_lots" st__law_lots f fd) (T : Txt K mg C)  : FnOk P w K mg base CX0 1 f fd ["counts"] (spP K 1 .z m__law_lots) :=
  fn_pure (fb := fb__law_lots) F sc__law_lots (fun cdv A outer s H E hr => ((ssv_cons (sv_set (i := 1) sc__law_lots.nd rfl (loc_of rfl) (FP.ef (fp_lst pav_nil)) rfl)
      (ssv_cons (sv_for PassesOwn.never rfl (IPV.iev (ip_seq (FP.pv (fp_rev (by rfl) (FP.pv (fp_sset T.b_sorted T.b_set rfl (pv_varZ (i := 0) rfl (vis_of rfl)) rfl rfl)))))) (pgv_name (i := 2) sc__law_lots.nd rfl (loc_of rfl))
      (ssv_one (sv_append (lv_var (i := 1) rfl (vis_of rfl)) (FP.ef (PV.fp (pv_tupC T.b_tuple rfl (FP.pv (fp_lc (own := [("side", 3)]) rfl sc__law_lots.nd (ip_range1 rfl T.b_range (pav_cons (pv_len T.b_len (pv_varZ (i := 0) rfl (vis_of rfl)) rfl) pav_nil)) (blkOk_by (by rfl)) (fun _ _ _ _ _ => (pgv_name (i := 3) sc__law_lots.nd rfl (loc_of rfl))) (fun _ _ _ _ _ => (ptsv_one (pt_cmpV (op_eqD hr.units) od_eq (pv_ix ix_seq (od_ix (by rfl)) (pv_varZ (i := 0) rfl (vis_of rfl)) (pv_varZ (i := 3) rfl (vis_of rfl)) (by intro _ _; rfl)) (pv_varZ (i := 2) rfl (vis_of rfl)) (nomark _)))) (fun _ _ _ _ _ => (PV.fp (pv_varZ (i := 3) rfl (vis_of rfl)))) rfl)) rfl))) rfl)) rfl)
      (ssv_one (sv_ret (FP.ef (PV.fp (pv_tupC T.b_tuple rfl (pv_varS (i := 1) rfl (vis_of rfl)) rfl)))))))
    : SSV (BCx P w K mg base _ _ st__law_lots f cdv A outer s H E) .z [] (defBody st__law_lots) (fb__law_lots))) (fun _ _ _ h => h)
/-! ### law -/
abbrev st_law : Stmt := top 26
theorem sc_law : FnScope ["script", "draws", "size", "rows", "here", "lots", "length", "at", "table", "most", "counts", "far", "one", "other", "line", "k", "side"] ["script"] (defScope st_law) := ⟨rfl, rfl, rfl, by decide +kernel, rfl, by decide +kernel, by decide +kernel⟩
def fb_law_c1 : Sto → Option D :=
  vLc [13] (vRng1 (aCons (vVarZ 2) aNil)) (gN 13) (fun _ => some true) (vIf (vB (v2 dEq (vVarZ 12) (vVarZ 13))) (vC (.int 1)) (vC (.int 0)))
def fb_law_c2 : Sto → Option D :=
  vLc [12] (vRng1 (aCons (vVarZ 2) aNil)) (gN 12) (fun _ => some true) fb_law_c1
def fb_law_c3 : Sto → Option D :=
  vLc [14] (vItems (vVarZ 4)) (gN 14) (fun _ => some true) (v1 dSum (vVarZ 14))
def fb_law_c4 : Sto → Option D :=
  vLc [14] (vItems (vVarZ 4)) (gN 14) (fun _ => some true) (v1 dTuple (vVarZ 14))
def fb_law_c5 : Sto → Option D :=
  vLc [16] (vRng1 (aCons (vVarZ 2) aNil)) (gN 16) (fun _ => some true) (v2 dIx (v2 dIx (vVarZ 4) (vVarZ 16)) (vVarZ 16))
def fb_law_b1 (C : Addr) : Sto → Option Fl :=
  (sSeq (sSet 10 .z (up fb_law_c3))
      (sSeq (sApp 5 .z (lVar 5) (up (vCall (n := 1) m__law_lots (aCons (vVarZ 10) aNil))))
      (sSeq (sIf (upT (vB (v2 dIn (vVarZ 6) (vTup (aCons (vC (.int 0)) (aCons (vC (.int 1)) (aCons (vVarZ 9) (aCons (v2 dFdiv (vVarZ 9) (vC (.int 2))) aNil))))))))
      (sSeq (sIf (upT (tOrF (tNotF (vB (vCall (n := 2) m__law_same (aCons (vCall (n := 2) (m_walks_from C) (aCons (vVarZ 8) (aCons (vVarZ 6) aNil))) (aCons (v1 dTuple (vVarZ 10)) aNil))))) (tNotF (vB (vCall (n := 2) m__law_same (aCons (vCall (n := 2) (m_walks_between C) (aCons (vVarZ 8) (aCons (vVarZ 6) aNil))) (aCons (v1 dTuple fb_law_c4) aNil)))))))
      (sRet (up (vC (.bl false))))
      sNext)
      (sIf (upT (tOrF (tNotF (vB (vCall (n := 2) m__law_same (aCons (vCall (n := 2) (m_closed_walks C) (aCons (vVarZ 8) (aCons (vVarZ 6) aNil))) (aCons (v1 dSum fb_law_c5) aNil))))) (tNotF (vB (vCall (n := 2) m__law_same (aCons (vCall (n := 2) (m_by_walks C) (aCons (vVarZ 8) (aCons (vVarZ 6) aNil))) (aCons (v2 dIx (vVarS 5) (v1 dNeg (vC (.int 1)))) aNil)))))))
      (sRet (up (vC (.bl false))))
      sNext))
      sNext)
      (sSet 4 .z (up (vCall (n := 2) m__law_times (aCons (vVarZ 3) (aCons (vVarZ 4) aNil))))))))
def fb_law_t1 : Sto → Option (Bool × Sto) :=
  (upT (tAndF (vB (v2 dGt (vVarZ 7) (vC (.int 0)))) (vB (v2 dEq (v2 dIx (vVarS 5) (v2 dSub (vVarZ 7) (vC (.int 1)))) (v2 dIx (vVarS 5) (vVarZ 9))))))
def fb_law_b2 : Sto → Option Fl :=
  (sSet 7 .z (up (v2 dSub (vVarZ 7) (vC (.int 1)))))
def fb_law_c6 : Sto → Option D :=
  vLc [15] (vRng1 (aCons (vVarZ 2) aNil)) (gN 15) (vB (v2 dEq (v2 dAnd (v2 dShr (v2 dIx (vVarZ 3) (vVarZ 12)) (vVarZ 15)) (vC (.int 1))) (vC (.int 1)))) (v2 dIx (vVarZ 10) (vVarZ 15))
def fb_law_c7 : Sto → Option D :=
  vLc [12] (vRng1 (aCons (vVarZ 2) aNil)) (gN 12) (fun _ => some true) (v1 dSum fb_law_c6)
def fb_law_b3 : Sto → Option Fl :=
  (sSet 10 .z (up fb_law_c7))
def fb_law (C : Addr) : Sto → Option Fl :=
  (sSeq (sSet 1 (.seq .z) (up (vCall (n := 1) m__law_draws (aCons (vVarZ 0) aNil))))
      (sSeq (sSet 2 .z (eCallIO 2 0 1 (.seq .z) m__law_pick (aCons (vVar 1) (aCons (vLst (aCons (vC (.int 1)) (aCons (vC (.int 2)) (aCons (vC (.int 3)) (aCons (vC (.int 5)) (aCons (vC (.int 9)) (aCons (vC (.int 12)) aNil))))))) aNil))))
      (sSeq (sSet 3 .z (eCallIO 2 0 1 (.seq .z) m__law_rows (aCons (vVar 1) (aCons (vVarZ 2) aNil))))
      (sSeq (sPar 8 9 (bCons (up (vMake 2 C (m_Table_init C) (aCons (vVarZ 3) aNil))) (bCons (eCallIO 2 0 1 (.seq .z) m__law_pick (aCons (vVar 1) (aCons (vLst (aCons (vC (.int 0)) (aCons (vC (.int 1)) (aCons (vC (.int 17)) (aCons (vC (.int 41)) (aCons (vC (.int 60)) aNil)))))) aNil))) bNil)))
      (sSeq (sSet 4 .z (up fb_law_c2))
      (sSeq (sSet 5 (.seq .z) (up (vLst aNil)))
      (sSeq (sFor (upI (vRng1 (aCons (v2 dAddI (vVarZ 9) (vC (.int 1))) aNil))) (gN 6) (fb_law_b1 C))
      (sSeq (sSet 7 .z (up (vVarZ 9)))
      (sSeq (whileL fb_law_t1 fb_law_b2 1000)
      (sSeq (sIf (upT (tNotF (vB (vCall (n := 2) m__law_same (aCons (vCall (n := 2) (m_steady_from C) (aCons (vVarZ 8) (aCons (vVarZ 9) aNil))) (aCons (vVarZ 7) aNil))))))
      (sRet (up (vC (.bl false))))
      sNext)
      (sSeq (sAsg (eTup (bCons (eCallIO 2 0 1 (.seq .z) m__law_pick (aCons (vVar 1) (aCons (vLst (aCons (vC (.int 200)) (aCons (vC (.int 399)) (aCons (vC (.int 400)) aNil)))) aNil))) (bCons (up (v2 dRep (vLst (aCons (vC (.int 1)) aNil)) (vVarZ 2))) bNil))) (gTupF 2 (gsCons (gN 11) (gsCons (gN 10) gsNil))))
      (sSeq (sFor (upI (vRng1 (aCons (vVarZ 11) aNil))) (gN 6) fb_law_b3)
      (sRet (up (vAndF (vCall (n := 2) m__law_same (aCons (vCall (n := 2) (m_walks_from C) (aCons (vVarZ 8) (aCons (vVarZ 11) aNil))) (aCons (v1 dTuple (vVarZ 10)) aNil))) (vCall (n := 2) m__law_same (aCons (vCall (n := 2) (m_by_walks C) (aCons (vVarZ 8) (aCons (vVarZ 11) aNil))) (aCons (vCall (n := 1) m__law_lots (aCons (vVarZ 10) aNil)) aNil))))))))))))))))))
def m_law (C : Addr) : List D → Option D := fun ds => endP (fb_law C (argZ ds ++ List.replicate 16 none))
theorem ok_law {P : Program} {w : World} {K : PySem.W.Frag} {mg : Str → Option Value} {base : Heap} {C : Addr} {f : Addr} {fd : FuncData} (F : Fun K "law" "law" st_law f fd) (T : Txt K mg C) (c__law_draws : Fc P w K mg base "_law_draws" ["script"] 1 (spP K 1 (.seq .z) m__law_draws)) (c__law_pick : Fc P w K mg base "_law_pick" ["draws", "row"] 2 (spIO K 2 0 (.seq .z) .z m__law_pick)) (c__law_rows : Fc P w K mg base "_law_rows" ["draws", "size"] 3 (spIO K 2 0 (.seq .z) .z m__law_rows)) (c_Table : Mc P w K mg base "Table" C ["self", "rows"] 2 (spIO K 2 0 (.obj fun _ => .z) .z (m_Table_init C))) (c__law_lots : Fc P w K mg base "_law_lots" ["counts"] 1 (spP K 1 .z m__law_lots)) (c__law_same : Fc P w K mg base "_law_same" ["actual", "expected"] 3 (spP K 2 .z m__law_same)) (c_walks_from : Fc P w K mg base "walks_from" ["table", "length"] 3 (spP K 2 .z (m_walks_from C))) (c_walks_between : Fc P w K mg base "walks_between" ["table", "length"] 3 (spP K 2 .z (m_walks_between C))) (c_closed_walks : Fc P w K mg base "closed_walks" ["table", "length"] 4 (spP K 2 .z (m_closed_walks C))) (c_by_walks : Fc P w K mg base "by_walks" ["table", "length"] 4 (spP K 2 .z (m_by_walks C))) (c__law_times : Fc P w K mg base "_law_times" ["rows", "table"] 1 (spP K 2 .z m__law_times)) (c_steady_from : Fc P w K mg base "steady_from" ["table", "most"] 5 (spP K 2 .z (m_steady_from C))) : FnOk P w K mg base CX0 6 f fd ["script"] (spP K 1 .z (m_law C)) :=
  fn_pure (fb := fb_law C) F sc_law (fun cdv A outer s H E hr => ((ssv_cons (sv_set (i := 1) sc_law.nd rfl (loc_of rfl) (FP.ef (fp_call c__law_draws.ok (hr.mono (by decide)) rfl c__law_draws.g c__law_draws.q c__law_draws.b (pav_cons (pv_varZ (i := 0) rfl (vis_of rfl)) pav_nil))) rfl)
      (ssv_cons (sv_set (i := 2) sc_law.nd rfl (loc_of rfl) (ef_callIO c__law_pick.ok (hr.mono (by decide)) rfl c__law_pick.g c__law_pick.q c__law_pick.b (qa_here (j := 1) rfl (vis_of rfl) (pav_cons (FP.pv (fp_lst (pav_cons pv_int (pav_cons pv_int (pav_cons pv_int (pav_cons pv_int (pav_cons pv_int (pav_cons pv_int pav_nil)))))))) pav_nil)) hfs0) rfl)
      (ssv_cons (sv_set (i := 3) sc_law.nd rfl (loc_of rfl) (ef_callIO c__law_rows.ok (hr.mono (by decide)) rfl c__law_rows.g c__law_rows.q c__law_rows.b (qa_here (j := 1) rfl (vis_of rfl) (pav_cons (pv_varZ (i := 2) rfl (vis_of rfl)) pav_nil)) hfs0) rfl)
      (ssv_cons (sv_par (i := 8) (j := 9) rfl sc_law.nd rfl rfl (by decide) rfl rfl (eav_cons (PV.ev (FP.pv (fp_make c_Table.mke c_Table.ok (hr.mono (by decide)) rfl c_Table.g c_Table.b (pav_cons (pv_varZ (i := 3) rfl (vis_of rfl)) pav_nil)))) (eav_cons (EF.ev (ef_callIO c__law_pick.ok (hr.mono (by decide)) rfl c__law_pick.g c__law_pick.q c__law_pick.b (qa_here (j := 1) rfl (vis_of rfl) (pav_cons (FP.pv (fp_lst (pav_cons pv_int (pav_cons pv_int (pav_cons pv_int (pav_cons pv_int (pav_cons pv_int pav_nil))))))) pav_nil)) hfs0)) eav_nil)) rfl rfl (by rfl))
      (ssv_cons (sv_set (i := 4) sc_law.nd rfl (loc_of rfl) (FP.ef (PV.fp (FP.pv (fp_lc (own := [("one", 12)]) rfl sc_law.nd (ip_range1 rfl T.b_range (pav_cons (pv_varZ (i := 2) rfl (vis_of rfl)) pav_nil)) (blkOk_by (by rfl)) (fun _ _ _ _ _ => (pgv_name (i := 12) sc_law.nd rfl (loc_of rfl))) (fun _ _ _ _ _ => ptsv_nil) (fun _ _ _ _ _ => (fp_lc (own := [("other", 13)]) rfl sc_law.nd (ip_range1 rfl T.b_range (pav_cons (pv_varZ (i := 2) rfl (vis_of rfl)) pav_nil)) (blkOk_by (by rfl)) (fun _ _ _ _ _ => (pgv_name (i := 13) sc_law.nd rfl (loc_of rfl))) (fun _ _ _ _ _ => ptsv_nil) (fun _ _ _ _ _ => (PV.fp (pv_if (pt_cmpV (op_eqD hr.units) od_eq (pv_varZ (i := 12) rfl (vis_of rfl)) (pv_varZ (i := 13) rfl (vis_of rfl)) (nomark _)) pv_int pv_int))) rfl)) rfl)))) rfl)
      (ssv_cons (sv_set (i := 5) sc_law.nd rfl (loc_of rfl) (FP.ef (fp_lst pav_nil)) rfl)
      (ssv_cons (sv_for PassesOwn.never rfl (IPV.iev (ip_range1 rfl T.b_range (pav_cons (pv_bin op_add od_addI (pv_varZ (i := 9) rfl (vis_of rfl)) pv_int) pav_nil))) (pgv_name (i := 6) sc_law.nd rfl (loc_of rfl))
      (ssv_cons (sv_set (i := 10) sc_law.nd rfl (loc_of rfl) (FP.ef (PV.fp (FP.pv (fp_lc (own := [("line", 14)]) rfl sc_law.nd (ip_seq (pv_varZ (i := 4) rfl (vis_of rfl))) (blkOk_by (by rfl)) (fun _ _ _ _ _ => (pgv_name (i := 14) sc_law.nd rfl (loc_of rfl))) (fun _ _ _ _ _ => ptsv_nil) (fun _ _ _ _ _ => (PV.fp (pv_sum T.b_sum rfl (pv_varZ (i := 14) rfl (vis_of rfl)) rfl))) rfl)))) rfl)
      (ssv_cons (sv_append (lv_var (i := 5) rfl (vis_of rfl)) (FP.ef (fp_call c__law_lots.ok (hr.mono (by decide)) rfl c__law_lots.g c__law_lots.q c__law_lots.b (pav_cons (pv_varZ (i := 10) rfl (vis_of rfl)) pav_nil))) rfl)
      (ssv_cons (sv_if (PTV.etv (pt_cmpV op_in_seq od_in (pv_varZ (i := 6) rfl (vis_of rfl)) (pv_tup (pav_cons pv_int (pav_cons pv_int (pav_cons (pv_varZ (i := 9) rfl (vis_of rfl)) (pav_cons (pv_bin op_fdivN od_fdiv (pv_varZ (i := 9) rfl (vis_of rfl)) pv_int) pav_nil))))) (by with_unfolding_all rfl)))
      (ssv_cons (sv_if (PTV.etv (PWV.pt (pw_orV (pt_notV (pt_valV (FP.pv (fp_call c__law_same.ok (hr.mono (by decide)) rfl c__law_same.g c__law_same.q c__law_same.b (pav_cons (FP.pv (fp_call c_walks_from.ok (hr.mono (by decide)) rfl c_walks_from.g c_walks_from.q c_walks_from.b (pav_cons (pv_varZ (i := 8) rfl (vis_of rfl)) (pav_cons (pv_varZ (i := 6) rfl (vis_of rfl)) pav_nil)))) (pav_cons (pv_tupC T.b_tuple rfl (pv_varZ (i := 10) rfl (vis_of rfl)) rfl) pav_nil)))))) (pw_or1V (pt_notV (pt_valV (FP.pv (fp_call c__law_same.ok (hr.mono (by decide)) rfl c__law_same.g c__law_same.q c__law_same.b (pav_cons (FP.pv (fp_call c_walks_between.ok (hr.mono (by decide)) rfl c_walks_between.g c_walks_between.q c_walks_between.b (pav_cons (pv_varZ (i := 8) rfl (vis_of rfl)) (pav_cons (pv_varZ (i := 6) rfl (vis_of rfl)) pav_nil)))) (pav_cons (pv_tupC T.b_tuple rfl (FP.pv (fp_lc (own := [("line", 14)]) rfl sc_law.nd (ip_seq (pv_varZ (i := 4) rfl (vis_of rfl))) (blkOk_by (by rfl)) (fun _ _ _ _ _ => (pgv_name (i := 14) sc_law.nd rfl (loc_of rfl))) (fun _ _ _ _ _ => ptsv_nil) (fun _ _ _ _ _ => (PV.fp (pv_tupC T.b_tuple rfl (pv_varZ (i := 14) rfl (vis_of rfl)) rfl))) rfl)) rfl) pav_nil))))))))))
      (ssv_one (sv_ret (FP.ef (PV.fp pv_bl))))
      ssv_nil)
      (ssv_one (sv_if (PTV.etv (PWV.pt (pw_orV (pt_notV (pt_valV (FP.pv (fp_call c__law_same.ok (hr.mono (by decide)) rfl c__law_same.g c__law_same.q c__law_same.b (pav_cons (FP.pv (fp_call c_closed_walks.ok (hr.mono (by decide)) rfl c_closed_walks.g c_closed_walks.q c_closed_walks.b (pav_cons (pv_varZ (i := 8) rfl (vis_of rfl)) (pav_cons (pv_varZ (i := 6) rfl (vis_of rfl)) pav_nil)))) (pav_cons (pv_sum T.b_sum rfl (FP.pv (fp_lc (own := [("side", 16)]) rfl sc_law.nd (ip_range1 rfl T.b_range (pav_cons (pv_varZ (i := 2) rfl (vis_of rfl)) pav_nil)) (blkOk_by (by rfl)) (fun _ _ _ _ _ => (pgv_name (i := 16) sc_law.nd rfl (loc_of rfl))) (fun _ _ _ _ _ => ptsv_nil) (fun _ _ _ _ _ => (PV.fp (pv_ix ix_seq (od_ix (by rfl)) (pv_ix ix_seq (od_ix (by rfl)) (pv_varZ (i := 4) rfl (vis_of rfl)) (pv_varZ (i := 16) rfl (vis_of rfl)) (by intro _ _; rfl)) (pv_varZ (i := 16) rfl (vis_of rfl)) (by intro _ _; rfl)))) rfl)) rfl) pav_nil)))))) (pw_or1V (pt_notV (pt_valV (FP.pv (fp_call c__law_same.ok (hr.mono (by decide)) rfl c__law_same.g c__law_same.q c__law_same.b (pav_cons (FP.pv (fp_call c_by_walks.ok (hr.mono (by decide)) rfl c_by_walks.g c_by_walks.q c_by_walks.b (pav_cons (pv_varZ (i := 8) rfl (vis_of rfl)) (pav_cons (pv_varZ (i := 6) rfl (vis_of rfl)) pav_nil)))) (pav_cons (pv_ix ix_seq (od_ix (by rfl)) (pv_varS (i := 5) rfl (vis_of rfl)) (pv_neg pv_int) (by intro _ _; rfl)) pav_nil))))))))))
      (ssv_one (sv_ret (FP.ef (PV.fp pv_bl))))
      ssv_nil)))
      ssv_nil)
      (ssv_one (sv_set (i := 4) sc_law.nd rfl (loc_of rfl) (FP.ef (fp_call c__law_times.ok (hr.mono (by decide)) rfl c__law_times.g c__law_times.q c__law_times.b (pav_cons (pv_varZ (i := 3) rfl (vis_of rfl)) (pav_cons (pv_varZ (i := 4) rfl (vis_of rfl)) pav_nil)))) rfl))))) rfl)
      (ssv_cons (sv_set (i := 7) sc_law.nd rfl (loc_of rfl) (FP.ef (PV.fp (pv_varZ (i := 9) rfl (vis_of rfl)))) rfl)
      (ssv_cons (sv_while 1000 PassesOwn.never (PTV.etv (PWV.pt (pw_andV (pt_cmpV op_gt od_gt (pv_varZ (i := 7) rfl (vis_of rfl)) pv_int (nomark _)) (pw_and1V (pt_cmpV (op_eqD hr.units) od_eq (pv_ix ix_seq (od_ix (by rfl)) (pv_varS (i := 5) rfl (vis_of rfl)) (pv_bin op_sub od_sub (pv_varZ (i := 7) rfl (vis_of rfl)) pv_int) (by intro _ _; rfl)) (pv_ix ix_seq (od_ix (by rfl)) (pv_varS (i := 5) rfl (vis_of rfl)) (pv_varZ (i := 9) rfl (vis_of rfl)) (by intro _ _; rfl)) (nomark _))))))
      (ssv_one (sv_set (i := 7) sc_law.nd rfl (loc_of rfl) (FP.ef (PV.fp (pv_bin op_sub od_sub (pv_varZ (i := 7) rfl (vis_of rfl)) pv_int))) rfl)))
      (ssv_cons (sv_if (PTV.etv (pt_notV (pt_valV (FP.pv (fp_call c__law_same.ok (hr.mono (by decide)) rfl c__law_same.g c__law_same.q c__law_same.b (pav_cons (FP.pv (fp_call c_steady_from.ok (hr.mono (by decide)) rfl c_steady_from.g c_steady_from.q c_steady_from.b (pav_cons (pv_varZ (i := 8) rfl (vis_of rfl)) (pav_cons (pv_varZ (i := 9) rfl (vis_of rfl)) pav_nil)))) (pav_cons (pv_varZ (i := 7) rfl (vis_of rfl)) pav_nil)))))))
      (ssv_one (sv_ret (FP.ef (PV.fp pv_bl))))
      ssv_nil)
      (ssv_cons (sv_asg (EV.ef (ev_tup (eav_cons (EF.ev (ef_callIO c__law_pick.ok (hr.mono (by decide)) rfl c__law_pick.g c__law_pick.q c__law_pick.b (qa_here (j := 1) rfl (vis_of rfl) (pav_cons (FP.pv (fp_lst (pav_cons pv_int (pav_cons pv_int (pav_cons pv_int pav_nil))))) pav_nil)) hfs0)) (eav_cons (PV.ev (FP.pv (fp_bin op_rep of_rep (FP.pb (fp_lst (pav_cons pv_int pav_nil))) (pv_varZ (i := 2) rfl (vis_of rfl))))) eav_nil)))) (PGV.pgf (pgv_tup rfl (pgsv_cons (pgv_name (i := 11) sc_law.nd rfl (loc_of rfl)) (pgsv_cons (pgv_name (i := 10) sc_law.nd rfl (loc_of rfl)) pgsv_nil)))) rfl)
      (ssv_cons (sv_for PassesOwn.never rfl (IPV.iev (ip_range1 rfl T.b_range (pav_cons (pv_varZ (i := 11) rfl (vis_of rfl)) pav_nil))) (pgv_name (i := 6) sc_law.nd rfl (loc_of rfl))
      (ssv_one (sv_set (i := 10) sc_law.nd rfl (loc_of rfl) (FP.ef (PV.fp (FP.pv (fp_lc (own := [("one", 12)]) rfl sc_law.nd (ip_range1 rfl T.b_range (pav_cons (pv_varZ (i := 2) rfl (vis_of rfl)) pav_nil)) (blkOk_by (by rfl)) (fun _ _ _ _ _ => (pgv_name (i := 12) sc_law.nd rfl (loc_of rfl))) (fun _ _ _ _ _ => ptsv_nil) (fun _ _ _ _ _ => (PV.fp (pv_sum T.b_sum rfl (FP.pv (fp_lc (own := [("k", 15)]) rfl sc_law.nd (ip_range1 rfl T.b_range (pav_cons (pv_varZ (i := 2) rfl (vis_of rfl)) pav_nil)) (blkOk_by (by rfl)) (fun _ _ _ _ _ => (pgv_name (i := 15) sc_law.nd rfl (loc_of rfl))) (fun _ _ _ _ _ => (ptsv_one (pt_cmpV (op_eqD hr.units) od_eq (pv_bin op_and od_and (pv_bin op_shr od_shr (pv_ix ix_seq (od_ix (by rfl)) (pv_varZ (i := 3) rfl (vis_of rfl)) (pv_varZ (i := 12) rfl (vis_of rfl)) (by intro _ _; rfl)) (pv_varZ (i := 15) rfl (vis_of rfl))) pv_int) pv_int (nomark _)))) (fun _ _ _ _ _ => (PV.fp (pv_ix ix_seq (od_ix (by rfl)) (pv_varZ (i := 10) rfl (vis_of rfl)) (pv_varZ (i := 15) rfl (vis_of rfl)) (by intro _ _; rfl)))) rfl)) rfl))) rfl)))) rfl)) rfl)
      (ssv_one (sv_ret (FP.ef (PV.fp (pv_and (FP.pv (fp_call c__law_same.ok (hr.mono (by decide)) rfl c__law_same.g c__law_same.q c__law_same.b (pav_cons (FP.pv (fp_call c_walks_from.ok (hr.mono (by decide)) rfl c_walks_from.g c_walks_from.q c_walks_from.b (pav_cons (pv_varZ (i := 8) rfl (vis_of rfl)) (pav_cons (pv_varZ (i := 11) rfl (vis_of rfl)) pav_nil)))) (pav_cons (pv_tupC T.b_tuple rfl (pv_varZ (i := 10) rfl (vis_of rfl)) rfl) pav_nil)))) (pv_one (FP.pv (fp_call c__law_same.ok (hr.mono (by decide)) rfl c__law_same.g c__law_same.q c__law_same.b (pav_cons (FP.pv (fp_call c_by_walks.ok (hr.mono (by decide)) rfl c_by_walks.g c_by_walks.q c_by_walks.b (pav_cons (pv_varZ (i := 8) rfl (vis_of rfl)) (pav_cons (pv_varZ (i := 11) rfl (vis_of rfl)) pav_nil)))) (pav_cons (FP.pv (fp_call c__law_lots.ok (hr.mono (by decide)) rfl c__law_lots.g c__law_lots.q c__law_lots.b (pav_cons (pv_varZ (i := 10) rfl (vis_of rfl)) pav_nil))) pav_nil))))))))))))))))))))))
    : SSV (BCx P w K mg base _ _ st_law f cdv A outer s H E) .z [] (defBody st_law) (fb_law C))) (fun _ _ _ h => h)
end K09

set_option Elab.async false
set_option linter.all false
set_option maxRecDepth 100000
namespace K09
open PySem PySem.Spec PyProof.Rows L2 VL
def bitI (r : Int) (j : Nat) : Bool := Builtin.bitAnd (r / 2 ^ j) 1 == 1
theorem bit_ev (r : Int) (j : Nat) : m_bit [.int r, .int j] = some (.bl (bitI r j)) := by
  simp [m_bit, fb_bit, bitI]
theorem members_ev (r : Int) : m_members [.int r] = some (.tup (((List.range 12).filter (bitI r)).map fun j : Nat => .int j)) := by
  have : fb_members_c1 [some (.z, .int r), none] = some (.lst (((List.range 12).filter (bitI r)).map fun j : Nat => .int j)) := by
    refine vLc_eq (I := fun k : Nat => .int k) (xs := List.range 12) rfl ?_ (by decide) fun x _ => ⟨_, rfl, ?_, fun _ => ?_⟩
    · simp [vRng1]; exact dRange0 12
    · simp [bit_ev]
    · simp
  simp [m_members, fb_members, this]
theorem is_integer_ev (i : Int) : m_is_integer [.int i] = some (.bl true) := by
  simp [m_is_integer, fb_is_integer, isT, tyName, isTab]
theorem look_ev (i : Int) (h : 0 ≤ i) (h2 : i ≤ 400) : m_look_at_length [.int i] = some .non := by
  simp [m_look_at_length, fb_look_at_length, is_integer_ev, vChain, h, h2]
/-! ### the table -/
def tabD (C : Addr) (n : Nat) (r : Nat → Int) : D := .obj C ["rows", "size", "everyone"] [.tup ((List.range n).map fun i => .int (r i)), .int n, .int (2 ^ n - 1)]
section
variable {C : Addr} {n : Nat} {r : Nat → Int} {f : Sto → Option D} {ρ : Sto}
@[simp] theorem tab_rows : fldD C "rows" (tabD C n r) = some (.tup ((List.range n).map fun i => .int (r i))) := by
  unfold fldD vFld; simp only [tabD, if_true]; rfl
@[simp] theorem tab_size : fldD C "size" (tabD C n r) = some (.int n) := by
  unfold fldD vFld; simp only [tabD, if_true]; rfl
/-! ### walks -/
def Wf (n : Nat) (A : Nat → Nat → Bool) : Nat → Nat → Int
  | 0 => fun _ => 1
  | l + 1 => fun i => (((List.range n).filter (A i)).map (Wf n A l)).sum
/-- the rows hold nothing beyond the sides -/
def RowsOk (n : Nat) (r : Nat → Int) : Prop := ∀ i, i < n → ∀ j, n ≤ j → j < 12 → bitI (r i) j = false
theorem members_in (hn : n ≤ 12) (hr : RowsOk n r) {i : Nat} (hi : i < n) : m_members [.int (r i)] = some (.tup (((List.range n).filter (bitI (r i))).map fun j : Nat => .int j)) := by
  rw [members_ev]
  have e : List.range 12 = List.range n ++ (List.range (12 - n)).map (n + ·) := by
    rw [← List.range_add]; congr 1; omega
  have e2 : ((List.range (12 - n)).map (n + ·)).filter (bitI (r i)) = [] := by
    rw [List.filter_eq_nil_iff]
    intro a m
    obtain ⟨k, hk, rfl⟩ := List.mem_map.mp m
    have hk := List.mem_range.mp hk
    rw [hr i hi (n + k) (by omega) (by omega)]
    simp
  rw [e, List.filter_append, e2, List.append_nil]
abbrev st_wf (C : Addr) (n : Nat) (r : Nat → Int) (l k : Nat) (x y z : Slot) : Sto := [some (.z, tabD C n r), some (.z, .int l), some (.z, .lst ((List.range n).map fun i => .int (Wf n (fun i => bitI (r i)) k i))), x, y, z]
theorem wf_inner (hn : n ≤ 12) (hr : RowsOk n r) {l : Nat} (k i : Nat) (x : Slot) (hi : i < n) : fb_walks_from_c1 C (st_wf C n r l k x (some (.z, .int i)) none) =
      some (.lst (((List.range n).filter (bitI (r i))).map fun j => .int (Wf n (fun i => bitI (r i)) k j))) := by
  refine vLc_map (I := fun k : Nat => .int k) (xs := (List.range n).filter (bitI (r i))) rfl ?_ ?_ fun j m => ⟨_, rfl, ?_⟩
  · simp [members_in hn hr hi, hi]
  · exact Nat.le_trans (List.length_filter_le _ _) (by simp; omega)
  · have hj := List.mem_range.mp (List.mem_filter.mp m).1
    simp [hj]
theorem wf_outer (hn : n ≤ 12) (hr : RowsOk n r) {l : Nat} (k : Nat) (x : Slot) : fb_walks_from_c2 C (st_wf C n r l k x none none) =
      some (.lst ((List.range n).map fun i => .int (Wf n (fun i => bitI (r i)) (k + 1) i))) := by
  refine vLc_map (I := fun k : Nat => .int k) (xs := List.range n) rfl ?_ ?_ fun i m => ⟨_, rfl, ?_⟩
  · simp [vRng1]; omega
  · simp; omega
  · have hi := List.mem_range.mp m
    simp [wf_inner (C := C) hn hr k i x hi, Wf]
theorem wf_loop (hn : n ≤ 12) (hr : RowsOk n r) (l : Nat) : ∃ ρ', forL (gN 3) (fb_walks_from_b1 C) ((List.range l).map fun k : Nat => D.int k) (st_wf C n r l 0 none none none) = some (.nx ρ') ∧
      ∃ x, ρ' = st_wf C n r l l x none none := by
  have := forL_inv (g := gN 3) (b := fb_walks_from_b1 C) (I := fun k : Nat => D.int k) (List.range l) (fun k ρ => ∃ x, ρ = st_wf C n r l k x none none) (fun k i ρ _ ⟨x, e⟩ => ?_) ⟨none, rfl⟩
  · rw [List.length_range] at this; exact this
  · subst e
    exact ⟨_, _, rfl, .inl (by simp [fb_walks_from_b1, wf_outer hn hr]; rfl), ⟨_, rfl⟩⟩
theorem walks_from_ev (hn : n ≤ 12) (hr : RowsOk n r) {l : Nat} (hl : l ≤ 400) : m_walks_from C [tabD C n r, .int l] = some (.tup ((List.range n).map fun i => .int (Wf n (fun i => bitI (r i)) l i))) := by
  obtain ⟨ρ', e, x, rfl⟩ := wf_loop (C := C) hn hr l
  have hl2 : (l : Int) ≤ 400 := by omega
  have hl3 : (l : Int) < 1000000000 ∧ -1000000000 < (l : Int) := by omega
  have e2 : fb_walks_from C (argZ [tabD C n r, .int l] ++ List.replicate 4 none) = some (.rt (.tup ((List.range n).map fun i => .int (Wf n (fun i => bitI (r i)) l i))) (st_wf C n r l l x none none)) := by
    have e' : forL (gN 3) (fb_walks_from_b1 C) ((List.range l).map fun k : Nat => D.int k) [some (.z, tabD C n r), some (.z, .int l), some (.z, .lst ((List.range n).map fun _ => .int 1)), none, none, none] = some (.nx (st_wf C n r l l x none none)) := e
    simp [fb_walks_from, look_ev, hl2, dRep_one _ n (by omega), vRng1, hl3, e']
  unfold m_walks_from
  rw [e2]; rfl
end
end K09

set_option Elab.async false
set_option linter.all false
set_option maxRecDepth 100000
namespace K09
open PySem PySem.Spec PyProof.Rows L2 VL
/-! ### sums -/
def S (n : Nat) (f : Nat → Int) : Int := ((List.range n).map f).sum
theorem S_succ (n : Nat) (f : Nat → Int) : S (n + 1) f = S n f + f n := by
  unfold S; rw [List.range_succ, List.map_append, List.sum_append]; simp
theorem S_zero (f : Nat → Int) : S 0 f = 0 := rfl
theorem S_congr {n : Nat} {f g : Nat → Int} (h : ∀ i, i < n → f i = g i) : S n f = S n g := by
  unfold S; congr 1; exact List.map_congr_left fun i m => h i (List.mem_range.mp m)
theorem S_add (n : Nat) (f g : Nat → Int) : S n (fun i => f i + g i) = S n f + S n g := by
  induction n with
  | zero => rfl
  | succ n ih => rw [S_succ, S_succ, S_succ, ih]; omega
theorem S_const0 (n : Nat) : S n (fun _ => 0) = 0 := by
  induction n with
  | zero => rfl
  | succ n ih => rw [S_succ, ih]; rfl
theorem S_mul (n : Nat) (c : Int) (f : Nat → Int) : S n (fun i => c * f i) = c * S n f := by
  induction n with
  | zero => simp [S_zero]
  | succ n ih => rw [S_succ, S_succ, ih, Int.mul_add]
theorem S_swap (n m : Nat) (f : Nat → Nat → Int) : S n (fun i => S m (fun j => f i j)) = S m (fun j => S n (fun i => f i j)) := by
  induction n with
  | zero => simp [S_zero, S_const0]
  | succ n ih => rw [S_succ, ih, ← S_add]; exact S_congr fun j _ => (S_succ n fun i => f i j).symm
theorem S_one (n i : Nat) (hi : i < n) (f : Nat → Int) : S n (fun j => (if j = i then 1 else 0) * f j) = f i := by
  induction n with
  | zero => omega
  | succ n ih =>
    rw [S_succ]
    by_cases h : n = i
    · subst h
      have : S n (fun j => (if j = n then 1 else 0) * f j) = S n (fun _ => 0) := S_congr fun j hj => by rw [if_neg (by omega)]; simp
      rw [this, S_const0]; simp
    · rw [ih (by omega), if_neg h]; simp
theorem filter_S (n : Nat) (p : Nat → Bool) (f : Nat → Int) : (((List.range n).filter p).map f).sum = S n (fun k => if p k then f k else 0) := by
  induction n with
  | zero => rfl
  | succ n ih =>
    rw [S_succ, ← ih, List.range_succ, List.filter_append, List.map_append, List.sum_append]
    congr 1
    cases h : p n <;> simp [h]
/-- walks from i to j -/
def Hb (n : Nat) (A : Nat → Nat → Bool) : Nat → Nat → Nat → Int
  | 0 => fun i j => if j = i then 1 else 0
  | l + 1 => fun i j => (((List.range n).filter fun k => A k j).map (Hb n A l i)).sum
theorem Hb_pair (n : Nat) (A : Nat → Nat → Bool) (i : Nat) : ∀ (l : Nat) (f : Nat → Int), S n (fun j => Hb n A (l + 1) i j * f j) = S n (fun k => Hb n A l i k * S n (fun j => if A k j then f j else 0)) := by
  intro l f
  have e1 : S n (fun j => Hb n A (l + 1) i j * f j) = S n (fun j => S n (fun k => (if A k j then Hb n A l i k else 0) * f j)) := S_congr fun j _ => by
    show (((List.range n).filter fun k => A k j).map (Hb n A l i)).sum * f j = _
    rw [filter_S, Int.mul_comm, ← S_mul]
    exact S_congr fun k _ => Int.mul_comm _ _
  rw [e1, S_swap]
  refine S_congr fun k _ => ?_
  rw [← S_mul]
  refine S_congr fun j _ => ?_
  cases A k j <;> simp
theorem Hb_Wf (n : Nat) (A : Nat → Nat → Bool) (i : Nat) (hi : i < n) : ∀ (l m : Nat), S n (fun j => Hb n A l i j * Wf n A m j) = Wf n A (m + l) i
  | 0, m => S_one n i hi _
  | l + 1, m => by
    rw [Hb_pair]
    have : S n (fun k => Hb n A l i k * S n (fun j => if A k j then Wf n A m j else 0)) = S n (fun k => Hb n A l i k * Wf n A (m + 1) k) := S_congr fun k _ => by
      congr 1
      show _ = (((List.range n).filter (A k)).map (Wf n A m)).sum
      rw [filter_S]
    rw [this, Hb_Wf n A i hi l (m + 1)]
    congr 1; omega
theorem Hb_sum (n : Nat) (A : Nat → Nat → Bool) (i l : Nat) (hi : i < n) : ((List.range n).map (Hb n A l i)).sum = Wf n A l i := by
  have := Hb_Wf n A i hi l 0
  rw [Nat.zero_add] at this
  rw [← this]
  exact S_congr fun j _ => by show _ = _ * 1; simp
end K09

set_option Elab.async false
set_option linter.all false
set_option maxRecDepth 100000
namespace K09
open PySem PySem.Spec PyProof.Rows L2 VL
def who (n : Nat) (F : Nat → Int) (m : Int) : D := .tup (((List.range n).filter fun i => F i == m).map fun i : Nat => .int i)
def lots (n : Nat) (F : Nat → Int) : D := .tup (((sset ((List.range n).map F)).reverse).map (who n F))
section
variable {C : Addr} {n : Nat} {r : Nat → Int}
theorem lots_row {F : Nat → Int} {m : Int} {x y : Slot} (hn : n ≤ 12) : fb__law_lots_c1 [some (.z, .lst ((List.range n).map fun i => .int (F i))), x, some (.z, .int m), none] = some (.lst (((List.range n).filter fun i => F i == m).map fun i : Nat => .int i)) := by
  refine vLc_eq (I := fun k : Nat => .int k) (xs := List.range n) rfl ?_ ?_ fun i m => ⟨_, rfl, ?_, fun _ => ?_⟩
  · simp [vRng1]; omega
  · simp; omega
  · have hi := List.mem_range.mp m
    simp [hi]
  · simp
theorem sset_len (ns : List Int) : (sset ns).length ≤ ns.length := by
  have : ∀ (x : Int) (ys : List Int), (sins x ys).length ≤ ys.length + 1 := by
    intro x ys
    induction ys with
    | nil => simp [sins]
    | cons y ys ih => unfold sins; split; · simp
                      split <;> simp; omega
  induction ns with
  | nil => simp [sset]
  | cons n ns ih => have := this n (sset ns); simp [sset]; omega
theorem law_lots_ev {F : Nat → Int} (hn : n ≤ 12) : m__law_lots [.lst ((List.range n).map fun i => .int (F i))] = some (lots n F) := by
  have hl : ((List.range n).map F).length < 64 := by simp; omega
  have hl2 := sset_len ((List.range n).map F)
  have e0 : (List.range n).map (fun i => D.int (F i)) = ((List.range n).map F).map D.int := by rw [List.map_map]; rfl
  have loop := forL_inv (g := gN 2) (b := fb__law_lots_b1) (I := D.int) (sset ((List.range n).map F)).reverse (fun k ρ => ∃ x, ρ = [some (.z, .lst ((List.range n).map fun i => .int (F i))), some (.seq .z, .lst (((sset ((List.range n).map F)).reverse.take k).map (who n F))), x, none]) (fun k m ρ hk ⟨x, e⟩ => by
    subst e
    have hk2 := (List.getElem?_eq_some_iff.mp hk).1
    rw [List.length_reverse] at hk2
    have hk3 : min k (sset ((List.range n).map F)).length < 1000000 := by omega
    refine ⟨_, _, rfl, .inl ?_, ⟨some (.z, .int m), rfl⟩⟩
    rw [List.take_succ, hk]
    simp [fb__law_lots_b1, lots_row (F := F) (m := m) (y := none) hn, who, hk3]) ⟨none, rfl⟩
  obtain ⟨ρ', e, x, rfl⟩ := loop
  rw [List.take_length] at e
  rw [List.map_reverse] at e
  have e1 : forL (gN 2) fb__law_lots_b1 ((sset ((List.range n).map F)).map D.int).reverse [some (.z, .lst ((List.range n).map fun i => .int (F i))), some (.seq .z, .lst []), none, none] = _ := e
  have e2 : dSortedSet (.lst ((List.range n).map fun i => .int (F i))) = _ := dSortedSet_f (F := F) (xs := List.range n) (by simp; omega)
  have e' : fb__law_lots (argZ [.lst ((List.range n).map fun i => .int (F i))] ++ List.replicate 3 none) = some (.rt (lots n F) [some (.z, .lst ((List.range n).map fun i => .int (F i))), some (.seq .z, .lst ((sset ((List.range n).map F)).reverse.map (who n F))), x, none]) := by
    simp [fb__law_lots, e2, e1, lots]
  unfold m__law_lots
  rw [e']; rfl
end
end K09

set_option Elab.async false
set_option linter.all false
set_option maxRecDepth 100000
namespace K09
open PySem PySem.Spec PyProof.Rows L2 VL
section
variable {C : Addr} {n : Nat} {r : Nat → Int}
abbrev A (r : Nat → Int) : Nat → Nat → Bool := fun i => bitI (r i)
/-! ### lots by walks -/
theorem by_row {F : Nat → Int} {m : Int} {x y : Slot} (hn : n ≤ 12) : fb_by_walks_c2 C [some (.z, tabD C n r), x, some (.z, .tup ((List.range n).map fun i => .int (F i))), y, some (.z, .int m), none, none] = some (.lst (((List.range n).filter fun i => F i == m).map fun i : Nat => .int i)) := by
  refine vLc_eq (I := fun k : Nat => .int k) (xs := List.range n) rfl ?_ ?_ fun i m => ⟨_, rfl, ?_, fun _ => ?_⟩
  · simp [vRng1]; omega
  · simp; omega
  · have hi := List.mem_range.mp m
    simp [hi]
  · simp
theorem by_keys {F : Nat → Int} {x y z : Slot} (hn : n ≤ 12) : ∃ ds', fb_by_walks_c1 [x, y, some (.z, .tup ((List.range n).map fun i => .int (F i))), z, none, none, none] = some (.dicK ((kfold [] ((List.range n).map F)).map Sum.inl) ds') := by
  refine vDc_keys rfl ?_ ?_ fun m _ => ⟨_, _, rfl, rfl, ?_, rfl⟩
  · simp
  · simp; omega
  · simp
theorem by_walks_ev (hn : n ≤ 12) (hr : RowsOk n r) {l : Nat} (hl : l ≤ 400) : m_by_walks C [tabD C n r, .int l] = some (lots n (Wf n (A r) l)) := by
  have hl2 := sset_len ((List.range n).map (Wf n (A r) l))
  have hl0 : ((List.range n).map (Wf n (A r) l)).length < 64 := by simp; omega
  have loop := forL_inv (g := gN 4) (b := fb_by_walks_b1 C) (I := D.int) (sset ((List.range n).map (Wf n (A r) l))).reverse (fun k ρ => ∃ x, ρ = [some (.z, tabD C n r), some (.z, .int l), some (.z, .tup ((List.range n).map fun i => .int (Wf n (A r) l i))), some (.seq .z, .lst (((sset ((List.range n).map (Wf n (A r) l))).reverse.take k).map (who n (Wf n (A r) l)))), x, none, none]) (fun k m ρ hk ⟨x, e⟩ => by
    subst e
    have hk2 := (List.getElem?_eq_some_iff.mp hk).1
    rw [List.length_reverse] at hk2
    simp at hl0
    have hk3 : min k (sset ((List.range n).map (Wf n (A r) l))).length < 1000000 := by simp at hl2; omega
    refine ⟨_, _, rfl, .inl ?_, ⟨some (.z, .int m), rfl⟩⟩
    rw [List.take_succ, hk]
    simp [fb_by_walks_b1, by_row (C := C) (F := Wf n (A r) l) (m := m) hn, who, hk3]) ⟨none, rfl⟩
  obtain ⟨ρ', e, x, rfl⟩ := loop
  rw [List.take_length] at e
  rw [List.map_reverse] at e
  obtain ⟨ds', e0⟩ := by_keys (F := Wf n (A r) l) (x := some (.z, tabD C n r)) (y := some (.z, .int l)) (z := some (.seq .z, .lst [])) hn
  have e1 : forL (gN 4) (fb_by_walks_b1 C) ((sset ((List.range n).map (Wf n (A r) l))).map D.int).reverse [some (.z, tabD C n r), some (.z, .int l), some (.z, .tup ((List.range n).map fun i => .int (Wf n (A r) l i))), some (.seq .z, .lst []), none, none, none] = _ := e
  have e' : fb_by_walks C (argZ [tabD C n r, .int l] ++ List.replicate 5 none) = some (.rt (lots n (Wf n (A r) l)) [some (.z, tabD C n r), some (.z, .int l), some (.z, .tup ((List.range n).map fun i => .int (Wf n (A r) l i))), some (.seq .z, .lst ((sset ((List.range n).map (Wf n (A r) l))).reverse.map (who n (Wf n (A r) l)))), x, none, none]) := by
    simp [fb_by_walks, walks_from_ev hn hr hl, e0, dSortedDK_keys hl0, e1, lots]
  unfold m_by_walks
  rw [e']; rfl
/-! ### walks between -/
def hv (n : Nat) (L : Nat → Int) : D := .lst ((List.range n).map fun j => .int (L j))
theorem vec_set {n j : Nat} (f : Nat → D) (d : D) : ((List.range n).map f).set j d = (List.range n).map fun i => if i = j then d else f i := by
  apply List.ext_getElem?
  intro i
  rw [List.getElem?_set]
  simp only [List.getElem?_map, List.length_map, List.length_range]
  by_cases h : i < n
  · rw [List.getElem?_range h]
    by_cases e : j = i
    · subst e; simp [h]
    · simp [e, Ne.symm e]
  · rw [List.getElem?_eq_none (l := List.range n) (by simpa using h)]
    by_cases e : j = i
    · subst e; simp [h]
    · simp [e]
abbrev stb (C : Addr) (n : Nat) (r : Nat → Int) (l : Nat) (x2 x3 x4 x5 x6 x7 x8 : Slot) : Sto := [some (.z, tabD C n r), some (.z, .int l), x2, x3, x4, x5, x6, x7, x8]
theorem wb_add {l k : Nat} (hk : k < n) (L : Nat → Int) (x2 x3 x5 : Slot) : ∀ (ms : List Nat), ms.Nodup → (∀ j ∈ ms, j < n) → ∀ (G : Nat → Int) (x8 : Slot), ∃ y8, forL (gN 8) fb_walks_between_b3 (ms.map fun j : Nat => D.int j) (stb C n r l x2 x3 (some (.z, hv n L)) x5 (some (.seq .z, hv n G)) (some (.z, .int k)) x8) =
    some (.nx (stb C n r l x2 x3 (some (.z, hv n L)) x5 (some (.seq .z, hv n fun j => G j + if j ∈ ms then L k else 0)) (some (.z, .int k)) y8))
  | [], _, _, G, x8 => ⟨x8, by simp [forL]⟩
  | j :: ms, hnd, hlt, G, x8 => by
    obtain ⟨hj, hnd⟩ := List.nodup_cons.mp hnd
    have hjn := hlt j List.mem_cons_self
    obtain ⟨y8, e⟩ := wb_add hk L x2 x3 x5 ms hnd (fun i m => hlt i (List.mem_cons_of_mem _ m)) (fun i => if i = j then G j + L k else G i) (some (.z, .int j))
    refine ⟨y8, ?_⟩
    have step : fb_walks_between_b3 (stb C n r l x2 x3 (some (.z, hv n L)) x5 (some (.seq .z, hv n G)) (some (.z, .int k)) (some (.z, .int j))) = some (.nx (stb C n r l x2 x3 (some (.z, hv n L)) x5 (some (.seq .z, hv n (fun i => if i = j then G j + L k else G i))) (some (.z, .int k)) (some (.z, .int j)))) := by
      have ef : (fun i : Nat => if i = j then D.int (G j + L k) else D.int (G i)) = fun i => D.int (if i = j then G j + L k else G i) := by
        funext i; split <;> rfl
      simp [fb_walks_between_b3, hv, ixN_nat, hjn, hk, vec_set, ef]
    have eG : (fun i => (if i = j then G j + L k else G i) + if i ∈ ms then L k else 0) = fun i => G i + if i ∈ j :: ms then L k else 0 := by
      funext i
      by_cases h : i = j
      · subst h; simp [hj]
      · simp [h]
    rw [eG] at e
    rw [List.map_cons]
    unfold forL
    simp only [q_gN, Option.bind_some]
    show (match fb_walks_between_b3 (stb C n r l x2 x3 (some (.z, hv n L)) x5 (some (.seq .z, hv n G)) (some (.z, .int k)) (some (.z, .int j))) with
      | some (.nx ρ') => forL (gN 8) fb_walks_between_b3 (ms.map fun j : Nat => D.int j) ρ'
      | some (.ct ρ') => forL (gN 8) fb_walks_between_b3 (ms.map fun j : Nat => D.int j) ρ'
      | some (.bk ρ') => some (.nx ρ')
      | some (.rt d ρ') => some (.rt d ρ')
      | none => none) = _
    rw [step]
    exact e
/-- one side's part -/
theorem wb_side (hn : n ≤ 12) (hr : RowsOk n r) {l k : Nat} (hk : k < n) (L G : Nat → Int) (x2 x3 x5 x8 : Slot) : ∃ y8, fb_walks_between_b4 C (stb C n r l x2 x3 (some (.z, hv n L)) x5 (some (.seq .z, hv n G)) (some (.z, .int k)) x8) =
    some (.nx (stb C n r l x2 x3 (some (.z, hv n L)) x5 (some (.seq .z, hv n fun j => G j + if j < n ∧ A r k j = true then L k else 0)) (some (.z, .int k)) y8)) := by
  obtain ⟨y8, e⟩ := wb_add (C := C) (r := r) (l := l) hk L x2 x3 x5 ((List.range n).filter (A r k)) (List.Pairwise.filter _ List.nodup_range) (fun j m => List.mem_range.mp (List.mem_filter.mp m).1) G x8
  refine ⟨y8, ?_⟩
  have e2 : (fun j => G j + if j ∈ (List.range n).filter (A r k) then L k else 0) = fun j => G j + if j < n ∧ A r k j = true then L k else 0 := by
    funext j
    simp [List.mem_filter]
  rw [e2] at e
  simp [fb_walks_between_b4, hk, members_in hn hr hk, e]
theorem hv_congr {L L' : Nat → Int} (h : ∀ j, j < n → L j = L' j) : hv n L = hv n L' := by
  unfold hv
  congr 1
  exact List.map_congr_left fun j m => by rw [h j (List.mem_range.mp m)]
/-- a slot that holds nothing owned -/
def Zs (x : Slot) : Prop := x = none ∨ ∃ d, x = some (.z, d)
/-- one win more -/
theorem wb_turn (hn : n ≤ 12) (hr : RowsOk n r) {l : Nat} (L : Nat → Int) (x2 x3 x5 x6 x7 x8 : Slot) (hx : Zs x7) : ∃ y6 y7 y8, Zs y7 ∧ fb_walks_between_b5 C (stb C n r l x2 x3 (some (.z, hv n L)) x5 x6 x7 x8) =
    some (.nx (stb C n r l x2 x3 (some (.z, hv n fun j => (((List.range n).filter fun k => A r k j).map L).sum)) x5 y6 y7 y8)) := by
  have loop := forL_inv (g := gN 7) (b := fb_walks_between_b4 C) (I := fun j : Nat => D.int j) (List.range n) (fun i ρ => ∃ y7 y8, Zs y7 ∧ ρ = stb C n r l x2 x3 (some (.z, hv n L)) x5 (some (.seq .z, hv n fun j => S i fun k => if A r k j then L k else 0)) y7 y8) (ρ := stb C n r l x2 x3 (some (.z, hv n L)) x5 (some (.seq .z, hv n fun _ => 0)) x7 x8) (fun i j ρ hi ⟨y7, y8, _, e⟩ => by
    subst e
    obtain ⟨h1, h2⟩ := List.getElem?_eq_some_iff.mp hi
    simp at h1 h2
    subst h2
    obtain ⟨z8, e⟩ := wb_side (C := C) hn hr (l := l) h1 L (fun j => S i fun k => if A r k j then L k else 0) x2 x3 x5 y8
    refine ⟨_, _, rfl, .inl e, some (.z, .int i), z8, .inr ⟨_, rfl⟩, ?_⟩
    have : hv n (fun j => (S i fun k => if A r k j then L k else 0) + if j < n ∧ A r i j = true then L i else 0) = hv n fun j => S (i + 1) fun k => if A r k j then L k else 0 := hv_congr fun j hj => by
      rw [S_succ]; simp [hj]
    rw [this]) ⟨x7, x8, hx, rfl⟩
  obtain ⟨ρ', e, y7, y8, hy, rfl⟩ := loop
  rw [List.length_range] at e
  have e1 : forL (gN 7) (fb_walks_between_b4 C) ((List.range n).map fun j : Nat => D.int j) [some (.z, tabD C n r), some (.z, .int l), x2, x3, some (.z, hv n L), x5, some (.seq .z, .lst ((List.range n).map fun _ => .int 0)), x7, x8] = _ := e
  have hn3 : (n : Int) < 1000000000 ∧ -1000000000 < (n : Int) := by omega
  have e2 : hv n (fun j => (((List.range n).filter fun k => A r k j).map L).sum) = hv n fun j => S n fun k => if A r k j then L k else 0 := hv_congr fun j _ => filter_S _ _ _
  refine ⟨some (.z, hv n fun j => S n fun k => if A r k j then L k else 0), y7, y8, hy, ?_⟩
  rw [e2]
  simp [fb_walks_between_b5, dRep_one _ n (by omega), vRng1, hn3, e1]
end
end K09

set_option Elab.async false
set_option linter.all false
set_option maxRecDepth 100000
namespace K09
open PySem PySem.Spec PyProof.Rows L2 VL
section
variable {C : Addr} {n : Nat} {r : Nat → Int}
theorem take_range {n k : Nat} (h : k ≤ n) : (List.range n).take k = List.range k := by
  rw [List.take_range, Nat.min_eq_left h]
/-- all wins of one side -/
theorem wb_all (hn : n ≤ 12) (hr : RowsOk n r) (l i : Nat) (x2 x3 x5 x6 x7 x8 : Slot) (hx : Zs x7) : ∃ y5 y6 y7 y8, Zs y7 ∧ forL (gN 5) (fb_walks_between_b5 C) ((List.range l).map fun k : Nat => D.int k) (stb C n r l x2 x3 (some (.z, hv n (Hb n (A r) 0 i))) x5 x6 x7 x8) =
    some (.nx (stb C n r l x2 x3 (some (.z, hv n (Hb n (A r) l i))) y5 y6 y7 y8)) := by
  have loop := forL_inv (g := gN 5) (b := fb_walks_between_b5 C) (I := fun j : Nat => D.int j) (List.range l) (fun k ρ => ∃ y5 y6 y7 y8, Zs y7 ∧ ρ = stb C n r l x2 x3 (some (.z, hv n (Hb n (A r) k i))) y5 y6 y7 y8) (ρ := stb C n r l x2 x3 (some (.z, hv n (Hb n (A r) 0 i))) x5 x6 x7 x8) (fun k j ρ hi ⟨y5, y6, y7, y8, hy, e⟩ => by
    subst e
    obtain ⟨z6, z7, z8, hz, e⟩ := wb_turn (C := C) hn hr (l := l) (Hb n (A r) k i) x2 x3 (some (.z, .int j)) y6 y7 y8 hy
    exact ⟨_, _, rfl, .inl e, _, _, _, _, hz, rfl⟩) ⟨x5, x6, x7, x8, hx, rfl⟩
  obtain ⟨ρ', e, y5, y6, y7, y8, hy, rfl⟩ := loop
  rw [List.length_range] at e
  exact ⟨y5, y6, y7, y8, hy, e⟩
theorem wb_first {l i : Nat} (hn : n ≤ 12) (x2 x4 x5 x6 x8 : Slot) (x7 : Slot) (hx : Zs x7) : fb_walks_between_c1 C (stb C n r l x2 (some (.z, .int i)) x4 x5 x6 x7 x8) = some (hv n (Hb n (A r) 0 i)) := by
  refine vLc_map (I := fun k : Nat => .int k) (xs := List.range n) ?_ ?_ ?_ fun j m => ⟨_, rfl, ?_⟩
  · rcases hx with rfl | ⟨d, rfl⟩ <;> rfl
  · simp [vRng1]; omega
  · simp; omega
  · simp [Hb]
    by_cases h : j = i
    · simp [h]
    · rw [if_neg h, if_neg (by omega)]
theorem tup_hv (L : Nat → Int) : dTuple (hv n L) = some (.tup ((List.range n).map fun j => .int (L j))) := rfl
def bt (n : Nat) (r : Nat → Int) (l i : Nat) : D := .tup ((List.range n).map fun j => .int (Hb n (A r) l i j))
theorem walks_between_ev (hn : n ≤ 12) (hr : RowsOk n r) {l : Nat} (hl : l ≤ 400) : m_walks_between C [tabD C n r, .int l] = some (.tup ((List.range n).map (bt n r l))) := by
  have hl2 : (l : Int) ≤ 400 := by omega
  have hl3 : (l : Int) < 1000000000 ∧ -1000000000 < (l : Int) := by omega
  have hn3 : (n : Int) < 1000000000 ∧ -1000000000 < (n : Int) := by omega
  have loop := forL_inv (g := gN 3) (b := fb_walks_between_b6 C) (I := fun j : Nat => D.int j) (List.range n) (fun k ρ => ∃ x3 x4 x5 x6 x7 x8, Zs x7 ∧ ρ = stb C n r l (some (.seq .z, .lst ((List.range k).map (bt n r l)))) x3 x4 x5 x6 x7 x8) (ρ := stb C n r l (some (.seq .z, .lst [])) none none none none none none) (fun k j ρ hk ⟨x3, x4, x5, x6, x7, x8, hx, e⟩ => by
    subst e
    obtain ⟨h1, h2⟩ := List.getElem?_eq_some_iff.mp hk
    simp at h1 h2
    subst h2
    obtain ⟨y5, y6, y7, y8, hy, e⟩ := wb_all (C := C) hn hr l k (some (.seq .z, .lst ((List.range k).map (bt n r l)))) (some (.z, .int k)) x5 x6 x7 x8 hx
    have e0 := wb_first (C := C) (r := r) (l := l) (i := k) hn (some (.seq .z, .lst ((List.range k).map (bt n r l)))) x4 x5 x6 x8 x7 hx
    refine ⟨_, _, rfl, .inl ?_, some (.z, .int k), some (.z, hv n (Hb n (A r) l k)), y5, y6, y7, y8, hy, rfl⟩
    have e1 : forL (gN 5) (fb_walks_between_b5 C) ((List.range l).map fun k : Nat => D.int k) [some (.z, tabD C n r), some (.z, .int l), some (.seq .z, .lst ((List.range k).map (bt n r l))), some (.z, .int k), some (.z, hv n (Hb n (A r) 0 k)), x5, x6, x7, x8] = _ := e
    have e2 : fb_walks_between_c1 C [some (.z, tabD C n r), some (.z, .int l), some (.seq .z, .lst ((List.range k).map (bt n r l))), some (.z, .int k), x4, x5, x6, x7, x8] = _ := e0
    have hk3 : k < 1000000 := by omega
    rw [List.range_succ]
    simp [fb_walks_between_b6, e2, vRng1, hl3, e1, hk3, tup_hv, bt]) ⟨none, none, none, none, none, none, .inl rfl, rfl⟩
  obtain ⟨ρ', e, x3, x4, x5, x6, x7, x8, _, rfl⟩ := loop
  rw [List.length_range] at e
  have e1 : forL (gN 3) (fb_walks_between_b6 C) ((List.range n).map fun k : Nat => D.int k) [some (.z, tabD C n r), some (.z, .int l), some (.seq .z, .lst []), none, none, none, none, none, none] = _ := e
  have e' : fb_walks_between C (argZ [tabD C n r, .int l] ++ List.replicate 7 none) = some (.rt (.tup ((List.range n).map (bt n r l))) (stb C n r l (some (.seq .z, .lst ((List.range n).map (bt n r l)))) x3 x4 x5 x6 x7 x8)) := by
    simp [fb_walks_between, look_ev, hl2, vRng1, hn3, e1]
  unfold m_walks_between
  rw [e']; rfl
/-! ### closed walks -/
theorem closed_ev (hn : n ≤ 12) (hr : RowsOk n r) {l : Nat} (hl : l ≤ 400) : m_closed_walks C [tabD C n r, .int l] = some (.int (S n fun i => Hb n (A r) l i i)) := by
  have e : fb_closed_walks_c1 C [some (.z, tabD C n r), some (.z, .int l), none, none] = some (.lst ((List.range n).map fun i => .int (Hb n (A r) l i i))) := by
    refine vLc_map (I := fun i : Nat => .tup [.int i, bt n r l i]) (xs := List.range n) rfl ?_ ?_ fun i m => ⟨_, rfl, ?_⟩
    · simp [walks_between_ev hn hr hl, dEnum_map]
    · simp; omega
    · have hi := List.mem_range.mp m
      simp [bt, hi]
  simp [m_closed_walks, fb_closed_walks, e, S]
/-! ### the law's own sums -/
theorem times_ev (hn : n ≤ 12) (M : Nat → Nat → Int) : m__law_times [.tup ((List.range n).map fun i => .int (r i)), .lst ((List.range n).map fun i => hv n (M i))] = some (.lst ((List.range n).map fun i => hv n fun j => (((List.range n).filter fun k => A r k j).map (M i)).sum)) := by
  have hn3 : (n : Int) < 1000000000 ∧ -1000000000 < (n : Int) := by omega
  have e1 : ∀ (i j : Nat), fb__law_times_c1 [some (.z, .tup ((List.range n).map fun i => .int (r i))), some (.z, .lst ((List.range n).map fun i => hv n (M i))), some (.z, .int n), some (.z, hv n (M i)), some (.z, .int j), none] = some (.lst (((List.range n).filter fun k => A r k j).map fun k => .int (M i k))) := by
    intro i j
    refine vLc_eq (I := fun k : Nat => .int k) (xs := List.range n) rfl ?_ ?_ fun k m => ⟨_, rfl, ?_, fun _ => ?_⟩
    · simp [vRng1, hn3]
    · simp; omega
    · have hk := List.mem_range.mp m
      simp [hk, A, bitI]
    · have hk := List.mem_range.mp m
      simp [hk, hv]
  have e2 : ∀ (i : Nat), fb__law_times_c2 [some (.z, .tup ((List.range n).map fun i => .int (r i))), some (.z, .lst ((List.range n).map fun i => hv n (M i))), some (.z, .int n), some (.z, hv n (M i)), none, none] = some (hv n fun j => (((List.range n).filter fun k => A r k j).map (M i)).sum) := by
    intro i
    refine vLc_map (I := fun k : Nat => .int k) (xs := List.range n) rfl ?_ ?_ fun j m => ⟨_, rfl, ?_⟩
    · simp [vRng1, hn3]
    · simp; omega
    · simp [e1 i j]
  have e3 : fb__law_times_c3 [some (.z, .tup ((List.range n).map fun i => .int (r i))), some (.z, .lst ((List.range n).map fun i => hv n (M i))), some (.z, .int n), none, none, none] = some (.lst ((List.range n).map fun i => hv n fun j => (((List.range n).filter fun k => A r k j).map (M i)).sum)) := by
    refine vLc_map (I := fun i : Nat => hv n (M i)) (xs := List.range n) rfl ?_ ?_ fun i m => ⟨_, rfl, ?_⟩
    · simp
    · simp; omega
    · simp [e2 i]
  simp [m__law_times, fb__law_times, e3]
end
end K09

set_option Elab.async false
set_option linter.all false
set_option maxRecDepth 100000
namespace K09
open PySem PySem.Spec PyProof.Rows L2 VL
section
variable {C : Addr} {n : Nat} {r : Nat → Int}
/-! ### from which length on they stay -/
theorem lots_okd (F : Nat → Int) : Okd 2 (lots n F) := Okd.tup fun d m => by
  obtain ⟨x, _, rfl⟩ := List.mem_map.mp m
  exact Okd.tup fun d m => by
    obtain ⟨i, _, rfl⟩ := List.mem_map.mp m
    exact Okd.int _
def eqL (n : Nat) (F G : Nat → Int) : Bool := (deq (lots n F) (lots n G)).getD false
theorem eqL_ev (F G : Nat → Int) : deq (lots n F) (lots n G) = some (eqL n F G) := by
  obtain ⟨b, e⟩ := Okd.eq (lots_okd (n := n) F) (lots_okd (n := n) G) (by decide)
  have e : deq (lots n F) (lots n G) = some b := e
  unfold eqL
  rw [e]; rfl
def eqE (n : Nat) (r : Nat → Int) (m : Nat) : Nat → Bool := fun a => eqL n (Wf n (A r) a) (Wf n (A r) m)
theorem steady_ev (hn : n ≤ 12) (hr : RowsOk n r) {m : Nat} (hm : m ≤ 400) : m_steady_from C [tabD C n r, .int m] = some (.int (downE (eqE n r m) m : Nat)) := by
  have hm2 : (m : Int) ≤ 400 := by omega
  have e1 : fb_steady_from_c1 C [some (.z, tabD C n r), some (.z, .int m), none, none, none] = some (.lst ((List.range (m + 1)).map fun l => lots n (Wf n (A r) l))) := by
    refine vLc_map (I := fun k : Nat => .int k) (xs := List.range (m + 1)) rfl ?_ ?_ fun l hl => ⟨_, rfl, ?_⟩
    · have : (m : Int) + 1 = ((m + 1 : Nat) : Int) := by omega
      have h3 : ((m + 1 : Nat) : Int) < 1000000000 ∧ -1000000000 < ((m + 1 : Nat) : Int) := by omega
      simp only [vRng1, q_aCons, q_v2, q_vVarZ, q_vC, q_aNil]
      simp only [List.getElem?_cons_succ, List.getElem?_cons_zero, Option.bind_some, q_II, Option.map_some]
      rw [this, if_pos h3, dRange0]
    · simp; omega
    · have h := List.mem_range.mp hl
      simp [by_walks_ev hn hr (l := l) (by omega)]
  have loop := whileL_down (t := fb_steady_from_t1) (b := fb_steady_from_b1) (eqE n r m) (fun a => [some (.z, tabD C n r), some (.z, .int m), some (.seq .z, .lst ((List.range (m + 1)).map fun l => lots n (Wf n (A r) l))), some (.z, .int a), none]) m
    (by simp [fb_steady_from_t1]) (fun a ha => by
      have e : ((a + 1 : Nat) : Int) - 1 = (a : Int) := by omega
      have e0 : 0 < a + 1 := by omega
      have e2 : (0 : Int) < ((a + 1 : Nat) : Int) := by omega
      simp only [fb_steady_from_t1, q_upT, q_tAnd, q_vB, q_v2, q_vVarZ, q_vVarS, q_vC, List.getElem?_cons_succ, List.getElem?_cons_zero, Option.bind_some, q_II, e, dIx_lst]
      have h1 : a < m + 1 := by omega
      simp [h1, e2, dEq, eqL_ev, eqE]) (fun a ha => by
      have e : ((a + 1 : Nat) : Int) - 1 = (a : Int) := by omega
      simp only [fb_steady_from_b1, q_sAug, q_up, q_vC, List.getElem?_cons_succ, List.getElem?_cons_zero, Option.bind_some, Option.map_some, q_II, e]
      rfl) m 1000 (Nat.le_refl _) (by omega)
  simp [m_steady_from, fb_steady_from, look_ev, hm2, e1, loop]
/-! ### draws -/
def WfD (d : D) : Prop := ∃ (ns : List Int) (a : Nat) (b c : Int), d = .lst [.lst (ns.map .int), .int a, .int b, .int c]
theorem fmod_nat (x : Int) {lim : Nat} (h0 : 0 < lim) : ∃ v : Nat, x.fmod lim = v ∧ v < lim := by
  rw [Int.fmod_eq_emod_of_nonneg _ (by omega)]
  have e1 := Int.emod_nonneg x (b := (lim : Int)) (by omega)
  have e2 := Int.emod_lt_of_pos x (b := (lim : Int)) (by omega)
  exact ⟨(x % lim).toNat, by omega, by omega⟩
theorem draw_ev {d : D} (h : WfD d) (lim : Nat) (h0 : 0 < lim) (h1 : lim < 1000) : ∃ (v : Nat) (d' : D), m__law_draw [d, .int lim] = some (.int v, d') ∧ v < lim ∧ WfD d' := by
  obtain ⟨ns, a, b, c, rfl⟩ := h
  have hl : lim ≠ 0 := by omega
  have hd : lim < 1073741824 := by omega
  by_cases hx : b = 0 ∧ a < ns.length
  · obtain ⟨hb, ha⟩ := hx
    subst hb
    have ea : ((a : Int) + 1) = ((a + 1 : Nat) : Int) := by omega
    have e18 : (10 : Int) ^ 18 = 1000000000000000000 := by decide
    by_cases hc : (1000000000000000000 : Int) ≤ ns[a]
    · have hp : 0 < ns[a] := by omega
      obtain ⟨v, e, hv⟩ := fmod_nat ns[a] h0
      refine ⟨v, .lst [.lst (ns.map .int), .int (a + 1 : Nat), .int (ns[a].fdiv lim), .int ((c * 48271 + ns[a] + 13).fmod 2147483647)], ?_, hv, ns, a + 1, _, _, rfl⟩
      simp [m__law_draw, fb__law_draw, ha, ixN, bMod, bDiv, bMul, bPow, hl, hd, e, hc, hp, e18]
    · obtain ⟨v, e, hv⟩ := fmod_nat (((((c * 48271 + ns[a] + 13).fmod 2147483647) * 69621 + 7).fmod 2147483629).fdiv 11) h0
      refine ⟨v, .lst [.lst (ns.map .int), .int (a + 1 : Nat), .int 0, .int ((((c * 48271 + ns[a] + 13).fmod 2147483647) * 69621 + 7).fmod 2147483629)], ?_, hv, ns, a + 1, _, _, rfl⟩
      simp [m__law_draw, fb__law_draw, ha, ixN, bMod, bDiv, bMul, bPow, hl, hd, e, hc, e18]
  · have hx2 : ∀ (P : Prop) [Decidable P], True := fun _ _ => trivial
    by_cases hp : 0 < b
    · have hb : b ≠ 0 := by omega
      obtain ⟨v, e, hv⟩ := fmod_nat b h0
      refine ⟨v, .lst [.lst (ns.map .int), .int a, .int (b.fdiv lim), .int c], ?_, hv, ns, a, _, _, rfl⟩
      simp [m__law_draw, fb__law_draw, ixN, bMod, bDiv, bMul, bPow, hl, hd, e, hp, hb]
    · obtain ⟨v, e, hv⟩ := fmod_nat (((c * 69621 + 7).fmod 2147483629).fdiv 11) h0
      refine ⟨v, .lst [.lst (ns.map .int), .int a, .int b, .int ((c * 69621 + 7).fmod 2147483629)], ?_, hv, ns, a, _, _, rfl⟩
      by_cases hb : b = 0
      · have ha : ¬ a < ns.length := fun z => hx ⟨hb, z⟩
        subst hb
        simp [m__law_draw, fb__law_draw, ha, ixN, bMod, bDiv, bMul, hl, e]
      · simp [m__law_draw, fb__law_draw, hb, hp, ixN, bMod, bDiv, bMul, hl, e]
theorem pick_ev {d : D} (h : WfD d) (ns : List Int) (h0 : 0 < ns.length) (h1 : ns.length < 1000) : ∃ (i : Int) (d' : D), m__law_pick [d, .lst (ns.map .int)] = some (.int i, d') ∧ i ∈ ns ∧ WfD d' := by
  obtain ⟨v, d', e, hv, hw⟩ := draw_ev h ns.length h0 h1
  refine ⟨ns[v], d', ?_, List.getElem_mem hv, hw⟩
  simp [m__law_pick, fb__law_pick, e, hv]
end
end K09

set_option Elab.async false
set_option linter.all false
set_option maxRecDepth 100000
namespace K09
open PySem PySem.Spec PyProof.Rows L2 VL
section
variable {C : Addr} {n : Nat} {r : Nat → Int}
/-- a table that may be made -/
structure TabOk (n : Nat) (r : Nat → Int) : Prop where
  pos : 0 < n
  le : n ≤ 12
  lo : ∀ i, i < n → 0 ≤ r i
  hi : ∀ i, i < n → r i < 2 ^ n
  anti : ∀ i j, i < n → j < i → A r i j ≠ A r j i
  self : ∀ i, i < n → A r i i = false
theorem init_c1 (h : TabOk n r) (x0 x2 x3 : Slot) : fb_Table_init_c1 [x0, some (.z, .tup ((List.range n).map fun i => .int (r i))), x2, x3, none] = some (.lst ((List.range n).map fun _ => .bl true)) := by
  have hle := h.le
  refine vLc_map (I := fun i : Nat => .int (r i)) (xs := List.range n) rfl ?_ ?_ fun i m => ⟨_, rfl, ?_⟩
  · simp
  · simp; omega
  · have hi := List.mem_range.mp m
    have h1 := h.lo i hi
    have h2 := h.hi i hi
    have h3 : (n : Int) ≤ 1000000 := by omega
    simp [is_integer_ev, h1, h2, bPow, h3]
theorem init_b1 (h : TabOk n r) (x0 x4 : Slot) {i j : Nat} (hi : i < n) (hj : j ≤ i) : fb_Table_init_b1 [x0, some (.z, .tup ((List.range n).map fun i => .int (r i))), some (.z, .int i), some (.z, .int j), x4] = some (.nx [x0, some (.z, .tup ((List.range n).map fun i => .int (r i))), some (.z, .int i), some (.z, .int j), x4]) := by
  have hjn : j < n := by omega
  by_cases e : j = i
  · subst e
    have h2 : bitI (r j) j = false := h.self j hi
    simp [fb_Table_init_b1, hi, bit_ev, h2, dNe]
  · have h2 : bitI (r i) j ≠ bitI (r j) i := h.anti i j hi (by omega)
    have h3 : (bitI (r i) j == bitI (r j) i) = false := by simpa using h2
    simp [fb_Table_init_b1, hi, hjn, bit_ev, h3]
theorem init_b2 (h : TabOk n r) (x0 x3 x4 : Slot) {i : Nat} (hi : i < n) : ∃ y3, fb_Table_init_b2 [x0, some (.z, .tup ((List.range n).map fun i => .int (r i))), some (.z, .int i), x3, x4] = some (.nx [x0, some (.z, .tup ((List.range n).map fun i => .int (r i))), some (.z, .int i), y3, x4]) := by
  have loop := forL_inv (g := gN 3) (b := fb_Table_init_b1) (I := fun j : Nat => D.int j) (List.range (i + 1)) (fun k ρ => ∃ y3, ρ = [x0, some (.z, .tup ((List.range n).map fun i => .int (r i))), some (.z, .int i), y3, x4]) (ρ := [x0, some (.z, .tup ((List.range n).map fun i => .int (r i))), some (.z, .int i), x3, x4]) (fun k j ρ hk ⟨y3, e⟩ => by
    subst e
    obtain ⟨h1, h2⟩ := List.getElem?_eq_some_iff.mp hk
    simp at h1 h2
    subst h2
    exact ⟨_, _, rfl, .inl (init_b1 h x0 x4 hi (by omega)), _, rfl⟩) ⟨x3, rfl⟩
  obtain ⟨ρ', e, y3, rfl⟩ := loop
  refine ⟨y3, ?_⟩
  have hle := h.le
  have e1 : (i : Int) + 1 = ((i + 1 : Nat) : Int) := by omega
  have e2 : ((i + 1 : Nat) : Int) < 1000000000 ∧ -1000000000 < ((i + 1 : Nat) : Int) := by omega
  simp only [fb_Table_init_b2, q_sFor, q_upI, vRng1, q_aCons, q_v2, q_vVarZ, q_vC, q_aNil, List.getElem?_cons_succ, List.getElem?_cons_zero, Option.bind_some, q_II, Option.map_some, e1, e2, and_self, if_true, dRange0]
  exact e
theorem sFld_ev {i : Nat} {f : Str} {fe : Sto → Option (D × Sto)} {ρ ρ' : Sto} {d : D} {ns : List Str} {ds : List D} (h : fe ρ = some (d, ρ')) (h2 : ρ'[i]? = some (some (.obj fun _ => .z, .obj C ns ds))) (hf : f ∉ ns) (hn : ns.length < 50) :
    sFld i C f fe ρ = some (.nx (ρ'.set i (some (.obj fun _ => .z, .obj C (ns ++ [f]) (ds ++ [d]))))) := by
  unfold VL.sFld
  rw [h, Option.bind_some]
  simp only [h2, hf, not_false_eq_true, hn, Sh.zb, and_self, if_true]
theorem table_ev (h : TabOk n r) : m_Table_init C [.obj C [] [], .tup ((List.range n).map fun i => .int (r i))] = some (.non, tabD C n r) := by
  have hle := h.le
  have hpos := h.pos
  have hle2 : (n : Int) ≤ 12 := by omega
  have hpos2 : (0 : Int) < (n : Int) := by omega
  have hn3 : (n : Int) < 1000000000 ∧ -1000000000 < (n : Int) := by omega
  have h3 : (n : Int) ≤ 1000000 := by omega
  have loop := forL_inv (g := gN 2) (b := fb_Table_init_b2) (I := fun j : Nat => D.int j) (List.range n) (fun k ρ => ∃ y2 y3, ρ = [some (.obj fun _ => .z, .obj C [] []), some (.z, .tup ((List.range n).map fun i => .int (r i))), y2, y3, none]) (ρ := [some (.obj fun _ => .z, .obj C [] []), some (.z, .tup ((List.range n).map fun i => .int (r i))), none, none, none]) (fun k j ρ hk ⟨y2, y3, e⟩ => by
    subst e
    obtain ⟨h1, h2⟩ := List.getElem?_eq_some_iff.mp hk
    simp at h1 h2
    subst h2
    obtain ⟨z3, e⟩ := init_b2 h (some (.obj fun _ => .z, .obj C [] [])) y3 none h1
    exact ⟨_, _, rfl, .inl e, _, _, rfl⟩) ⟨none, none, rfl⟩
  obtain ⟨ρ', e, y2, y3, rfl⟩ := loop
  have e1 := init_c1 h (some (.obj fun _ => .z, .obj C [] [])) none none
  have f1 : ∀ (x : D) (y2 y3 y4 : Slot), sFld 0 C "rows" (up (vVarZ 1)) [some (.obj fun _ => .z, .obj C [] []), some (.z, x), y2, y3, y4] = some (.nx [some (.obj fun _ => .z, .obj C ["rows"] [x]), some (.z, x), y2, y3, y4]) := fun x y2 y3 y4 => by
    rw [sFld_ev (C := C) (i := 0) (f := "rows") (fe := up (vVarZ 1)) (ns := []) (ds := []) (d := x) rfl rfl (by decide +kernel) (by decide)]; rfl
  have f2 : ∀ (x : List D) (z : D) (y2 y3 y4 : Slot), sFld 0 C "size" (up (v1 dLen (vVarZ 1))) [some (.obj fun _ => .z, .obj C ["rows"] [z]), some (.z, .tup x), y2, y3, y4] = some (.nx [some (.obj fun _ => .z, .obj C ["rows", "size"] [z, .int x.length]), some (.z, .tup x), y2, y3, y4]) := fun x z y2 y3 y4 => by
    rw [sFld_ev (C := C) (i := 0) (f := "size") (fe := up (v1 dLen (vVarZ 1))) (ns := ["rows"]) (ds := [z]) (d := .int x.length) rfl rfl (by decide +kernel) (by decide)]; rfl
  have f3 : ∀ (x : List D) (z w : D) (y2 y3 y4 : Slot), x.length = n → sFld 0 C "everyone" (up (v2 dSub (v2 dShl (vC (.int 1)) (v1 dLen (vVarZ 1))) (vC (.int 1)))) [some (.obj fun _ => .z, .obj C ["rows", "size"] [z, w]), some (.z, .tup x), y2, y3, y4] = some (.nx [some (.obj fun _ => .z, .obj C ["rows", "size", "everyone"] [z, w, .int (2 ^ n - 1)]), some (.z, .tup x), y2, y3, y4]) := fun x z w y2 y3 y4 hx => by
    rw [sFld_ev (C := C) (i := 0) (f := "everyone") (ns := ["rows", "size"]) (ds := [z, w]) (d := .int (2 ^ n - 1)) (ρ' := [some (.obj fun _ => .z, .obj C ["rows", "size"] [z, w]), some (.z, .tup x), y2, y3, y4]) (by simp [hx, bPow, h3]) rfl (by decide +kernel) (by decide)]; rfl
  have hrep : (List.replicate 3 (none : Slot)) = [none, none, none] := rfl
  simp [m_Table_init, fb_Table_init, isT, tyName, isTab, hpos, hle2, e1, e, vRng1, hn3, f1, f2, f3, tabD]
end
end K09

set_option Elab.async false
set_option linter.all false
set_option maxRecDepth 100000
namespace K09
open PySem PySem.Spec PyProof.Rows L2 VL
section
variable {C : Addr} {n : Nat} {r : Nat → Int}
theorem bitI_nat (r j : Nat) : bitI (r : Int) j = r.testBit j := by
  unfold bitI
  rw [bitAnd_m1, Nat.testBit_eq_decide_div_mod_eq]
  have e : ((r : Int) / 2 ^ j % 2) = ((r / 2 ^ j % 2 : Nat) : Int) := by push_cast; rfl
  rw [e]
  by_cases h : r / 2 ^ j % 2 = 1
  · simp [h]
  · simp [h]; omega
theorem tb_add {r l : Nat} (h : r.testBit l = false) (j : Nat) : (r + 2 ^ l).testBit j = (r.testBit j || decide (j = l)) := by
  have hp : 0 < 2 ^ (l + 1) := Nat.two_pow_pos _
  have e : r = 2 ^ (l + 1) * (r / 2 ^ (l + 1)) + r % 2 ^ (l + 1) := (Nat.div_add_mod _ _).symm
  generalize r / 2 ^ (l + 1) = a at e
  have hb : r % 2 ^ (l + 1) < 2 ^ (l + 1) := Nat.mod_lt _ hp
  generalize r % 2 ^ (l + 1) = b at e hb
  subst e
  have p2 : 2 ^ (l + 1) = 2 ^ l + 2 ^ l := by rw [Nat.pow_succ]; omega
  rw [Nat.testBit_two_pow_mul_add _ hb, if_pos (by omega)] at h
  have hl : b < 2 ^ l := by
    by_cases hc : b < 2 ^ l
    · exact hc
    · have e2 : b = 2 ^ l + (b - 2 ^ l) := by omega
      rw [e2, Nat.testBit_two_pow_add_eq, Nat.testBit_lt_two_pow (by omega)] at h
      cases h
  have e3 : 2 ^ (l + 1) * a + b + 2 ^ l = 2 ^ (l + 1) * a + (2 ^ l + b) := by omega
  rw [e3, Nat.testBit_two_pow_mul_add _ (show 2 ^ l + b < 2 ^ (l + 1) by omega), Nat.testBit_two_pow_mul_add _ hb]
  by_cases h1 : j < l + 1
  · rw [if_pos h1, if_pos h1]
    by_cases h2 : j = l
    · subst h2
      rw [Nat.testBit_two_pow_add_eq, h]; simp
    · rw [Nat.testBit_two_pow_add_gt (by omega)]; simp [h2]
  · rw [if_neg h1, if_neg h1]
    have : j ≠ l := by omega
    simp [this]
structure Half (n : Nat) (P : Nat → Nat → Prop) (R : Nat → Nat) : Prop where
  done : ∀ i j, i < j → j < n → P i j → (R i).testBit j ≠ (R j).testBit i
  todo : ∀ i j, i < j → j < n → ¬ P i j → (R i).testBit j = false ∧ (R j).testBit i = false
  self : ∀ i, i < n → (R i).testBit i = false
  out : ∀ i j, i < n → n ≤ j → (R i).testBit j = false
def putR (R : Nat → Nat) (w l : Nat) : Nat → Nat := fun i => if i = w then R w + 2 ^ l else R i
theorem Half.step {P P' : Nat → Nat → Prop} {R : Nat → Nat} (h : Half n P R) {p q w l : Nat} (hpq : p < q) (hq : q < n) (hn : ¬ P p q) (hw : (w = p ∧ l = q) ∨ (w = q ∧ l = p)) (hP : ∀ i j, P' i j ↔ P i j ∨ (i = p ∧ j = q)) : Half n P' (putR R w l) := by
  obtain ⟨t1, t2⟩ := h.todo p q hpq hq hn
  have hb : (R w).testBit l = false := by rcases hw with ⟨rfl, rfl⟩ | ⟨rfl, rfl⟩ <;> assumption
  have key : ∀ i j, (putR R w l i).testBit j = ((R i).testBit j || decide (i = w ∧ j = l)) := fun i j => by
    unfold putR
    by_cases e : i = w
    · subst e; rw [if_pos rfl, tb_add hb]; simp
    · rw [if_neg e]; simp [e]
  have hwl : w ≠ l := by omega
  have hwn : w < n := by omega
  have hln : l < n := by omega
  refine ⟨fun i j hij hj hp => ?_, fun i j hij hj hp => ?_, fun i hi => ?_, fun i j hi hj => ?_⟩
  · rw [key, key]
    rcases (hP i j).mp hp with hp | ⟨rfl, rfl⟩
    · have h1 := h.done i j hij hj hp
      have n1 : ¬ (i = w ∧ j = l) := by
        rintro ⟨rfl, rfl⟩
        rcases hw with ⟨rfl, rfl⟩ | ⟨rfl, rfl⟩
        · exact hn hp
        · omega
      have n2 : ¬ (j = w ∧ i = l) := by
        rintro ⟨rfl, rfl⟩
        rcases hw with ⟨rfl, rfl⟩ | ⟨rfl, rfl⟩
        · omega
        · exact hn hp
      simp [n1, n2]; simpa using h1
    · rw [t1, t2]
      rcases hw with ⟨rfl, rfl⟩ | ⟨rfl, rfl⟩
      · have : ¬ (l = w ∧ w = l) := by omega
        simp [this]
      · have : ¬ (l = w ∧ w = l) := by omega
        simp [this]
  · rw [key, key]
    have hp2 : ¬ P i j := fun z => hp ((hP i j).mpr (.inl z))
    have hne : ¬ (i = p ∧ j = q) := fun z => hp ((hP i j).mpr (.inr z))
    obtain ⟨h1, h2⟩ := h.todo i j hij hj hp2
    have n1 : ¬ (i = w ∧ j = l) := by
      rintro ⟨rfl, rfl⟩
      rcases hw with ⟨rfl, rfl⟩ | ⟨rfl, rfl⟩
      · exact hne ⟨rfl, rfl⟩
      · omega
    have n2 : ¬ (j = w ∧ i = l) := by
      rintro ⟨rfl, rfl⟩
      rcases hw with ⟨rfl, rfl⟩ | ⟨rfl, rfl⟩
      · omega
      · exact hne ⟨rfl, rfl⟩
    simp [h1, h2, n1, n2]
  · rw [key, h.self i hi]
    have : ¬ (i = w ∧ i = l) := by omega
    simp [this]
  · rw [key, h.out i j hi hj]
    have : ¬ (i = w ∧ j = l) := by omega
    simp [this]
theorem Half.congr {P P' : Nat → Nat → Prop} {R : Nat → Nat} (h : Half n P R) (e : ∀ i j, i < j → j < n → (P' i j ↔ P i j)) : Half n P' R :=
  ⟨fun i j a b c => h.done i j a b ((e i j a b).mp c), fun i j a b c => h.todo i j a b fun z => c ((e i j a b).mpr z), h.self, h.out⟩
theorem Half.zero : Half n (fun _ _ => False) (fun _ => 0) := ⟨fun _ _ _ _ h => h.elim, fun _ _ _ _ _ => by simp, fun _ _ => by simp, fun _ _ _ _ => by simp⟩
theorem Half.tab {R : Nat → Nat} (h : Half n (fun _ _ => True) R) (h0 : 0 < n) (h1 : n ≤ 12) : TabOk n fun i => (R i : Int) := by
  refine ⟨h0, h1, fun i _ => by omega, fun i hi => ?_, fun i j hi hj => ?_, fun i hi => ?_⟩
  · have := Nat.lt_pow_two_of_testBit (R i) (n := n) fun j hj => h.out i j hi hj
    have e : ((2 ^ n : Nat) : Int) = (2 : Int) ^ n := by push_cast; rfl
    rw [← e]; omega
  · show bitI _ _ ≠ bitI _ _
    rw [bitI_nat, bitI_nat]
    exact (h.done j i hj hi trivial).symm
  · show bitI _ _ = false
    rw [bitI_nat]; exact h.self i hi
theorem TabOk.rows (h : TabOk n r) (hr : ∀ i, i < n → ∃ k : Nat, r i = k) : RowsOk n r := fun i hi j hj _ => by
  obtain ⟨k, e⟩ := hr i hi
  have h2 := h.hi i hi
  rw [e, bitI_nat]
  rw [e] at h2
  refine Nat.testBit_lt_two_pow ?_
  have h3 : k < 2 ^ n := by
    have e : ((2 ^ n : Nat) : Int) = (2 : Int) ^ n := by push_cast; rfl
    rw [← e] at h2; omega
  exact Nat.lt_of_lt_of_le h3 (Nat.pow_le_pow_right (by decide) hj)
end
end K09

set_option Elab.async false
set_option linter.all false
set_option maxRecDepth 100000
namespace K09
open PySem PySem.Spec PyProof.Rows L2 VL
section
variable {C : Addr} {n : Nat}
abbrev rowsD (n : Nat) (R : Nat → Nat) : D := .lst ((List.range n).map fun i => .int (R i : Int))
abbrev str (n : Nat) (R : Nat → Nat) (d : D) (one kind often other x7 x8 x9 : Slot) : Sto := [some (.seq .z, d), some (.z, .int n), some (.seq .z, rowsD n R), one, kind, often, other, x7, x8, x9]
theorem rows_b1 {d : D} (hd : WfD d) (hn : n ≤ 12) {R : Nat → Nat} {p q : Nat} (hpq : p < q) (hq : q < n) (kind : Int) {often : Nat} (ho : 0 < often) (ho2 : often < 1000) (x7 x8 x9 : Slot) :
    ∃ d' w l y7 y8 y9, WfD d' ∧ ((w = p ∧ l = q) ∨ (w = q ∧ l = p)) ∧
      fb__law_rows_b1 (str n R d (some (.z, .int p)) (some (.z, .int kind)) (some (.z, .int often)) (some (.z, .int q)) x7 x8 x9) =
      some (.nx (str n (putR R w l) d' (some (.z, .int p)) (some (.z, .int kind)) (some (.z, .int often)) (some (.z, .int q)) y7 y8 y9)) := by
  have hp : p < n := by omega
  obtain ⟨v, d', e, hv, hd'⟩ := draw_ev hd (if kind = 1 then 2 else often) (by split <;> omega) (by split <;> omega)
  have e : m__law_draw [d, .int (if kind = 1 then 2 else (often : Int))] = some (.int v, d') := by
    rw [← e]; congr 3; split <;> rfl
  have hput : ∀ w l, w < n → l < n → (List.range n).map (fun i => if i = w then D.int ((R w : Int) + 1 * 2 ^ l) else D.int (R i : Int)) = (List.range n).map fun i => D.int (putR R w l i : Int) := fun w l _ _ => by
    refine List.map_congr_left fun i _ => ?_
    unfold putR
    split
    · push_cast; simp
    · rfl
  have hp2 : (p : Int) ≤ 1000000 := by omega
  have hq2 : (q : Int) ≤ 1000000 := by omega
  obtain ⟨b0, hb0⟩ : ∃ b0 : Bool, (if kind = 0 then decide ((q : Int) - p ≤ (n : Int).fdiv 2) else true) = b0 := ⟨_, rfl⟩
  have hfd : bDiv (n : Int) 2 = true := by simp [bDiv]
  have e1 : (vIf (vB (v2 dEq (vVarZ 4) (vC (.int 0)))) (v2 dLe (v2 dSub (vVarZ 6) (vVarZ 3)) (v2 dFdiv (vVarZ 1) (vC (.int 2)))) (vC (.bl true))) (str n R d (some (.z, .int p)) (some (.z, .int kind)) (some (.z, .int often)) (some (.z, .int q)) x7 x8 x9) = some (.bl b0) := by
    rw [← hb0]
    by_cases hk : kind = 0
    · simp [hk, hfd]
    · simp [hk]
  have ev : (if (kind == 1) = true then some (D.int 2) else some (D.int (often : Int))) = some (D.int (if kind = 1 then 2 else (often : Int))) := by
    by_cases hk : kind = 1 <;> simp [hk]
  obtain ⟨b1, hb1⟩ : ∃ b1 : Bool, (if v = 0 then !b0 else b0) = b1 := ⟨_, rfl⟩
  have e2 : (eIf (eB (e2 dEq (eCallIO 2 0 0 (.seq .z) m__law_draw (aCons (vVar 0) (aCons (vIf (vB (v2 dEq (vVarZ 4) (vC (.int 1)))) (vC (.int 2)) (vVarZ 5)) aNil))) (up (vC (.int 0))))) (up (vNotF (vVarZ 7))) (up (vVarZ 7)))
      (str n R d (some (.z, .int p)) (some (.z, .int kind)) (some (.z, .int often)) (some (.z, .int q)) (some (.z, .bl b0)) x8 x9) = some (.bl b1, str n R d' (some (.z, .int p)) (some (.z, .int kind)) (some (.z, .int often)) (some (.z, .int q)) (some (.z, .bl b0)) x8 x9) := by
    rw [← hb1]
    by_cases hk : kind = 1
    · rw [if_pos hk] at e
      by_cases hv0 : v = 0
      · subst hv0; simp [hk, e]
      · simp [hk, e, hv0]
    · rw [if_neg hk] at e
      by_cases hv0 : v = 0
      · subst hv0; simp [hk, e]
      · simp [hk, e, hv0]
  have s1 : (sSet 7 .z (up (vIf (vB (v2 dEq (vVarZ 4) (vC (.int 0)))) (v2 dLe (v2 dSub (vVarZ 6) (vVarZ 3)) (v2 dFdiv (vVarZ 1) (vC (.int 2)))) (vC (.bl true))))) (str n R d (some (.z, .int p)) (some (.z, .int kind)) (some (.z, .int often)) (some (.z, .int q)) x7 x8 x9) =
      some (.nx (str n R d (some (.z, .int p)) (some (.z, .int kind)) (some (.z, .int often)) (some (.z, .int q)) (some (.z, .bl b0)) x8 x9)) := by
    rw [q_sSet, q_up, e1]; rfl
  have s2 : (sSet 7 .z (eIf (eB (VL.e2 dEq (eCallIO 2 0 0 (.seq .z) m__law_draw (aCons (vVar 0) (aCons (vIf (vB (v2 dEq (vVarZ 4) (vC (.int 1)))) (vC (.int 2)) (vVarZ 5)) aNil))) (up (vC (.int 0))))) (up (vNotF (vVarZ 7))) (up (vVarZ 7))))
      (str n R d (some (.z, .int p)) (some (.z, .int kind)) (some (.z, .int often)) (some (.z, .int q)) (some (.z, .bl b0)) x8 x9) = some (.nx (str n R d' (some (.z, .int p)) (some (.z, .int kind)) (some (.z, .int often)) (some (.z, .int q)) (some (.z, .bl b1)) x8 x9)) := by
    rw [q_sSet, e2]; rfl
  have fin : ∀ (w l : Nat) (x7 : Slot), w < n → l < n → (sAsg (up (v2 dAddI (v2 dIx (vVarS 2) (vVarZ 8)) (v2 dShl (vC (.int 1)) (vVarZ 9)))) (gSet 2 .z (lVar 2) (vVarZ 8))) (str n R d' (some (.z, .int p)) (some (.z, .int kind)) (some (.z, .int often)) (some (.z, .int q)) x7 (some (.z, .int w)) (some (.z, .int l))) =
      some (.nx (str n (putR R w l) d' (some (.z, .int p)) (some (.z, .int kind)) (some (.z, .int often)) (some (.z, .int q)) x7 (some (.z, .int w)) (some (.z, .int l)))) := fun w l x7 hw hl => by
    have hl2 : (l : Int) ≤ 1000000 := by omega
    have hbp : bPow 1 (l : Int) = true := by simp [bPow, hl2]
    have hp1 := hput w l hw hl
    simp only [Int.one_mul] at hp1
    simp [hw, hbp, ixN_nat, vec_set, hp1]
  cases b1 with
  | true =>
    refine ⟨d', p, q, some (.z, .bl true), some (.z, .int p), some (.z, .int q), hd', .inl ⟨rfl, rfl⟩, ?_⟩
    unfold fb__law_rows_b1
    rw [sSeq_nx s1, sSeq_nx s2]
    refine (sSeq_nx ?_).trans (fin p q (some (.z, .bl true)) hp hq)
    simp
  | false =>
    refine ⟨d', q, p, some (.z, .bl false), some (.z, .int q), some (.z, .int p), hd', .inr ⟨rfl, rfl⟩, ?_⟩
    unfold fb__law_rows_b1
    rw [sSeq_nx s1, sSeq_nx s2]
    refine (sSeq_nx ?_).trans (fin q p (some (.z, .bl false)) hq hp)
    simp
theorem rows_b2 {d : D} (hd : WfD d) (hn : n ≤ 12) {R : Nat → Nat} {p : Nat} (hp : p < n) (hR : Half n (fun i _ => i < p) R) (kind : Int) {often : Nat} (ho : 0 < often) (ho2 : often < 1000) (x6 x7 x8 x9 : Slot) :
    ∃ d' R' y6 y7 y8 y9, WfD d' ∧ Half n (fun i _ => i < p + 1) R' ∧ fb__law_rows_b2 (str n R d (some (.z, .int p)) (some (.z, .int kind)) (some (.z, .int often)) x6 x7 x8 x9) =
      some (.nx (str n R' d' (some (.z, .int p)) (some (.z, .int kind)) (some (.z, .int often)) y6 y7 y8 y9)) := by
  have loop := forL_inv (g := gN 6) (b := fb__law_rows_b1) (I := fun j : Nat => D.int j) (List.range' (p + 1) (n - (p + 1))) (fun k ρ => ∃ d' R' y6 y7 y8 y9, WfD d' ∧ Half n (fun i j => i < p ∨ (i = p ∧ j < p + 1 + k)) R' ∧ ρ = str n R' d' (some (.z, .int p)) (some (.z, .int kind)) (some (.z, .int often)) y6 y7 y8 y9)
    (ρ := str n R d (some (.z, .int p)) (some (.z, .int kind)) (some (.z, .int often)) x6 x7 x8 x9) (fun k j ρ hk ⟨d1, R1, y6, y7, y8, y9, h1, h2, e⟩ => by
    subst e
    obtain ⟨k1, k2⟩ := List.getElem?_eq_some_iff.mp hk
    simp at k1 k2
    have hj : j = p + 1 + k := by omega
    subst hj
    have hq : p + 1 + k < n := by omega
    obtain ⟨d2, w, l, z7, z8, z9, g1, g2, g3⟩ := rows_b1 h1 hn (R := R1) (p := p) (q := p + 1 + k) (by omega) hq kind ho ho2 y7 y8 y9
    refine ⟨_, _, rfl, .inl g3, d2, putR R1 w l, some (.z, .int (p + 1 + k : Nat)), z7, z8, z9, g1, ?_, rfl⟩
    refine h2.step (p := p) (q := p + 1 + k) (w := w) (l := l) (by omega) hq (by omega) g2 fun i j => ?_
    constructor
    · intro h
      by_cases e : i = p ∧ j = p + 1 + k
      · exact .inr e
      · exact .inl (by omega)
    · intro h; omega) ⟨d, R, x6, x7, x8, x9, hd, hR.congr (fun i j a b => by omega), rfl⟩
  obtain ⟨ρ', e, d', R', y6, y7, y8, y9, h1, h2, rfl⟩ := loop
  refine ⟨d', R', y6, y7, y8, y9, h1, h2.congr fun i j a b => ?_, ?_⟩
  · simp; omega
  · have e1 : (p : Int) + 1 = ((p + 1 : Nat) : Int) := by omega
    have e2 : ((n : Int) < 1000000000 ∧ -1000000000 < (n : Int)) ∧ ((p + 1 : Nat) : Int) < 1000000000 ∧ -1000000000 < ((p + 1 : Nat) : Int) := by omega
    simp only [fb__law_rows_b2, q_sFor, q_upI, vRng2, q_aCons, q_v2, q_vVarZ, q_vC, q_aNil, List.getElem?_cons_succ, List.getElem?_cons_zero, Option.bind_some, q_II, Option.map_some, e1, e2, and_self, if_true, dRange_nat]
    exact e
theorem rows_ev {d : D} (hd : WfD d) (h0 : 0 < n) (hn : n ≤ 12) : ∃ (d' : D) (R : Nat → Nat), WfD d' ∧ TabOk n (fun i => (R i : Int)) ∧ m__law_rows [d, .int n] = some (.tup ((List.range n).map fun i => .int (R i : Int)), d') := by
  obtain ⟨kind, d1, g1, _, w1⟩ := draw_ev hd 4 (by decide) (by decide)
  obtain ⟨often, d2, g2, m2, w2⟩ := pick_ev w1 [2, 4, 9] (by decide) (by decide)
  obtain ⟨o, ho, ho1, ho2⟩ : ∃ o : Nat, often = (o : Int) ∧ 0 < o ∧ o < 1000 := by
    simp at m2
    rcases m2 with rfl | rfl | rfl
    · exact ⟨2, rfl, by decide, by decide⟩
    · exact ⟨4, rfl, by decide, by decide⟩
    · exact ⟨9, rfl, by decide, by decide⟩
  subst ho
  have loop := forL_inv (g := gN 3) (b := fb__law_rows_b2) (I := fun j : Nat => D.int j) (List.range n) (fun k ρ => ∃ d' R' y3 y6 y7 y8 y9, WfD d' ∧ Half n (fun i _ => i < k) R' ∧ ρ = str n R' d' y3 (some (.z, .int kind)) (some (.z, .int o)) y6 y7 y8 y9)
    (ρ := str n (fun _ => 0) d2 none (some (.z, .int kind)) (some (.z, .int o)) none none none none) (fun k j ρ hk ⟨d1, R1, y3, y6, y7, y8, y9, h1, h2, e⟩ => by
    subst e
    obtain ⟨k1, k2⟩ := List.getElem?_eq_some_iff.mp hk
    simp at k1 k2
    subst k2
    obtain ⟨d3, R3, z6, z7, z8, z9, p1, p2, p3⟩ := rows_b2 h1 hn k1 h2 kind ho1 ho2 y6 y7 y8 y9
    exact ⟨_, _, rfl, .inl p3, d3, R3, _, z6, z7, z8, z9, p1, p2, rfl⟩) ⟨d2, fun _ => 0, none, none, none, none, none, w2, Half.zero.congr (fun i j a b => ⟨fun z => absurd z (Nat.not_lt_zero _), fun z => z.elim⟩), rfl⟩
  obtain ⟨ρ', e, d', R', y3, y6, y7, y8, y9, h1, h2, rfl⟩ := loop
  rw [List.length_range] at h2
  refine ⟨d', R', h1, (h2.congr fun i j a b => ⟨fun _ => by omega, fun _ => trivial⟩).tab h0 hn, ?_⟩
  have e1 : forL (gN 3) fb__law_rows_b2 ((List.range n).map fun j : Nat => D.int j) [some (.seq .z, d2), some (.z, .int n), some (.seq .z, .lst ((List.range n).map fun _ => .int 0)), none, some (.z, .int kind), some (.z, .int o), none, none, none, none] = _ := e
  have hn3 : (n : Int) < 1000000000 ∧ -1000000000 < (n : Int) := by omega
  have g1' : m__law_draw [d, .int 4] = some (.int kind, d1) := g1
  have g2' : m__law_pick [d1, .lst [.int 2, .int 4, .int 9]] = some (.int o, d2) := g2
  simp [m__law_rows, fb__law_rows, g1', g2', dRep_one _ n (by omega), vRng1, hn3, e1]
end
end K09

set_option Elab.async false
set_option linter.all false
set_option maxRecDepth 100000
namespace K09
open PySem PySem.Spec PyProof.Rows L2 VL
section
variable {C : Addr} {n : Nat}
def Sm (k : Nat) (x : D) : Prop := mn__law_same k [x, x] = some (.bl true)
theorem Sm.int {k : Nat} (i : Int) : Sm (k + 1) (.int i) := by
  simp [Sm, mn__law_same, ms__law_same, fb__law_same, isT, tyName, isTab, dIsN, isN]
theorem Sm.tup {k : Nat} {ds : List D} (hl : ds.length ≤ 1000000) (h : ∀ d ∈ ds, Sm k d) : Sm (k + 1) (.tup ds) := by
  have hl3 : (ds.length : Int) < 1000000000 ∧ -1000000000 < (ds.length : Int) := by omega
  have loop := forL_inv (g := gN 2) (b := fb__law_same_b1 (mn__law_same k)) (I := fun j : Nat => D.int j) (List.range ds.length) (fun _ ρ => ∃ y, ρ = [some (.z, .tup ds), some (.z, .tup ds), y]) (ρ := [some (.z, .tup ds), some (.z, .tup ds), none]) (fun i j ρ hk ⟨y, e⟩ => by
    subst e
    obtain ⟨k1, k2⟩ := List.getElem?_eq_some_iff.mp hk
    simp at k1 k2
    subst k2
    have hs : mn__law_same k [ds[i], ds[i]] = some (.bl true) := h _ (List.getElem_mem k1)
    refine ⟨_, _, rfl, .inl ?_, ⟨some (.z, .int i), rfl⟩⟩
    simp [fb__law_same_b1, k1, hs]) ⟨none, rfl⟩
  obtain ⟨ρ', e, y, rfl⟩ := loop
  simp [Sm, mn__law_same, ms__law_same, fb__law_same, isT, tyName, isTab, dNe, vRng1, hl3, e]
end
end K09

set_option Elab.async false
set_option linter.all false
set_option maxRecDepth 100000
namespace K09
open PySem PySem.Spec PyProof.Rows L2 VL
section
variable {C : Addr} {n : Nat} {r : Nat → Int}
abbrev rowsT (n : Nat) (r : Nat → Int) : D := .tup ((List.range n).map fun i => .int (r i))
abbrev stl (C : Addr) (n : Nat) (r : Nat → Int) (m : Nat) (s d : D) (x4 x5 x6 x7 x10 x11 : Slot) : Sto :=
  [some (.z, s), some (.seq .z, d), some (.z, .int n), some (.z, rowsT n r), x4, x5, x6, x7, some (.z, tabD C n r), some (.z, .int m), x10, x11, none, none, none, none, none]
abbrev hm (n : Nat) (r : Nat → Int) (k : Nat) : D := .lst ((List.range n).map fun i => hv n (Hb n (A r) k i))
abbrev ctD (n : Nat) (F : Nat → Int) : D := .lst ((List.range n).map fun i => .int (F i))
theorem dSum_hv (L : Nat → Int) : dSum (hv n L) = some (.int ((List.range n).map L).sum) := dSum_int _ _
theorem law_c3 (hn : n ≤ 12) (m k : Nat) (s d : D) (x5 x6 x7 x10 x11 : Slot) : fb_law_c3 (stl C n r m s d (some (.z, hm n r k)) x5 x6 x7 x10 x11) = some (ctD n (Wf n (A r) k)) := by
  refine vLc_map (I := fun i : Nat => hv n (Hb n (A r) k i)) (xs := List.range n) rfl ?_ ?_ fun i mi => ⟨_, rfl, ?_⟩
  · simp
  · simp; omega
  · have hi := List.mem_range.mp mi
    simp [dSum_hv, Hb_sum n (A r) i k hi]
theorem law_c4 (hn : n ≤ 12) (m k : Nat) (s d : D) (x5 x6 x7 x10 x11 : Slot) : fb_law_c4 (stl C n r m s d (some (.z, hm n r k)) x5 x6 x7 x10 x11) = some (.lst ((List.range n).map (bt n r k))) := by
  refine vLc_map (I := fun i : Nat => hv n (Hb n (A r) k i)) (xs := List.range n) rfl ?_ ?_ fun i mi => ⟨_, rfl, ?_⟩
  · simp
  · simp; omega
  · simp [tup_hv, bt]
theorem law_c5 (hn : n ≤ 12) (m k : Nat) (s d : D) (x5 x6 x7 x10 x11 : Slot) : fb_law_c5 (stl C n r m s d (some (.z, hm n r k)) x5 x6 x7 x10 x11) = some (.lst ((List.range n).map fun i => .int (Hb n (A r) k i i))) := by
  refine vLc_map (I := fun i : Nat => .int i) (xs := List.range n) rfl ?_ ?_ fun i mi => ⟨_, rfl, ?_⟩
  · simp [vRng1]; omega
  · simp; omega
  · have hi := List.mem_range.mp mi
    simp [hi, hv]
theorem law_c2 (hn : n ≤ 12) (s d : D) (x3 x4 x5 x6 x7 x8 x9 x10 x11 : Slot) : fb_law_c2 [some (.z, s), some (.seq .z, d), some (.z, .int n), x3, x4, x5, x6, x7, x8, x9, x10, x11, none, none, none, none, none] = some (hm n r 0) := by
  have hn3 : (n : Int) < 1000000000 ∧ -1000000000 < (n : Int) := by omega
  have e : ∀ i : Nat, fb_law_c1 [some (.z, s), some (.seq .z, d), some (.z, .int n), x3, x4, x5, x6, x7, x8, x9, x10, x11, some (.z, .int i), none, none, none, none] = some (hv n (Hb n (A r) 0 i)) := by
    intro i
    refine vLc_map (I := fun i : Nat => .int i) (xs := List.range n) rfl ?_ ?_ fun j mj => ⟨_, rfl, ?_⟩
    · simp [vRng1, hn3]
    · simp; omega
    · simp [Hb]
      by_cases h : i = j
      · subst h; simp
      · rw [if_neg (by omega), if_neg (by omega)]
  refine vLc_map (I := fun i : Nat => .int i) (xs := List.range n) rfl ?_ ?_ fun i mi => ⟨_, rfl, ?_⟩
  · simp [vRng1, hn3]
  · simp; omega
  · simp [e i]
theorem same_row (F : Nat → Int) (hn : n ≤ 12) : m__law_same [.tup ((List.range n).map fun i => .int (F i)), .tup ((List.range n).map fun i => .int (F i))] = some (.bl true) :=
  Sm.tup (by simp; omega) fun d md => by
    obtain ⟨i, _, rfl⟩ := List.mem_map.mp md
    exact Sm.int _
theorem same_tab (l : Nat) (hn : n ≤ 12) : m__law_same [.tup ((List.range n).map (bt n r l)), .tup ((List.range n).map (bt n r l))] = some (.bl true) :=
  Sm.tup (by simp; omega) fun d md => by
    obtain ⟨i, _, rfl⟩ := List.mem_map.mp md
    exact Sm.tup (by simp; omega) fun d md => by
      obtain ⟨i, _, rfl⟩ := List.mem_map.mp md
      exact Sm.int _
theorem same_int (i : Int) : m__law_same [.int i, .int i] = some (.bl true) := Sm.int i
theorem same_lots (F : Nat → Int) (hn : n ≤ 12) : m__law_same [lots n F, lots n F] = some (.bl true) :=
  Sm.tup (by have := sset_len ((List.range n).map F); simp at this ⊢; omega) fun d md => by
    obtain ⟨i, _, rfl⟩ := List.mem_map.mp md
    refine Sm.tup ?_ fun d md => by
      obtain ⟨i, _, rfl⟩ := List.mem_map.mp md
      exact Sm.int _
    rw [List.length_map]
    exact Nat.le_trans (List.length_filter_le _ _) (by simp; omega)
theorem dIx_last (xs : List D) (d : D) : dIx (.lst (xs ++ [d])) (.int (-1)) = some d := by
  have h : ¬ (0 : Int) ≤ -1 := by decide
  have h2 : -(((xs ++ [d]).length : Nat) : Int) ≤ -1 := by simp; omega
  have h3 : ((-1 : Int) + ((xs ++ [d]).length : Nat)).toNat = xs.length := by simp; omega
  simp only [dIx, ixN, if_neg h, if_pos h2, Option.bind_some, h3]
  simp
def lotsL (n : Nat) (r : Nat → Int) (k : Nat) : D := .lst ((List.range k).map fun l => lots n (Wf n (A r) l))
theorem law_b1 (hn : n ≤ 12) (hr : RowsOk n r) {m k : Nat} (hk : k ≤ 400) (s d : D) (x7 x10 x11 : Slot) : fb_law_b1 C (stl C n r m s d (some (.z, hm n r k)) (some (.seq .z, lotsL n r k)) (some (.z, .int k)) x7 x10 x11) =
    some (.nx (stl C n r m s d (some (.z, hm n r (k + 1))) (some (.seq .z, lotsL n r (k + 1))) (some (.z, .int k)) x7 (some (.z, ctD n (Wf n (A r) k))) x11)) := by
  have hk3 : k < 1000000 := by omega
  have s1 : (sSet 10 .z (up fb_law_c3)) (stl C n r m s d (some (.z, hm n r k)) (some (.seq .z, lotsL n r k)) (some (.z, .int k)) x7 x10 x11) = some (.nx (stl C n r m s d (some (.z, hm n r k)) (some (.seq .z, lotsL n r k)) (some (.z, .int k)) x7 (some (.z, ctD n (Wf n (A r) k))) x11)) := by
    rw [q_sSet, q_up, law_c3 hn]; rfl
  have s2 : (sApp 5 .z (lVar 5) (up (vCall (n := 1) m__law_lots (aCons (vVarZ 10) aNil)))) (stl C n r m s d (some (.z, hm n r k)) (some (.seq .z, lotsL n r k)) (some (.z, .int k)) x7 (some (.z, ctD n (Wf n (A r) k))) x11) =
      some (.nx (stl C n r m s d (some (.z, hm n r k)) (some (.seq .z, lotsL n r (k + 1))) (some (.z, .int k)) x7 (some (.z, ctD n (Wf n (A r) k))) x11)) := by
    unfold lotsL
    rw [List.range_succ]
    simp [law_lots_ev hn, hk3]
  have s4 : (sSet 4 .z (up (vCall (n := 2) m__law_times (aCons (vVarZ 3) (aCons (vVarZ 4) aNil))))) (stl C n r m s d (some (.z, hm n r k)) (some (.seq .z, lotsL n r (k + 1))) (some (.z, .int k)) x7 (some (.z, ctD n (Wf n (A r) k))) x11) =
      some (.nx (stl C n r m s d (some (.z, hm n r (k + 1))) (some (.seq .z, lotsL n r (k + 1))) (some (.z, .int k)) x7 (some (.z, ctD n (Wf n (A r) k))) x11)) := by
    have e := times_ev (r := r) hn (Hb n (A r) k)
    simp [e]
    intro a _; rfl
  have t1 : ∃ b, (upT (vB (v2 dIn (vVarZ 6) (vTup (aCons (vC (.int 0)) (aCons (vC (.int 1)) (aCons (vVarZ 9) (aCons (v2 dFdiv (vVarZ 9) (vC (.int 2))) aNil)))))))) (stl C n r m s d (some (.z, hm n r k)) (some (.seq .z, lotsL n r (k + 1))) (some (.z, .int k)) x7 (some (.z, ctD n (Wf n (A r) k))) x11) =
      some (b, stl C n r m s d (some (.z, hm n r k)) (some (.seq .z, lotsL n r (k + 1))) (some (.z, .int k)) x7 (some (.z, ctD n (Wf n (A r) k))) x11) := by
    refine ⟨inV (.int k) [.int 0, .int 1, .int m, .int ((m : Int).fdiv 2)], ?_⟩
    simp [bDiv, dIn, din, flatD, flatDs]
  obtain ⟨b, t1⟩ := t1
  have u1 := walks_from_ev (C := C) hn hr hk
  have u2 := walks_between_ev (C := C) hn hr hk
  have u3 := closed_ev (C := C) hn hr hk
  have u4 := by_walks_ev (C := C) hn hr hk
  have v1 := same_row (n := n) (Wf n (A r) k) hn
  have v2 := same_tab (n := n) (r := r) k hn
  have v3 := same_int (S n fun i => Hb n (A r) k i i)
  have v4 := same_lots (n := n) (Wf n (A r) k) hn
  have w4 := law_c4 (C := C) (r := r) hn m k s d (some (.seq .z, lotsL n r (k + 1))) (some (.z, .int k)) x7 (some (.z, ctD n (Wf n (A r) k))) x11
  have w5 := law_c5 (C := C) (r := r) hn m k s d (some (.seq .z, lotsL n r (k + 1))) (some (.z, .int k)) x7 (some (.z, ctD n (Wf n (A r) k))) x11
  have w6 : dIx (lotsL n r (k + 1)) (.int (-1)) = some (lots n (Wf n (A r) k)) := by
    unfold lotsL
    rw [List.range_succ, List.map_append]
    exact dIx_last _ _
  unfold fb_law_b1
  rw [sSeq_nx s1, sSeq_nx s2]
  refine (sSeq_nx (ρ' := stl C n r m s d (some (.z, hm n r k)) (some (.seq .z, lotsL n r (k + 1))) (some (.z, .int k)) x7 (some (.z, ctD n (Wf n (A r) k))) x11) ?_).trans s4
  rw [q_sIf, t1, Option.bind_some]
  cases b with
  | false => rfl
  | true =>
    simp only [if_true]
    have hS : (List.map (fun i => Hb n (A r) k i i) (List.range n)).sum = S n fun i => Hb n (A r) k i i := rfl
    refine (sSeq_nx (ρ' := stl C n r m s d (some (.z, hm n r k)) (some (.seq .z, lotsL n r (k + 1))) (some (.z, .int k)) x7 (some (.z, ctD n (Wf n (A r) k))) x11) ?_).trans ?_
    · simp [u1, u2, w4, v1, v2]
    · simp [u3, u4, w5, w6, hS, v3, v4]
end
end K09

set_option Elab.async false
set_option linter.all false
set_option maxRecDepth 100000
namespace K09
open PySem PySem.Spec PyProof.Rows L2 VL
section
variable {C : Addr} {n : Nat} {r : Nat → Int}
theorem law_loop (hn : n ≤ 12) (hr : RowsOk n r) {m : Nat} (hm400 : m ≤ 60) (s d : D) : ∃ x6 x10, forL (gN 6) (fb_law_b1 C) ((List.range (m + 1)).map fun k : Nat => D.int k) (stl C n r m s d (some (.z, hm n r 0)) (some (.seq .z, lotsL n r 0)) none none none none) =
    some (.nx (stl C n r m s d (some (.z, hm n r (m + 1))) (some (.seq .z, lotsL n r (m + 1))) x6 none x10 none)) := by
  have loop := forL_inv (g := gN 6) (b := fb_law_b1 C) (I := fun k : Nat => D.int k) (List.range (m + 1)) (fun k ρ => ∃ x6 x10, ρ = stl C n r m s d (some (.z, hm n r k)) (some (.seq .z, lotsL n r k)) x6 none x10 none) (ρ := stl C n r m s d (some (.z, hm n r 0)) (some (.seq .z, lotsL n r 0)) none none none none) (fun k j ρ hk ⟨x6, x10, e⟩ => by
    subst e
    obtain ⟨k1, k2⟩ := List.getElem?_eq_some_iff.mp hk
    simp at k1 k2
    subst k2
    exact ⟨_, _, rfl, .inl (law_b1 (C := C) hn hr (m := m) (k := k) (by omega) s d none x10 none), _, _, rfl⟩) ⟨none, none, rfl⟩
  obtain ⟨ρ', e, x6, x10, rfl⟩ := loop
  rw [List.length_range] at e
  exact ⟨x6, x10, e⟩
theorem law_down {m : Nat} (hm60 : m ≤ 60) (s d : D) (x4 x6 x10 x11 : Slot) : whileL fb_law_t1 fb_law_b2 1000 (stl C n r m s d x4 (some (.seq .z, lotsL n r (m + 1))) x6 (some (.z, .int m)) x10 x11) =
    some (.nx (stl C n r m s d x4 (some (.seq .z, lotsL n r (m + 1))) x6 (some (.z, .int (downE (eqE n r m) m : Nat))) x10 x11)) := by
  refine whileL_down (t := fb_law_t1) (b := fb_law_b2) (eqE n r m) (fun a => stl C n r m s d x4 (some (.seq .z, lotsL n r (m + 1))) x6 (some (.z, .int a)) x10 x11) m (by simp [fb_law_t1]) (fun a ha => ?_) (fun a ha => ?_) m 1000 (Nat.le_refl _) (by omega)
  · have e : ((a + 1 : Nat) : Int) - 1 = (a : Int) := by omega
    have e2 : (0 : Int) < ((a + 1 : Nat) : Int) := by omega
    simp only [fb_law_t1, q_upT, q_tAnd, q_vB, q_v2, q_vVarZ, q_vVarS, q_vC, List.getElem?_cons_succ, List.getElem?_cons_zero, Option.bind_some, q_II, e, lotsL, dIx_lst]
    have h1 : a < m + 1 := by omega
    simp [h1, e2, dEq, eqL_ev, eqE]
  · have e : ((a + 1 : Nat) : Int) - 1 = (a : Int) := by omega
    simp only [fb_law_b2, q_sSet, q_up, q_v2, q_vVarZ, q_vC, List.getElem?_cons_succ, List.getElem?_cons_zero, Option.bind_some, Option.map_some, q_II, e]
    rfl
theorem law_far (hn : n ≤ 12) {f m : Nat} (s d : D) (x4 x5 x6 x7 : Slot) : ∃ y6, forL (gN 6) fb_law_b3 ((List.range f).map fun k : Nat => D.int k) (stl C n r m s d x4 x5 x6 x7 (some (.z, ctD n (Wf n (A r) 0))) (some (.z, .int f))) =
    some (.nx (stl C n r m s d x4 x5 y6 x7 (some (.z, ctD n (Wf n (A r) f))) (some (.z, .int f)))) := by
  have hn3 : (n : Int) < 1000000000 ∧ -1000000000 < (n : Int) := by omega
  have e6 : ∀ (k i : Nat) (x6 : Slot), i < n → fb_law_c6 [some (.z, s), some (.seq .z, d), some (.z, .int n), some (.z, rowsT n r), x4, x5, x6, x7, some (.z, tabD C n r), some (.z, .int m), some (.z, ctD n (Wf n (A r) k)), some (.z, .int f), some (.z, .int i), none, none, none, none] = some (.lst (((List.range n).filter (A r i)).map fun k' => .int (Wf n (A r) k k'))) := by
    intro k i x6 hi
    refine vLc_eq (I := fun i : Nat => .int i) (xs := List.range n) rfl ?_ ?_ fun j mj => ⟨_, rfl, ?_, fun _ => ?_⟩
    · simp [vRng1, hn3]
    · simp; omega
    · simp [hi, A, bitI]
    · have hj := List.mem_range.mp mj
      simp [hj]
  have e7 : ∀ (k : Nat) (x6 : Slot), fb_law_c7 (stl C n r m s d x4 x5 x6 x7 (some (.z, ctD n (Wf n (A r) k))) (some (.z, .int f))) = some (ctD n (Wf n (A r) (k + 1))) := by
    intro k x6
    refine vLc_map (I := fun i : Nat => .int i) (xs := List.range n) rfl ?_ ?_ fun i mi => ⟨_, rfl, ?_⟩
    · simp [vRng1, hn3]
    · simp; omega
    · have hi := List.mem_range.mp mi
      simp [e6 k i x6 hi, Wf]
  have e8 : ∀ (k : Nat) (x6 : Slot), fb_law_b3 (stl C n r m s d x4 x5 x6 x7 (some (.z, ctD n (Wf n (A r) k))) (some (.z, .int f))) = some (.nx (stl C n r m s d x4 x5 x6 x7 (some (.z, ctD n (Wf n (A r) (k + 1)))) (some (.z, .int f)))) := by
    intro k x6
    unfold fb_law_b3
    rw [q_sSet, q_up, e7 k x6]
    rfl
  have loop := forL_inv (g := gN 6) (b := fb_law_b3) (I := fun k : Nat => D.int k) (List.range f) (fun k ρ => ∃ x6, ρ = stl C n r m s d x4 x5 x6 x7 (some (.z, ctD n (Wf n (A r) k))) (some (.z, .int f))) (ρ := stl C n r m s d x4 x5 x6 x7 (some (.z, ctD n (Wf n (A r) 0))) (some (.z, .int f))) (fun k j ρ hk ⟨x6, e⟩ => by
    subst e
    exact ⟨_, _, rfl, .inl (e8 k (some (.z, .int j))), _, rfl⟩) ⟨x6, rfl⟩
  obtain ⟨ρ', e, y6, rfl⟩ := loop
  rw [List.length_range] at e
  exact ⟨y6, e⟩
theorem vMake_ev {nn : Nat} {mi : List D → Option (D × D)} {fs : Sto → Option (List D)} {ρ : Sto} {ds : List D} {d : D} (h : fs ρ = some ds) (hl : ds.length + 1 = nn) (hm : mi (.obj C [] [] :: ds) = some (.non, d)) : vMake nn C mi fs ρ = some d := by
  unfold vMake dMake
  rw [h, Option.bind_some, if_pos hl, hm]
theorem law_true (ns : List Int) : m_law C [.lst (ns.map .int)] = some (.bl true) := by
  have w0 : WfD (.lst [.lst (ns.map .int), .int 0, .int 0, .int 1]) := ⟨ns, 0, 0, 1, rfl⟩
  obtain ⟨ni, d1, g1, mn, w1⟩ := pick_ev w0 [1, 2, 3, 5, 9, 12] (by decide) (by decide)
  obtain ⟨n, hn0, hn, rfl⟩ : ∃ n : Nat, 0 < n ∧ n ≤ 12 ∧ ni = (n : Int) := by
    simp at mn
    rcases mn with rfl | rfl | rfl | rfl | rfl | rfl
    · exact ⟨1, by decide, by decide, rfl⟩
    · exact ⟨2, by decide, by decide, rfl⟩
    · exact ⟨3, by decide, by decide, rfl⟩
    · exact ⟨5, by decide, by decide, rfl⟩
    · exact ⟨9, by decide, by decide, rfl⟩
    · exact ⟨12, by decide, by decide, rfl⟩
  obtain ⟨d2, R, w2, ht, g2⟩ := rows_ev w1 hn0 hn
  obtain ⟨mi, d3, g3, mm, w3⟩ := pick_ev w2 [0, 1, 17, 41, 60] (by decide) (by decide)
  obtain ⟨m, hm60, rfl⟩ : ∃ m : Nat, m ≤ 60 ∧ mi = (m : Int) := by
    simp at mm
    rcases mm with rfl | rfl | rfl | rfl | rfl
    · exact ⟨0, by decide, rfl⟩
    · exact ⟨1, by decide, rfl⟩
    · exact ⟨17, by decide, rfl⟩
    · exact ⟨41, by decide, rfl⟩
    · exact ⟨60, by decide, rfl⟩
  obtain ⟨fi, d4, g4, mf, w4⟩ := pick_ev w3 [200, 399, 400] (by decide) (by decide)
  obtain ⟨f, hf, rfl⟩ : ∃ f : Nat, f ≤ 400 ∧ fi = (f : Int) := by
    simp at mf
    rcases mf with rfl | rfl | rfl
    · exact ⟨200, by decide, rfl⟩
    · exact ⟨399, by decide, rfl⟩
    · exact ⟨400, by decide, rfl⟩
  generalize hr' : (fun i => (R i : Int)) = r at ht
  have hr : RowsOk n r := ht.rows fun i _ => ⟨R i, by rw [← hr']⟩
  have g2' : m__law_rows [d1, .int n] = some (rowsT n r, d2) := by rw [g2]; simp [rowsT, ← hr']
  have g1' : m__law_pick [.lst [.lst (ns.map .int), .int 0, .int 0, .int 1], .lst [.int 1, .int 2, .int 3, .int 5, .int 9, .int 12]] = some (.int n, d1) := g1
  have g3' : m__law_pick [d2, .lst [.int 0, .int 1, .int 17, .int 41, .int 60]] = some (.int m, d3) := g3
  have g4' : m__law_pick [d3, .lst [.int 200, .int 399, .int 400]] = some (.int f, d4) := g4
  have g0 : m__law_draws [.lst (ns.map .int)] = some (.lst [.lst (ns.map .int), .int 0, .int 0, .int 1]) := by simp [m__law_draws, fb__law_draws]
  have hn3 : (n : Int) < 1000000000 ∧ -1000000000 < (n : Int) := by omega
  have hf3 : (f : Int) < 1000000000 ∧ -1000000000 < (f : Int) := by omega
  have hm1 : ((m : Int) + 1) = ((m + 1 : Nat) : Int) := by omega
  have hm3 : ((m + 1 : Nat) : Int) < 1000000000 ∧ -1000000000 < ((m + 1 : Nat) : Int) := by omega
  generalize hs : D.lst (ns.map .int) = s at g0 g1'
  generalize hd0 : D.lst [s, .int 0, .int 0, .int 1] = d0 at g0 g1'
  obtain ⟨x6, x10, l1⟩ := law_loop (C := C) hn hr hm60 s d3
  have l2 := law_down (C := C) (n := n) (r := r) hm60 s d3 (some (.z, hm n r (m + 1))) x6 x10 none
  obtain ⟨y6, l3⟩ := law_far (C := C) (r := r) hn (f := f) (m := m) s d4 (some (.z, hm n r (m + 1))) (some (.seq .z, lotsL n r (m + 1))) x6 (some (.z, .int (downE (eqE n r m) m : Nat)))
  have a1 : (sSet 1 (.seq .z) (up (vCall (n := 1) m__law_draws (aCons (vVarZ 0) aNil)))) (some (.z, s) :: List.replicate 16 none) = some (.nx (some (.z, s) :: some (.seq .z, d0) :: List.replicate 15 none)) := by
    simp [g0]
  have a2 : (sSet 2 .z (eCallIO 2 0 1 (.seq .z) m__law_pick (aCons (vVar 1) (aCons (vLst (aCons (vC (.int 1)) (aCons (vC (.int 2)) (aCons (vC (.int 3)) (aCons (vC (.int 5)) (aCons (vC (.int 9)) (aCons (vC (.int 12)) aNil))))))) aNil)))) (some (.z, s) :: some (.seq .z, d0) :: List.replicate 15 none) =
      some (.nx (some (.z, s) :: some (.seq .z, d1) :: some (.z, .int n) :: List.replicate 14 none)) := by
    simp [g1']
  have a3 : (sSet 3 .z (eCallIO 2 0 1 (.seq .z) m__law_rows (aCons (vVar 1) (aCons (vVarZ 2) aNil)))) (some (.z, s) :: some (.seq .z, d1) :: some (.z, .int n) :: List.replicate 14 none) =
      some (.nx (some (.z, s) :: some (.seq .z, d2) :: some (.z, .int n) :: some (.z, rowsT n r) :: List.replicate 13 none)) := by
    simp [g2']
  have a4 : (sPar 8 9 (bCons (up (vMake 2 C (m_Table_init C) (aCons (vVarZ 3) aNil))) (bCons (eCallIO 2 0 1 (.seq .z) m__law_pick (aCons (vVar 1) (aCons (vLst (aCons (vC (.int 0)) (aCons (vC (.int 1)) (aCons (vC (.int 17)) (aCons (vC (.int 41)) (aCons (vC (.int 60)) aNil)))))) aNil))) bNil)))
      (some (.z, s) :: some (.seq .z, d2) :: some (.z, .int n) :: some (.z, rowsT n r) :: List.replicate 13 none) = some (.nx (stl C n r m s d3 none none none none none none)) := by
    have e : vMake 2 C (m_Table_init C) (aCons (vVarZ 3) aNil) (some (.z, s) :: some (.seq .z, d2) :: some (.z, .int n) :: some (.z, rowsT n r) :: List.replicate 13 none) = some (tabD C n r) :=
      vMake_ev (ds := [rowsT n r]) (by simp) rfl (table_ev ht)
    rw [q_sPar, q_bCons, q_up, e]
    simp [g3']
  have a5 : (sSet 4 .z (up fb_law_c2)) (stl C n r m s d3 none none none none none none) = some (.nx (stl C n r m s d3 (some (.z, hm n r 0)) none none none none none)) := by
    rw [q_sSet, q_up, law_c2 (r := r) hn]; rfl
  have a6 : (sSet 5 (.seq .z) (up (vLst aNil))) (stl C n r m s d3 (some (.z, hm n r 0)) none none none none none) = some (.nx (stl C n r m s d3 (some (.z, hm n r 0)) (some (.seq .z, lotsL n r 0)) none none none none)) := by
    simp [lotsL]
  have a7 : (sFor (upI (vRng1 (aCons (v2 dAddI (vVarZ 9) (vC (.int 1))) aNil))) (gN 6) (fb_law_b1 C)) (stl C n r m s d3 (some (.z, hm n r 0)) (some (.seq .z, lotsL n r 0)) none none none none) = some (.nx (stl C n r m s d3 (some (.z, hm n r (m + 1))) (some (.seq .z, lotsL n r (m + 1))) x6 none x10 none)) := by
    simp only [q_sFor, q_upI, vRng1, q_aCons, q_v2, q_vVarZ, q_vC, q_aNil, List.getElem?_cons_succ, List.getElem?_cons_zero, Option.bind_some, q_II, Option.map_some, hm1, hm3, and_self, if_true, dRange0]
    exact l1
  have a8 : (sSet 7 .z (up (vVarZ 9))) (stl C n r m s d3 (some (.z, hm n r (m + 1))) (some (.seq .z, lotsL n r (m + 1))) x6 none x10 none) = some (.nx (stl C n r m s d3 (some (.z, hm n r (m + 1))) (some (.seq .z, lotsL n r (m + 1))) x6 (some (.z, .int m)) x10 none)) := by
    simp
  have a10 : (sIf (upT (tNotF (vB (vCall (n := 2) m__law_same (aCons (vCall (n := 2) (m_steady_from C) (aCons (vVarZ 8) (aCons (vVarZ 9) aNil))) (aCons (vVarZ 7) aNil)))))) (sRet (up (vC (.bl false)))) sNext) (stl C n r m s d3 (some (.z, hm n r (m + 1))) (some (.seq .z, lotsL n r (m + 1))) x6 (some (.z, .int (downE (eqE n r m) m : Nat))) x10 none) =
      some (.nx (stl C n r m s d3 (some (.z, hm n r (m + 1))) (some (.seq .z, lotsL n r (m + 1))) x6 (some (.z, .int (downE (eqE n r m) m : Nat))) x10 none)) := by
    have e := steady_ev (C := C) hn hr (m := m) (by omega)
    have e2 := same_int (downE (eqE n r m) m : Nat)
    simp [e, e2]
  have a11 : (sAsg (eTup (bCons (eCallIO 2 0 1 (.seq .z) m__law_pick (aCons (vVar 1) (aCons (vLst (aCons (vC (.int 200)) (aCons (vC (.int 399)) (aCons (vC (.int 400)) aNil)))) aNil))) (bCons (up (v2 dRep (vLst (aCons (vC (.int 1)) aNil)) (vVarZ 2))) bNil))) (gTupF 2 (gsCons (gN 11) (gsCons (gN 10) gsNil)))) (stl C n r m s d3 (some (.z, hm n r (m + 1))) (some (.seq .z, lotsL n r (m + 1))) x6 (some (.z, .int (downE (eqE n r m) m : Nat))) x10 none) =
      some (.nx (stl C n r m s d4 (some (.z, hm n r (m + 1))) (some (.seq .z, lotsL n r (m + 1))) x6 (some (.z, .int (downE (eqE n r m) m : Nat))) (some (.z, ctD n (Wf n (A r) 0))) (some (.z, .int f)))) := by
    simp [g4', dRep_one _ n (by omega), Wf]
  have a12 : (sFor (upI (vRng1 (aCons (vVarZ 11) aNil))) (gN 6) fb_law_b3) (stl C n r m s d4 (some (.z, hm n r (m + 1))) (some (.seq .z, lotsL n r (m + 1))) x6 (some (.z, .int (downE (eqE n r m) m : Nat))) (some (.z, ctD n (Wf n (A r) 0))) (some (.z, .int f))) =
      some (.nx (stl C n r m s d4 (some (.z, hm n r (m + 1))) (some (.seq .z, lotsL n r (m + 1))) y6 (some (.z, .int (downE (eqE n r m) m : Nat))) (some (.z, ctD n (Wf n (A r) f))) (some (.z, .int f)))) := by
    simp only [q_sFor, q_upI, vRng1, q_aCons, q_v2, q_vVarZ, q_vC, q_aNil, List.getElem?_cons_succ, List.getElem?_cons_zero, Option.bind_some, q_II, Option.map_some, hf3, and_self, if_true, dRange0]
    exact l3
  have u1 := walks_from_ev (C := C) hn hr hf
  have u4 := by_walks_ev (C := C) hn hr hf
  have v1 := same_row (n := n) (Wf n (A r) f) hn
  have v4 := same_lots (n := n) (Wf n (A r) f) hn
  have u5 := law_lots_ev (F := Wf n (A r) f) hn
  have st0 : argZ [s] ++ List.replicate 16 (none : Slot) = some (.z, s) :: List.replicate 16 none := rfl
  unfold m_law
  simp only [st0]
  unfold fb_law
  rw [sSeq_nx a1, sSeq_nx a2, sSeq_nx a3, sSeq_nx a4, sSeq_nx a5, sSeq_nx a6, sSeq_nx a7, sSeq_nx a8, sSeq_nx l2, sSeq_nx a10, sSeq_nx a11, sSeq_nx a12]
  simp [u1, u4, u5, v1, v4]
end
end K09

set_option Elab.async false
set_option linter.all false
set_option maxRecDepth 100000
set_option maxHeartbeats 4000000
namespace K09
open PySem PySem.Spec PyProof.Rows L2 VL
def spLaw (K : PySem.W.Frag) : Sp := fun vs H Q _ => ∃ (a : Addr) (ns : List Int), vs = [.ref a] ∧ SqL K H a (ns.map V.int) ∧ ns.length ≤ 63 ∧ ∀ H', Q (.bl true) H'
theorem Rel.law {K : PySem.W.Frag} {H : Hp} {a : Addr} {ns : List Int} (h : SqL K H a (ns.map V.int)) : VL.Rel K (fun _ => none) (argZ [.lst (ns.map .int)]) ([V.ref a].map some) H H := by
  refine ⟨fun _ => [], fun i s d q => ?_, fun _ => List.nodup_nil, fun i j b m => (by cases m), fun i b m => (by cases m), rfl, Same.refl _, fun b u e => (by cases e), fun b u e => rfl⟩
  cases i with
  | zero =>
    simp [argZ] at q
    obtain ⟨rfl, rfl⟩ := q
    refine ⟨_, rfl, ?_, rfl⟩
    simp only [Rp]
    exact ⟨a, _, rfl, h, RpL.ints ns⟩
  | succ i => simp [argZ] at q
theorem ok_lawS {P : Program} {w : World} {K : PySem.W.Frag} {mg : Str → Option Value} {base : Heap} {C f : Addr} {fd : FuncData} (Fo : FnOk P w K mg base CX0 6 f fd ["script"] (spP K 1 .z (m_law C))) : FnOk P w K mg base CX0 6 f fd ["script"] (spLaw K) := by
  refine Fo.imp fun vs H Q E ⟨a, ns, e, hS, hl, k⟩ => ?_
  subst e
  refine ⟨[.lst (ns.map .int)], H, fun _ => none, .bl true, rfl, law_true ns, Rel.law hS, fun v H1 F1 _ R => ?_⟩
  obtain ⟨u, e1, e2⟩ := R.getz (i := 0) (d := .bl true) rfl
  have e3 : u = .bl true := by simpa only [Rp] using e2
  simp at e1
  subst e1 e3
  exact k H1
theorem all_mk {l : PySem.W.OpenLaw} {w : World} {K : PySem.W.Frag} {h : Heap} {mg : Str → Option Value} {fa C f0 f1 f2 f3 f4 f5 f6 f7 f8 f9 f10 f11 f12 f13 f14 f15 f16 f17 : Addr} (X : K.In h) (G : h.Ns mainGlobals mg) (hfa : mg "law" = some (.ref fa))
    {od0 an0 : Option Addr} {sl0 : Array (Option Value)} {oc0 kV0 dc0 pm0 cd0 ct0 : Value}
    {od1 an1 : Option Addr} {sl1 : Array (Option Value)} {oc1 kV1 dc1 pm1 cd1 ct1 : Value}
    {od2 an2 : Option Addr} {sl2 : Array (Option Value)} {oc2 kV2 dc2 pm2 cd2 ct2 : Value}
    {od3 an3 : Option Addr} {sl3 : Array (Option Value)} {oc3 kV3 dc3 pm3 cd3 ct3 : Value}
    {od4 an4 : Option Addr} {sl4 : Array (Option Value)} {oc4 kV4 dc4 pm4 cd4 ct4 : Value}
    {od5 an5 : Option Addr} {sl5 : Array (Option Value)} {oc5 kV5 dc5 pm5 cd5 ct5 : Value}
    {od6 an6 : Option Addr} {sl6 : Array (Option Value)} {oc6 kV6 dc6 pm6 cd6 ct6 : Value}
    {od7 an7 : Option Addr} {sl7 : Array (Option Value)} {oc7 kV7 dc7 pm7 cd7 ct7 : Value}
    {od8 an8 : Option Addr} {sl8 : Array (Option Value)} {oc8 kV8 dc8 pm8 cd8 ct8 : Value}
    {od9 an9 : Option Addr} {sl9 : Array (Option Value)} {oc9 kV9 dc9 pm9 cd9 ct9 : Value}
    {od10 an10 : Option Addr} {sl10 : Array (Option Value)} {oc10 kV10 dc10 pm10 cd10 ct10 : Value}
    {od11 an11 : Option Addr} {sl11 : Array (Option Value)} {oc11 kV11 dc11 pm11 cd11 ct11 : Value}
    {od12 an12 : Option Addr} {sl12 : Array (Option Value)} {oc12 kV12 dc12 pm12 cd12 ct12 : Value}
    {od13 an13 : Option Addr} {sl13 : Array (Option Value)} {oc13 kV13 dc13 pm13 cd13 ct13 : Value}
    {od14 an14 : Option Addr} {sl14 : Array (Option Value)} {oc14 kV14 dc14 pm14 cd14 ct14 : Value}
    {od15 an15 : Option Addr} {sl15 : Array (Option Value)} {oc15 kV15 dc15 pm15 cd15 ct15 : Value}
    {od16 an16 : Option Addr} {sl16 : Array (Option Value)} {oc16 kV16 dc16 pm16 cd16 ct16 : Value}
    {od17 an17 : Option Addr} {sl17 : Array (Option Value)} {oc17 kV17 dc17 pm17 cd17 ct17 : Value}
    {tc_MOST_LENGTH : Tok}
    {tc_MOST_SIDES : Tok}
    (aC : PySem.W.nsIn K mainGlobals "Table" = some (some (.ref C)))
    (a0 : PySem.W.nsIn K mainGlobals "is_integer" = some (some (.ref f0)))
    (l0 : K.lookup f0 = some ⟨oc0, od0, .func (PySem.W.fnOf "is_integer" "is_integer" (defArgs st_is_integer) (defBody st_is_integer) (defScope st_is_integer) .none kV0 dc0 pm0 an0 cd0 ct0), sl0⟩)
    (c0 : PySem.W.codeIn K cd0 "is_integer" = true)
    (k0 : PySem.W.keepIn K (.ref f0) = true)
    (a1 : PySem.W.nsIn K mainGlobals "bit" = some (some (.ref f1)))
    (l1 : K.lookup f1 = some ⟨oc1, od1, .func (PySem.W.fnOf "bit" "bit" (defArgs st_bit) (defBody st_bit) (defScope st_bit) .none kV1 dc1 pm1 an1 cd1 ct1), sl1⟩)
    (c1 : PySem.W.codeIn K cd1 "bit" = true)
    (k1 : PySem.W.keepIn K (.ref f1) = true)
    (a2 : PySem.W.nsIn K mainGlobals "members" = some (some (.ref f2)))
    (l2 : K.lookup f2 = some ⟨oc2, od2, .func (PySem.W.fnOf "members" "members" (defArgs st_members) (defBody st_members) (defScope st_members) .none kV2 dc2 pm2 an2 cd2 ct2), sl2⟩)
    (c2 : PySem.W.codeIn K cd2 "members" = true)
    (k2 : PySem.W.keepIn K (.ref f2) = true)
    (a3 : PySem.W.findIn K (.ref C) "__init__" = some (some (.ref f3)))
    (i3 : PySem.W.isFn K (.ref f3) = true)
    (l3 : K.lookup f3 = some ⟨oc3, od3, .func (PySem.W.fnOf "__init__" "Table.__init__" (defArgs st_Table_init) (defBody st_Table_init) (defScope st_Table_init) .none kV3 dc3 pm3 an3 cd3 ct3), sl3⟩)
    (c3 : PySem.W.codeIn K cd3 "Table.__init__" = true)
    (k3 : PySem.W.keepIn K (.ref f3) = true)
    (a4 : PySem.W.nsIn K mainGlobals "look_at_length" = some (some (.ref f4)))
    (l4 : K.lookup f4 = some ⟨oc4, od4, .func (PySem.W.fnOf "look_at_length" "look_at_length" (defArgs st_look_at_length) (defBody st_look_at_length) (defScope st_look_at_length) .none kV4 dc4 pm4 an4 cd4 ct4), sl4⟩)
    (c4 : PySem.W.codeIn K cd4 "look_at_length" = true)
    (k4 : PySem.W.keepIn K (.ref f4) = true)
    (a5 : PySem.W.nsIn K mainGlobals "walks_from" = some (some (.ref f5)))
    (l5 : K.lookup f5 = some ⟨oc5, od5, .func (PySem.W.fnOf "walks_from" "walks_from" (defArgs st_walks_from) (defBody st_walks_from) (defScope st_walks_from) .none kV5 dc5 pm5 an5 cd5 ct5), sl5⟩)
    (c5 : PySem.W.codeIn K cd5 "walks_from" = true)
    (k5 : PySem.W.keepIn K (.ref f5) = true)
    (a6 : PySem.W.nsIn K mainGlobals "walks_between" = some (some (.ref f6)))
    (l6 : K.lookup f6 = some ⟨oc6, od6, .func (PySem.W.fnOf "walks_between" "walks_between" (defArgs st_walks_between) (defBody st_walks_between) (defScope st_walks_between) .none kV6 dc6 pm6 an6 cd6 ct6), sl6⟩)
    (c6 : PySem.W.codeIn K cd6 "walks_between" = true)
    (k6 : PySem.W.keepIn K (.ref f6) = true)
    (a7 : PySem.W.nsIn K mainGlobals "closed_walks" = some (some (.ref f7)))
    (l7 : K.lookup f7 = some ⟨oc7, od7, .func (PySem.W.fnOf "closed_walks" "closed_walks" (defArgs st_closed_walks) (defBody st_closed_walks) (defScope st_closed_walks) .none kV7 dc7 pm7 an7 cd7 ct7), sl7⟩)
    (c7 : PySem.W.codeIn K cd7 "closed_walks" = true)
    (k7 : PySem.W.keepIn K (.ref f7) = true)
    (a8 : PySem.W.nsIn K mainGlobals "by_walks" = some (some (.ref f8)))
    (l8 : K.lookup f8 = some ⟨oc8, od8, .func (PySem.W.fnOf "by_walks" "by_walks" (defArgs st_by_walks) (defBody st_by_walks) (defScope st_by_walks) .none kV8 dc8 pm8 an8 cd8 ct8), sl8⟩)
    (c8 : PySem.W.codeIn K cd8 "by_walks" = true)
    (k8 : PySem.W.keepIn K (.ref f8) = true)
    (a9 : PySem.W.nsIn K mainGlobals "steady_from" = some (some (.ref f9)))
    (l9 : K.lookup f9 = some ⟨oc9, od9, .func (PySem.W.fnOf "steady_from" "steady_from" (defArgs st_steady_from) (defBody st_steady_from) (defScope st_steady_from) .none kV9 dc9 pm9 an9 cd9 ct9), sl9⟩)
    (c9 : PySem.W.codeIn K cd9 "steady_from" = true)
    (k9 : PySem.W.keepIn K (.ref f9) = true)
    (a10 : PySem.W.nsIn K mainGlobals "_law_draws" = some (some (.ref f10)))
    (l10 : K.lookup f10 = some ⟨oc10, od10, .func (PySem.W.fnOf "_law_draws" "_law_draws" (defArgs st__law_draws) (defBody st__law_draws) (defScope st__law_draws) .none kV10 dc10 pm10 an10 cd10 ct10), sl10⟩)
    (c10 : PySem.W.codeIn K cd10 "_law_draws" = true)
    (k10 : PySem.W.keepIn K (.ref f10) = true)
    (a11 : PySem.W.nsIn K mainGlobals "_law_draw" = some (some (.ref f11)))
    (l11 : K.lookup f11 = some ⟨oc11, od11, .func (PySem.W.fnOf "_law_draw" "_law_draw" (defArgs st__law_draw) (defBody st__law_draw) (defScope st__law_draw) .none kV11 dc11 pm11 an11 cd11 ct11), sl11⟩)
    (c11 : PySem.W.codeIn K cd11 "_law_draw" = true)
    (k11 : PySem.W.keepIn K (.ref f11) = true)
    (a12 : PySem.W.nsIn K mainGlobals "_law_same" = some (some (.ref f12)))
    (l12 : K.lookup f12 = some ⟨oc12, od12, .func (PySem.W.fnOf "_law_same" "_law_same" (defArgs st__law_same) (defBody st__law_same) (defScope st__law_same) .none kV12 dc12 pm12 an12 cd12 ct12), sl12⟩)
    (c12 : PySem.W.codeIn K cd12 "_law_same" = true)
    (k12 : PySem.W.keepIn K (.ref f12) = true)
    (a13 : PySem.W.nsIn K mainGlobals "_law_pick" = some (some (.ref f13)))
    (l13 : K.lookup f13 = some ⟨oc13, od13, .func (PySem.W.fnOf "_law_pick" "_law_pick" (defArgs st__law_pick) (defBody st__law_pick) (defScope st__law_pick) .none kV13 dc13 pm13 an13 cd13 ct13), sl13⟩)
    (c13 : PySem.W.codeIn K cd13 "_law_pick" = true)
    (k13 : PySem.W.keepIn K (.ref f13) = true)
    (a14 : PySem.W.nsIn K mainGlobals "_law_rows" = some (some (.ref f14)))
    (l14 : K.lookup f14 = some ⟨oc14, od14, .func (PySem.W.fnOf "_law_rows" "_law_rows" (defArgs st__law_rows) (defBody st__law_rows) (defScope st__law_rows) .none kV14 dc14 pm14 an14 cd14 ct14), sl14⟩)
    (c14 : PySem.W.codeIn K cd14 "_law_rows" = true)
    (k14 : PySem.W.keepIn K (.ref f14) = true)
    (a15 : PySem.W.nsIn K mainGlobals "_law_times" = some (some (.ref f15)))
    (l15 : K.lookup f15 = some ⟨oc15, od15, .func (PySem.W.fnOf "_law_times" "_law_times" (defArgs st__law_times) (defBody st__law_times) (defScope st__law_times) .none kV15 dc15 pm15 an15 cd15 ct15), sl15⟩)
    (c15 : PySem.W.codeIn K cd15 "_law_times" = true)
    (k15 : PySem.W.keepIn K (.ref f15) = true)
    (a16 : PySem.W.nsIn K mainGlobals "_law_lots" = some (some (.ref f16)))
    (l16 : K.lookup f16 = some ⟨oc16, od16, .func (PySem.W.fnOf "_law_lots" "_law_lots" (defArgs st__law_lots) (defBody st__law_lots) (defScope st__law_lots) .none kV16 dc16 pm16 an16 cd16 ct16), sl16⟩)
    (c16 : PySem.W.codeIn K cd16 "_law_lots" = true)
    (k16 : PySem.W.keepIn K (.ref f16) = true)
    (a17 : PySem.W.nsIn K mainGlobals "law" = some (some (.ref f17)))
    (l17 : K.lookup f17 = some ⟨oc17, od17, .func (PySem.W.fnOf "law" "law" (defArgs st_law) (defBody st_law) (defScope st_law) .none kV17 dc17 pm17 an17 cd17 ct17), sl17⟩)
    (c17 : PySem.W.codeIn K cd17 "law" = true)
    (k17 : PySem.W.keepIn K (.ref f17) = true)
    (pg : PySem.W.plainGet K C Str.empty = true)
    (hd : PySem.W.hasDictIn K C = true)
    (po : PySem.W.plainOver K C = true)
    (sa : PySem.W.findIn K (.ref C) "__setattr__" = some (some (.builtin "object.__setattr__")))
    (mk : PySem.W.makesIn K C = true)
    (kc : PySem.W.keepIn K (.ref C) = true)
    (zb_all : PySem.W.nsIn K mainGlobals "all" = some none)
    (zb_bool : PySem.W.nsIn K mainGlobals "bool" = some none)
    (zb_enumerate : PySem.W.nsIn K mainGlobals "enumerate" = some none)
    (zb_int : PySem.W.nsIn K mainGlobals "int" = some none)
    (zb_isinstance : PySem.W.nsIn K mainGlobals "isinstance" = some none)
    (zb_len : PySem.W.nsIn K mainGlobals "len" = some none)
    (zb_list : PySem.W.nsIn K mainGlobals "list" = some none)
    (zb_range : PySem.W.nsIn K mainGlobals "range" = some none)
    (zb_set : PySem.W.nsIn K mainGlobals "set" = some none)
    (zb_sorted : PySem.W.nsIn K mainGlobals "sorted" = some none)
    (zb_str : PySem.W.nsIn K mainGlobals "str" = some none)
    (zb_sum : PySem.W.nsIn K mainGlobals "sum" = some none)
    (zb_tuple : PySem.W.nsIn K mainGlobals "tuple" = some none)
    (zc_MOST_LENGTH : PySem.W.nsIn K mainGlobals "MOST_LENGTH" = some (some (.int 400 tc_MOST_LENGTH)))
    (zc_MOST_SIDES : PySem.W.nsIn K mainGlobals "MOST_SIDES" = some (some (.int 12 tc_MOST_SIDES)))
    (zf_everyone : PySem.W.findIn K (.ref C) "everyone" = some none)
    (zf_rows : PySem.W.findIn K (.ref C) "rows" = some none)
    (zf_size : PySem.W.findIn K (.ref C) "size" = some none) :
    ∃ fd : FuncData, (∀ (s : Shared) (v : Value), BindsTo s fd ⟨[v], []⟩ [("script", v)]) ∧ ∀ base : Heap, K.In base → base.Ns mainGlobals mg → FnOk l.prog w K mg base CX0 6 fa fd ["script"] (spLaw K) := by
  have e := hfa.symm.trans (PySem.W.mg_of X G a17)
  cases e
  have T : Txt K mg C := ⟨PySem.W.mg_none_of X G zb_all, PySem.W.mg_none_of X G zb_bool, PySem.W.mg_none_of X G zb_enumerate, PySem.W.mg_none_of X G zb_int, PySem.W.mg_none_of X G zb_isinstance, PySem.W.mg_none_of X G zb_len, PySem.W.mg_none_of X G zb_list, PySem.W.mg_none_of X G zb_range, PySem.W.mg_none_of X G zb_set, PySem.W.mg_none_of X G zb_sorted, PySem.W.mg_none_of X G zb_str, PySem.W.mg_none_of X G zb_sum, PySem.W.mg_none_of X G zb_tuple, ⟨_, PySem.W.mg_of X G zc_MOST_LENGTH⟩, ⟨_, PySem.W.mg_of X G zc_MOST_SIDES⟩, ⟨⟨pg, hd, po, sa⟩, zf_everyone⟩, ⟨⟨pg, hd, po, sa⟩, zf_rows⟩, ⟨⟨pg, hd, po, sa⟩, zf_size⟩⟩
  have F0 := fun_mk (st := st_is_integer) l0 c0 k0
  have b0 := F0.binds (ps := ["value"]) fun _ _ _ _ _ _ us hl => match us, hl with | [_], _ => rfl
  have F1 := fun_mk (st := st_bit) l1 c1 k1
  have b1 := F1.binds (ps := ["number", "at"]) fun _ _ _ _ _ _ us hl => match us, hl with | [_, _], _ => rfl
  have F2 := fun_mk (st := st_members) l2 c2 k2
  have b2 := F2.binds (ps := ["number"]) fun _ _ _ _ _ _ us hl => match us, hl with | [_], _ => rfl
  have F3 := fun_mk (st := st_Table_init) l3 c3 k3
  have b3 := F3.binds (ps := ["self", "rows"]) fun _ _ _ _ _ _ us hl => match us, hl with | [_, _], _ => rfl
  have F4 := fun_mk (st := st_look_at_length) l4 c4 k4
  have b4 := F4.binds (ps := ["value"]) fun _ _ _ _ _ _ us hl => match us, hl with | [_], _ => rfl
  have F5 := fun_mk (st := st_walks_from) l5 c5 k5
  have b5 := F5.binds (ps := ["table", "length"]) fun _ _ _ _ _ _ us hl => match us, hl with | [_, _], _ => rfl
  have F6 := fun_mk (st := st_walks_between) l6 c6 k6
  have b6 := F6.binds (ps := ["table", "length"]) fun _ _ _ _ _ _ us hl => match us, hl with | [_, _], _ => rfl
  have F7 := fun_mk (st := st_closed_walks) l7 c7 k7
  have b7 := F7.binds (ps := ["table", "length"]) fun _ _ _ _ _ _ us hl => match us, hl with | [_, _], _ => rfl
  have F8 := fun_mk (st := st_by_walks) l8 c8 k8
  have b8 := F8.binds (ps := ["table", "length"]) fun _ _ _ _ _ _ us hl => match us, hl with | [_, _], _ => rfl
  have F9 := fun_mk (st := st_steady_from) l9 c9 k9
  have b9 := F9.binds (ps := ["table", "most"]) fun _ _ _ _ _ _ us hl => match us, hl with | [_, _], _ => rfl
  have F10 := fun_mk (st := st__law_draws) l10 c10 k10
  have b10 := F10.binds (ps := ["script"]) fun _ _ _ _ _ _ us hl => match us, hl with | [_], _ => rfl
  have F11 := fun_mk (st := st__law_draw) l11 c11 k11
  have b11 := F11.binds (ps := ["draws", "limit"]) fun _ _ _ _ _ _ us hl => match us, hl with | [_, _], _ => rfl
  have F12 := fun_mk (st := st__law_same) l12 c12 k12
  have b12 := F12.binds (ps := ["actual", "expected"]) fun _ _ _ _ _ _ us hl => match us, hl with | [_, _], _ => rfl
  have F13 := fun_mk (st := st__law_pick) l13 c13 k13
  have b13 := F13.binds (ps := ["draws", "row"]) fun _ _ _ _ _ _ us hl => match us, hl with | [_, _], _ => rfl
  have F14 := fun_mk (st := st__law_rows) l14 c14 k14
  have b14 := F14.binds (ps := ["draws", "size"]) fun _ _ _ _ _ _ us hl => match us, hl with | [_, _], _ => rfl
  have F15 := fun_mk (st := st__law_times) l15 c15 k15
  have b15 := F15.binds (ps := ["rows", "table"]) fun _ _ _ _ _ _ us hl => match us, hl with | [_, _], _ => rfl
  have F16 := fun_mk (st := st__law_lots) l16 c16 k16
  have b16 := F16.binds (ps := ["counts"]) fun _ _ _ _ _ _ us hl => match us, hl with | [_], _ => rfl
  have F17 := fun_mk (st := st_law) l17 c17 k17
  have b17 := F17.binds (ps := ["script"]) fun _ _ _ _ _ _ us hl => match us, hl with | [_], _ => rfl
  refine ⟨PySem.W.fnOf "law" "law" (defArgs st_law) (defBody st_law) (defScope st_law) .none kV17 dc17 pm17 an17 cd17 ct17, fun s v => .of_eq rfl, fun base _ _ => ?_⟩
  have K0 := ok_is_integer (P := l.prog) (w := w) (base := base) F0 T 
  let c_is_integer : Fc l.prog w K mg base "is_integer" ["value"] 1 (spP K 1 .z m_is_integer) := ⟨f0, _, K0, PySem.W.mg_of X G a0, k0, b0⟩
  have K1 := ok_bit (P := l.prog) (w := w) (base := base) F1 T 
  let c_bit : Fc l.prog w K mg base "bit" ["number", "at"] 1 (spP K 2 .z m_bit) := ⟨f1, _, K1, PySem.W.mg_of X G a1, k1, b1⟩
  have K2 := ok_members (P := l.prog) (w := w) (base := base) F2 T c_bit
  let c_members : Fc l.prog w K mg base "members" ["number"] 2 (spP K 1 .z m_members) := ⟨f2, _, K2, PySem.W.mg_of X G a2, k2, b2⟩
  have K3 := ok_Table_init (P := l.prog) (w := w) (base := base) F3 T c_is_integer c_bit
  let c_Table : Mc l.prog w K mg base "Table" C ["self", "rows"] 2 (spIO K 2 0 (.obj fun _ => .z) .z (m_Table_init C)) := ⟨f3, _, K3, ⟨mk, a3, i3, kc⟩, PySem.W.mg_of X G aC, b3⟩
  have K4 := ok_look_at_length (P := l.prog) (w := w) (base := base) F4 T c_is_integer
  let c_look_at_length : Fc l.prog w K mg base "look_at_length" ["value"] 2 (spP K 1 .z m_look_at_length) := ⟨f4, _, K4, PySem.W.mg_of X G a4, k4, b4⟩
  have K5 := ok_walks_from (P := l.prog) (w := w) (base := base) F5 T c_look_at_length c_members
  let c_walks_from : Fc l.prog w K mg base "walks_from" ["table", "length"] 3 (spP K 2 .z (m_walks_from C)) := ⟨f5, _, K5, PySem.W.mg_of X G a5, k5, b5⟩
  have K6 := ok_walks_between (P := l.prog) (w := w) (base := base) F6 T c_look_at_length c_members
  let c_walks_between : Fc l.prog w K mg base "walks_between" ["table", "length"] 3 (spP K 2 .z (m_walks_between C)) := ⟨f6, _, K6, PySem.W.mg_of X G a6, k6, b6⟩
  have K7 := ok_closed_walks (P := l.prog) (w := w) (base := base) F7 T c_walks_between
  let c_closed_walks : Fc l.prog w K mg base "closed_walks" ["table", "length"] 4 (spP K 2 .z (m_closed_walks C)) := ⟨f7, _, K7, PySem.W.mg_of X G a7, k7, b7⟩
  have K8 := ok_by_walks (P := l.prog) (w := w) (base := base) F8 T c_walks_from
  let c_by_walks : Fc l.prog w K mg base "by_walks" ["table", "length"] 4 (spP K 2 .z (m_by_walks C)) := ⟨f8, _, K8, PySem.W.mg_of X G a8, k8, b8⟩
  have K9 := ok_steady_from (P := l.prog) (w := w) (base := base) F9 T c_look_at_length c_by_walks
  let c_steady_from : Fc l.prog w K mg base "steady_from" ["table", "most"] 5 (spP K 2 .z (m_steady_from C)) := ⟨f9, _, K9, PySem.W.mg_of X G a9, k9, b9⟩
  have K10 := ok__law_draws (P := l.prog) (w := w) (base := base) F10 T 
  let c__law_draws : Fc l.prog w K mg base "_law_draws" ["script"] 1 (spP K 1 (.seq .z) m__law_draws) := ⟨f10, _, K10, PySem.W.mg_of X G a10, k10, b10⟩
  have K11 := ok__law_draw (P := l.prog) (w := w) (base := base) F11 T 
  let c__law_draw : Fc l.prog w K mg base "_law_draw" ["draws", "limit"] 1 (spIO K 2 0 (.seq .z) .z m__law_draw) := ⟨f11, _, K11, PySem.W.mg_of X G a11, k11, b11⟩
  have K12 := ok__law_same (P := l.prog) (w := w) (base := base) F12 T (PySem.W.mg_of X G a12) k12 b12
  let c__law_same : Fc l.prog w K mg base "_law_same" ["actual", "expected"] 3 (spP K 2 .z m__law_same) := ⟨f12, _, K12, PySem.W.mg_of X G a12, k12, b12⟩
  have K13 := ok__law_pick (P := l.prog) (w := w) (base := base) F13 T c__law_draw
  let c__law_pick : Fc l.prog w K mg base "_law_pick" ["draws", "row"] 2 (spIO K 2 0 (.seq .z) .z m__law_pick) := ⟨f13, _, K13, PySem.W.mg_of X G a13, k13, b13⟩
  have K14 := ok__law_rows (P := l.prog) (w := w) (base := base) F14 T c__law_draw c__law_pick
  let c__law_rows : Fc l.prog w K mg base "_law_rows" ["draws", "size"] 3 (spIO K 2 0 (.seq .z) .z m__law_rows) := ⟨f14, _, K14, PySem.W.mg_of X G a14, k14, b14⟩
  have K15 := ok__law_times (P := l.prog) (w := w) (base := base) F15 T 
  let c__law_times : Fc l.prog w K mg base "_law_times" ["rows", "table"] 1 (spP K 2 .z m__law_times) := ⟨f15, _, K15, PySem.W.mg_of X G a15, k15, b15⟩
  have K16 := ok__law_lots (P := l.prog) (w := w) (base := base) F16 T 
  let c__law_lots : Fc l.prog w K mg base "_law_lots" ["counts"] 1 (spP K 1 .z m__law_lots) := ⟨f16, _, K16, PySem.W.mg_of X G a16, k16, b16⟩
  have K17 := ok_law (P := l.prog) (w := w) (base := base) F17 T c__law_draws c__law_pick c__law_rows c_Table c__law_lots c__law_same c_walks_from c_walks_between c_closed_walks c_by_walks c__law_times c_steady_from
  exact ok_lawS K17
theorem walk {l : PySem.W.OpenLaw} {q : Program} {loose : List Str} {XP : (Str → Option Value) → Heap → Prop} {YP : World → Heap → Prop} {d : DefRec} {K : Params → PySem.W.Frag} (hn : l.most = some 63) (hdf : d.params.defaults = [])
    (hY : ∀ (w : World) (h : Heap), YP w h → (K w.params).In h)
    (F : ∀ (w : World) (mg : Str → Option Value) (fa : Addr) (h : Heap), (K w.params).In h → h.Ns mainGlobals mg → mg d.name = some (.ref fa) →
      ∃ fd : FuncData, (∀ (s : Shared) (u : Value), BindsTo s fd ⟨[u], []⟩ [("script", u)]) ∧ ∀ base : Heap, (K w.params).In base → base.Ns mainGlobals mg → FnOk l.prog w (K w.params) mg base CX0 6 fa fd ["script"] (spLaw (K w.params))) :
    PySem.W.WalkO q loose XP YP l.row.toRowW d [] (fun f vs => PySem.call f vs) :=
  L2.walk_of (n := 63) (k := 6) (x := "script") (CX := fun _ => CX0) (sp := fun w => spLaw (K w.params)) hn (by decide) hdf ⟨rfl, by decide, by decide⟩ hY F (fun _ _ a ns hl _ hS => ⟨a, ns, rfl, hS, hl, fun _ => rfl⟩) fun _ _ _ _ _ z => z
end K09

open PySem PySem.W PyProof.Rows in
set_option maxRecDepth 100000 in
set_option maxHeartbeats 0 in
theorem PySem.Challenge.cw_whobeatwhom_k09_whole_walks_of_four_hund_holds : PySem.Challenge.rw_whobeatwhom_k09_whole_walks_of_four_hund.Holds := by
  w_on; o_law; k_head; (case hw => w_witness2)
  k_fill
  refine K09.walk (l := PySem.Challenge.rw_whobeatwhom_k09_whole_walks_of_four_hund) rfl rfl (fun w h Y => PySem.W.kIn_of Y) ?F
  case F =>
    intro w mg fa h KX G hmg
    refine' K09.all_mk KX G hmg ?aC ?a0 ?l0 ?c0 ?k0 ?a1 ?l1 ?c1 ?k1 ?a2 ?l2 ?c2 ?k2 ?a3 ?i3 ?l3 ?c3 ?k3 ?a4 ?l4 ?c4 ?k4 ?a5 ?l5 ?c5 ?k5 ?a6 ?l6 ?c6 ?k6 ?a7 ?l7 ?c7 ?k7 ?a8 ?l8 ?c8 ?k8 ?a9 ?l9 ?c9 ?k9 ?a10 ?l10 ?c10 ?k10 ?a11 ?l11 ?c11 ?k11 ?a12 ?l12 ?c12 ?k12 ?a13 ?l13 ?c13 ?k13 ?a14 ?l14 ?c14 ?k14 ?a15 ?l15 ?c15 ?k15 ?a16 ?l16 ?c16 ?k16 ?a17 ?l17 ?c17 ?k17 ?pg ?hd ?po ?sa ?mk ?kc ?zb_all ?zb_bool ?zb_enumerate ?zb_int ?zb_isinstance ?zb_len ?zb_list ?zb_range ?zb_set ?zb_sorted ?zb_str ?zb_sum ?zb_tuple ?zc_MOST_LENGTH ?zc_MOST_SIDES ?zf_everyone ?zf_rows ?zf_size
    (case aC => k_is)
    (case a0 => k_is)
    (case l0 => k_is)
    (case c0 => k_is)
    (case k0 => k_is)
    (case a1 => k_is)
    (case l1 => k_is)
    (case c1 => k_is)
    (case k1 => k_is)
    (case a2 => k_is)
    (case l2 => k_is)
    (case c2 => k_is)
    (case k2 => k_is)
    (case a3 => k_is)
    (case i3 => k_is)
    (case l3 => k_is)
    (case c3 => k_is)
    (case k3 => k_is)
    (case a4 => k_is)
    (case l4 => k_is)
    (case c4 => k_is)
    (case k4 => k_is)
    (case a5 => k_is)
    (case l5 => k_is)
    (case c5 => k_is)
    (case k5 => k_is)
    (case a6 => k_is)
    (case l6 => k_is)
    (case c6 => k_is)
    (case k6 => k_is)
    (case a7 => k_is)
    (case l7 => k_is)
    (case c7 => k_is)
    (case k7 => k_is)
    (case a8 => k_is)
    (case l8 => k_is)
    (case c8 => k_is)
    (case k8 => k_is)
    (case a9 => k_is)
    (case l9 => k_is)
    (case c9 => k_is)
    (case k9 => k_is)
    (case a10 => k_is)
    (case l10 => k_is)
    (case c10 => k_is)
    (case k10 => k_is)
    (case a11 => k_is)
    (case l11 => k_is)
    (case c11 => k_is)
    (case k11 => k_is)
    (case a12 => k_is)
    (case l12 => k_is)
    (case c12 => k_is)
    (case k12 => k_is)
    (case a13 => k_is)
    (case l13 => k_is)
    (case c13 => k_is)
    (case k13 => k_is)
    (case a14 => k_is)
    (case l14 => k_is)
    (case c14 => k_is)
    (case k14 => k_is)
    (case a15 => k_is)
    (case l15 => k_is)
    (case c15 => k_is)
    (case k15 => k_is)
    (case a16 => k_is)
    (case l16 => k_is)
    (case c16 => k_is)
    (case k16 => k_is)
    (case a17 => k_is)
    (case l17 => k_is)
    (case c17 => k_is)
    (case k17 => k_is)
    (case pg => k_is)
    (case hd => k_is)
    (case po => k_is)
    (case sa => k_is)
    (case mk => k_is)
    (case kc => k_is)
    (case zb_all => k_is)
    (case zb_bool => k_is)
    (case zb_enumerate => k_is)
    (case zb_int => k_is)
    (case zb_isinstance => k_is)
    (case zb_len => k_is)
    (case zb_list => k_is)
    (case zb_range => k_is)
    (case zb_set => k_is)
    (case zb_sorted => k_is)
    (case zb_str => k_is)
    (case zb_sum => k_is)
    (case zb_tuple => k_is)
    (case zc_MOST_LENGTH => k_is)
    (case zc_MOST_SIDES => k_is)
    (case zf_everyone => k_is)
    (case zf_rows => k_is)
    (case zf_size => k_is)
#print axioms PySem.Challenge.cw_whobeatwhom_k09_whole_walks_of_four_hund_holds

