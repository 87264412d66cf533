import PyProof.Rows.All
import Wide.All
import OpenK.AllK
import Wide.FinOn
import HandS.ForMost
import HandS.Walk
import HandS.IsInst
import HandS.TupAny
import HandS.SortInts
import HandS.Style
import HandS.DictComp
import HandS.More
import KE.GoesEnum
import HandS.SetFor
import HandS.Strs
import HandS.Zip
import HandS.Conv
import KE.KTupSum
import PySem.Challenge.RW_whobeatwhom_k06_whole_seasons_of_twelve
import HandS.HeadHook1
set_option Elab.async false
set_option linter.all false
set_option maxRecDepth 100000
/-! VLa: Python data as trees, what stands for them in the abstract heap, ownership, the store. -/
namespace VL
open PySem L2

/-- data as a tree -/
inductive D where
  | non | bl (b : Bool) | int (i : Int) | str (x : Str)
  | tup (ds : List D) | lst (ds : List D)
  | dicK (ks : List Key) (ds : List D) | dicT (ks : List (List Key)) (ds : List D)
  | obj (C : Addr) (ns : List Str) (ds : List D)
  | fn (a : Addr)
  | lstK (ds : List D)

mutual
/-- v stands for the data in the frozen heap F -/
def Rp (K : PySem.W.Frag) (F : Hp) : D → V → Prop
  | .non, v => v = .non
  | .bl b, v => v = .bl b
  | .int i, v => v = .int i
  | .str x, v => v = .str x
  | .tup ds, v => ∃ a vs, v = .ref a ∧ SqT K F a vs ∧ RpL K F ds vs
  | .lst ds, v => ∃ a vs, v = .ref a ∧ F a = some (.lst vs) ∧ RpL K F ds vs
  | .lstK ds, v => ∃ a vs, v = .ref a ∧ SqL K F a vs ∧ RpL K F ds vs
  | .dicK ks ds, v => ∃ a vs, v = .ref a ∧ Rd F a (.dK (ks.zip vs)) ∧ ks.length = ds.length ∧ RpL K F ds vs
  | .dicT ks ds, v => ∃ a vs, v = .ref a ∧ Rd F a (.dT (ks.zip vs)) ∧ ks.length = ds.length ∧ RpL K F ds vs
  | .obj C ns ds, v => ∃ a dx vs, v = .ref a ∧ F a = some (.ins C dx (ns.zip vs)) ∧ ns.length = ds.length ∧ RpL K F ds vs
  | .fn a, v => v = .ref a
def RpL (K : PySem.W.Frag) (F : Hp) : List D → List V → Prop
  | [], vs => vs = []
  | d :: ds, vs => ∃ v r, vs = v :: r ∧ Rp K F d v ∧ RpL K F ds r
end

section
variable {K : PySem.W.Frag} {F F' : Hp}
theorem Same.rd {a : Addr} {u : HO} (e : Same F F') (h : Rd F a u) : Rd F' a u := by
  rcases h with h | ⟨o, h⟩
  · exact .inl (e _ _ h)
  · exact .inr ⟨o, e _ _ h⟩
theorem Same.tupT {a : Addr} {xs : List V} (e : Same F F') (h : SqT K F a xs) : SqT K F' a xs := by
  rcases h with (h | ⟨o, h⟩) | h
  · exact .inl (.inl (e _ _ h))
  · exact .inl (.inr ⟨o, e _ _ h⟩)
  · exact .inr h
mutual
theorem Rp.mono (e : Same F F') : ∀ (d : D) (v : V), Rp K F d v → Rp K F' d v
  | .non, _, h => h
  | .bl _, _, h => h
  | .int _, _, h => h
  | .str _, _, h => h
  | .tup ds, v, h => by
    obtain ⟨a, vs, e1, h1, h2⟩ := (show ∃ a vs, v = .ref a ∧ SqT K F a vs ∧ RpL K F ds vs by simpa only [Rp] using h)
    simp only [Rp]
    exact ⟨a, vs, e1, Same.tupT e h1, RpL.mono e ds vs h2⟩
  | .lst ds, v, h => by
    obtain ⟨a, vs, e1, h1, h2⟩ := (show ∃ a vs, v = .ref a ∧ F a = some (.lst vs) ∧ RpL K F ds vs by simpa only [Rp] using h)
    simp only [Rp]
    exact ⟨a, vs, e1, e _ _ h1, RpL.mono e ds vs h2⟩
  | .lstK ds, v, h => by
    obtain ⟨a, vs, e1, h1, h2⟩ := (show ∃ a vs, v = .ref a ∧ SqL K F a vs ∧ RpL K F ds vs by simpa only [Rp] using h)
    simp only [Rp]
    exact ⟨a, vs, e1, Same.seq e h1, RpL.mono e ds vs h2⟩
  | .dicK ks ds, v, h => by
    simp only [Rp] at h ⊢
    obtain ⟨a, vs, e1, h1, h3, h2⟩ := h
    exact ⟨a, vs, e1, Same.rd e h1, h3, RpL.mono e ds vs h2⟩
  | .dicT ks ds, v, h => by
    simp only [Rp] at h ⊢
    obtain ⟨a, vs, e1, h1, h3, h2⟩ := h
    exact ⟨a, vs, e1, Same.rd e h1, h3, RpL.mono e ds vs h2⟩
  | .obj C ns ds, v, h => by
    simp only [Rp] at h ⊢
    obtain ⟨a, dx, vs, e1, h1, h3, h2⟩ := h
    exact ⟨a, dx, vs, e1, e _ _ h1, h3, RpL.mono e ds vs h2⟩
  | .fn _, _, h => h
theorem RpL.mono (e : Same F F') : ∀ (ds : List D) (vs : List V), RpL K F ds vs → RpL K F' ds vs
  | [], _, h => h
  | d :: ds, vs, h => by
    simp only [RpL] at h ⊢
    obtain ⟨v, r, e1, h1, h2⟩ := h
    exact ⟨v, r, e1, Rp.mono e d v h1, RpL.mono e ds r h2⟩
end
theorem RpL.nil : RpL K F [] [] := rfl
theorem RpL.cons {d : D} {ds : List D} {v : V} {vs : List V} (h : Rp K F d v) (t : RpL K F ds vs) : RpL K F (d :: ds) (v :: vs) := by
  simp only [RpL]; exact ⟨v, vs, rfl, h, t⟩
theorem RpL.nil_inv {vs : List V} (h : RpL K F [] vs) : vs = [] := h
theorem RpL.cons_inv {d : D} {ds : List D} {vs : List V} (h : RpL K F (d :: ds) vs) : ∃ v r, vs = v :: r ∧ Rp K F d v ∧ RpL K F ds r := by
  simpa only [RpL] using h
theorem RpL.length : ∀ {ds : List D} {vs : List V}, RpL K F ds vs → ds.length = vs.length
  | [], vs, h => by rw [RpL.nil_inv h]; rfl
  | d :: ds, vs, h => by
    obtain ⟨v, r, rfl, _, t⟩ := RpL.cons_inv h
    simp [RpL.length t]
theorem RpL.get : ∀ {ds : List D} {vs : List V} {i : Nat} {d : D}, RpL K F ds vs → ds[i]? = some d → ∃ v, vs[i]? = some v ∧ Rp K F d v
  | [], _, _, _, _, e => by simp at e
  | d :: ds, vs, 0, x, h, e => by
    obtain ⟨v, r, rfl, h1, _⟩ := RpL.cons_inv h
    simp at e; subst e; exact ⟨v, rfl, h1⟩
  | d :: ds, vs, i + 1, x, h, e => by
    obtain ⟨v, r, rfl, _, t⟩ := RpL.cons_inv h
    obtain ⟨u, e1, e2⟩ := RpL.get (i := i) t (by simpa using e)
    exact ⟨u, by simpa using e1, e2⟩
theorem RpL.getV : ∀ {ds : List D} {vs : List V} {i : Nat} {v : V}, RpL K F ds vs → vs[i]? = some v → ∃ d, ds[i]? = some d ∧ Rp K F d v
  | [], vs, i, v, h, e => by rw [RpL.nil_inv h] at e; simp at e
  | d :: ds, vs, 0, x, h, e => by
    obtain ⟨v, r, rfl, h1, _⟩ := RpL.cons_inv h
    simp at e; subst e; exact ⟨d, rfl, h1⟩
  | d :: ds, vs, i + 1, x, h, e => by
    obtain ⟨v, r, rfl, _, t⟩ := RpL.cons_inv h
    obtain ⟨u, e1, e2⟩ := RpL.getV (i := i) t (by simpa using e)
    exact ⟨u, by simpa using e1, e2⟩
theorem RpL.append : ∀ {ds es : List D} {vs ws : List V}, RpL K F ds vs → RpL K F es ws → RpL K F (ds ++ es) (vs ++ ws)
  | [], es, vs, ws, h, t => by rw [RpL.nil_inv h]; exact t
  | d :: ds, es, vs, ws, h, t => by
    obtain ⟨v, r, rfl, h1, h2⟩ := RpL.cons_inv h
    exact RpL.cons h1 (RpL.append h2 t)
theorem RpL.of_get : ∀ {ds : List D} {vs : List V}, ds.length = vs.length → (∀ (i : Nat) (d : D) (v : V), ds[i]? = some d → vs[i]? = some v → Rp K F d v) → RpL K F ds vs
  | [], [], _, _ => RpL.nil
  | [], _ :: _, h, _ => by simp at h
  | _ :: _, [], h, _ => by simp at h
  | d :: ds, v :: vs, h, k => RpL.cons (k 0 d v rfl rfl) (RpL.of_get (by simpa using h) fun i x y e1 e2 => k (i + 1) x y (by simpa using e1) (by simpa using e2))
theorem RpL.get2 {ds : List D} {vs : List V} (h : RpL K F ds vs) : ∀ (i : Nat) (d : D) (v : V), ds[i]? = some d → vs[i]? = some v → Rp K F d v := fun i d v e1 e2 => by
  obtain ⟨u, e3, r⟩ := RpL.get h e1
  rw [e2] at e3; cases e3; exact r
theorem RpL.set {ds : List D} {vs : List V} {d : D} {v : V} (i : Nat) (h : RpL K F ds vs) (r : Rp K F d v) : RpL K F (ds.set i d) (vs.set i v) := by
  refine RpL.of_get (by simp [RpL.length h]) fun j x y e1 e2 => ?_
  have hl := RpL.length h
  by_cases hj : i = j
  · subst hj
    by_cases hi : i < ds.length
    · rw [List.getElem?_set_self hi] at e1; rw [List.getElem?_set_self (by omega)] at e2
      cases e1; cases e2; exact r
    · rw [List.getElem?_eq_none (by simpa using hi)] at e1; cases e1
  · rw [List.getElem?_set_ne hj] at e1 e2
    exact RpL.get2 h j x y e1 e2
theorem RpL.take {ds : List D} {vs : List V} (n : Nat) (h : RpL K F ds vs) : RpL K F (ds.take n) (vs.take n) := by
  have hl := RpL.length h
  refine RpL.of_get (by simp [hl]) fun j x y e1 e2 => ?_
  rw [List.getElem?_take] at e1 e2
  split at e1
  · rename_i hj; rw [if_pos hj] at e2; exact RpL.get2 h j x y e1 e2
  · cases e1
theorem RpL.drop {ds : List D} {vs : List V} (n : Nat) (h : RpL K F ds vs) : RpL K F (ds.drop n) (vs.drop n) := by
  have hl := RpL.length h
  refine RpL.of_get (by simp [hl]) fun j x y e1 e2 => ?_
  rw [List.getElem?_drop] at e1 e2
  exact RpL.get2 h _ x y e1 e2
theorem RpL.snoc {ds : List D} {vs : List V} {d : D} {v : V} (h : RpL K F ds vs) (r : Rp K F d v) : RpL K F (ds ++ [d]) (vs ++ [v]) := h.append (RpL.cons r RpL.nil)
theorem RpL.reverse {ds : List D} {vs : List V} (h : RpL K F ds vs) : RpL K F ds.reverse vs.reverse := by
  have hl := RpL.length h
  refine RpL.of_get (by simp [hl]) fun j x y e1 e2 => ?_
  have hj : j < ds.length := by
    have := (List.getElem?_eq_some_iff.mp e1).1
    simpa using this
  rw [List.getElem?_reverse hj] at e1
  rw [List.getElem?_reverse (by omega)] at e2
  rw [← hl] at e2
  exact RpL.get2 h _ x y e1 e2
/-- ints -/
theorem RpL.ints_inv : ∀ {ns : List Int} {vs : List V}, RpL K F (ns.map D.int) vs → vs = ns.map V.int
  | [], vs, h => RpL.nil_inv h
  | n :: ns, vs, h => by
    obtain ⟨v, r, rfl, h1, h2⟩ := RpL.cons_inv h
    have h1 : v = .int n := by simpa only [Rp] using h1
    rw [h1, RpL.ints_inv h2]; rfl
theorem RpL.ints : ∀ (ns : List Int), RpL K F (ns.map D.int) (ns.map V.int)
  | [] => RpL.nil
  | n :: ns => RpL.cons (by simp only [Rp]) (RpL.ints ns)
theorem RpL.bls_inv : ∀ {ns : List Bool} {vs : List V}, RpL K F (ns.map D.bl) vs → vs = ns.map V.bl
  | [], vs, h => RpL.nil_inv h
  | n :: ns, vs, h => by
    obtain ⟨v, r, rfl, h1, h2⟩ := RpL.cons_inv h
    have h1 : v = .bl n := by simpa only [Rp] using h1
    rw [h1, RpL.bls_inv h2]; rfl
end

/-! ### ownership -/
/-- the shape of what is owned: z: frozen; seq s: an owned list or dict of such; obj f: an owned instance, its attributes by name -/
inductive Sh where
  | z | seq (s : Sh) | obj (f : Str → Sh)

def OwL (R : D → V → List Addr → Prop) : List D → List V → List Addr → Prop
  | [], vs, fp => vs = [] ∧ fp = []
  | d :: ds, vs, fp => ∃ v r f1 f2, vs = v :: r ∧ R d v f1 ∧ OwL R ds r f2 ∧ fp = f1 ++ f2
def OwF (R : Str → D → V → List Addr → Prop) : List Str → List D → List V → List Addr → Prop
  | [], ds, vs, fp => ds = [] ∧ vs = [] ∧ fp = []
  | n :: ns, ds, vs, fp => ∃ d dr v r f1 f2, ds = d :: dr ∧ vs = v :: r ∧ R n d v f1 ∧ OwF R ns dr r f2 ∧ fp = f1 ++ f2
def SeqOw (K : PySem.W.Frag) (H F : Hp) (R : D → V → List Addr → Prop) : D → V → List Addr → Prop
  | .lst ds, v, fp => ∃ a vs fp', v = .ref a ∧ H a = some (.lst vs) ∧ OwL R ds vs fp' ∧ fp = a :: fp'
  | .dicK ks ds, v, fp => ∃ a vs fp', v = .ref a ∧ H a = some (.dK (ks.zip vs)) ∧ ks.length = ds.length ∧ OwL R ds vs fp' ∧ fp = a :: fp'
  | .dicT ks ds, v, fp => ∃ a vs fp', v = .ref a ∧ H a = some (.dT (ks.zip vs)) ∧ ks.length = ds.length ∧ OwL R ds vs fp' ∧ fp = a :: fp'
  | d, v, fp => Rp K F d v ∧ fp = []
def ObjOw (K : PySem.W.Frag) (H F : Hp) (R : Str → D → V → List Addr → Prop) : D → V → List Addr → Prop
  | .obj C ns ds, v, fp => ∃ a dx vs fp', v = .ref a ∧ H a = some (.ins C dx (ns.zip vs)) ∧ OwF R ns ds vs fp' ∧ fp = a :: fp'
  | d, v, fp => Rp K F d v ∧ fp = []
def Ow (K : PySem.W.Frag) (H F : Hp) : Sh → D → V → List Addr → Prop
  | .z => fun d v fp => Rp K F d v ∧ fp = []
  | .seq s => SeqOw K H F (Ow K H F s)
  | .obj f => ObjOw K H F (fun n => Ow K H F (f n))

section
variable {K : PySem.W.Frag} {H H' F F' : Hp}
theorem OwL.mono {R R' : D → V → List Addr → Prop} : ∀ {ds : List D} {vs : List V} {fp : List Addr}, OwL R ds vs fp → (∀ d v f, (∀ a ∈ f, a ∈ fp) → R d v f → R' d v f) → OwL R' ds vs fp
  | [], _, _, h, _ => h
  | d :: ds, vs, fp, h, k => by
    obtain ⟨v, r, f1, f2, rfl, h1, h2, rfl⟩ := h
    exact ⟨v, r, f1, f2, rfl, k _ _ _ (fun a m => List.mem_append_left _ m) h1, OwL.mono h2 (fun d v f m q => k d v f (fun a z => List.mem_append_right _ (m a z)) q), rfl⟩
theorem OwF.mono {R R' : Str → D → V → List Addr → Prop} : ∀ {ns : List Str} {ds : List D} {vs : List V} {fp : List Addr}, OwF R ns ds vs fp → (∀ n d v f, (∀ a ∈ f, a ∈ fp) → R n d v f → R' n d v f) → OwF R' ns ds vs fp
  | [], _, _, _, h, _ => h
  | n :: ns, ds, vs, fp, h, k => by
    obtain ⟨d, dr, v, r, f1, f2, rfl, rfl, h1, h2, rfl⟩ := h
    exact ⟨d, dr, v, r, f1, f2, rfl, rfl, k _ _ _ _ (fun a m => List.mem_append_left _ m) h1, OwF.mono h2 (fun n d v f m q => k n d v f (fun a z => List.mem_append_right _ (m a z)) q), rfl⟩
theorem OwL.length {R : D → V → List Addr → Prop} : ∀ {ds : List D} {vs : List V} {fp : List Addr}, OwL R ds vs fp → ds.length = vs.length
  | [], _, _, h => by rw [h.1]; rfl
  | d :: ds, vs, fp, h => by
    obtain ⟨v, r, f1, f2, rfl, _, h2, _⟩ := h
    simp [OwL.length h2]
theorem OwF.length {R : Str → D → V → List Addr → Prop} : ∀ {ns : List Str} {ds : List D} {vs : List V} {fp : List Addr}, OwF R ns ds vs fp → ns.length = ds.length ∧ ns.length = vs.length
  | [], _, _, _, h => by rw [h.1, h.2.1]; exact ⟨rfl, rfl⟩
  | n :: ns, ds, vs, fp, h => by
    obtain ⟨d, dr, v, r, f1, f2, rfl, rfl, _, h2, _⟩ := h
    have := OwF.length h2
    simp [this.1, ← this.2]
/-- the owned part is as it was, the frozen part has grown -/
theorem Ow.mono (e : Same F F') : ∀ {s : Sh} {d : D} {v : V} {fp : List Addr}, Ow K H F s d v fp → (∀ a ∈ fp, ∀ o, H a = some o → H' a = some o) → Ow K H' F' s d v fp := by
  intro s
  induction s with
  | z => intro d v fp h _; exact ⟨Rp.mono e _ _ h.1, h.2⟩
  | seq s ih =>
    intro d v fp h k
    cases d with
    | lst ds =>
      obtain ⟨a, vs, fp', e1, e2, h, rfl⟩ := h
      exact ⟨a, vs, fp', e1, k a List.mem_cons_self _ e2, OwL.mono h (fun d v f m q => ih q fun b hb => k b (List.mem_cons_of_mem _ (m b hb))), rfl⟩
    | dicK ks ds =>
      obtain ⟨a, vs, fp', e1, e2, e3, h, rfl⟩ := h
      exact ⟨a, vs, fp', e1, k a List.mem_cons_self _ e2, e3, OwL.mono h (fun d v f m q => ih q fun b hb => k b (List.mem_cons_of_mem _ (m b hb))), rfl⟩
    | dicT ks ds =>
      obtain ⟨a, vs, fp', e1, e2, e3, h, rfl⟩ := h
      exact ⟨a, vs, fp', e1, k a List.mem_cons_self _ e2, e3, OwL.mono h (fun d v f m q => ih q fun b hb => k b (List.mem_cons_of_mem _ (m b hb))), rfl⟩
    | _ => exact ⟨Rp.mono e _ _ h.1, h.2⟩
  | obj f ih =>
    intro d v fp h k
    cases d with
    | obj C ns ds =>
      obtain ⟨a, dx, vs, fp', e1, e2, h, rfl⟩ := h
      exact ⟨a, dx, vs, fp', e1, k a List.mem_cons_self _ e2, OwF.mono h (fun n d v f m q => ih n q fun b hb => k b (List.mem_cons_of_mem _ (m b hb))), rfl⟩
    | _ => exact ⟨Rp.mono e _ _ h.1, h.2⟩
theorem OwL.live {R : D → V → List Addr → Prop} (k : ∀ d v f, R d v f → ∀ a ∈ f, ∃ o, H a = some o) : ∀ {ds : List D} {vs : List V} {fp : List Addr}, OwL R ds vs fp → ∀ a ∈ fp, ∃ o, H a = some o
  | [], _, _, h, a, m => by rw [h.2] at m; cases m
  | d :: ds, vs, fp, h, a, m => by
    obtain ⟨v, r, f1, f2, rfl, h1, h2, rfl⟩ := h
    exact (List.mem_append.mp m).elim (k _ _ _ h1 a) (OwL.live k h2 a)
theorem OwF.live {R : Str → D → V → List Addr → Prop} (k : ∀ n d v f, R n d v f → ∀ a ∈ f, ∃ o, H a = some o) : ∀ {ns : List Str} {ds : List D} {vs : List V} {fp : List Addr}, OwF R ns ds vs fp → ∀ a ∈ fp, ∃ o, H a = some o
  | [], _, _, _, h, a, m => by rw [h.2.2] at m; cases m
  | n :: ns, ds, vs, fp, h, a, m => by
    obtain ⟨d, dr, v, r, f1, f2, rfl, rfl, h1, h2, rfl⟩ := h
    exact (List.mem_append.mp m).elim (k _ _ _ _ h1 a) (OwF.live k h2 a)
theorem Ow.live : ∀ {s : Sh} {d : D} {v : V} {fp : List Addr}, Ow K H F s d v fp → ∀ a ∈ fp, ∃ o, H a = some o := by
  intro s
  induction s with
  | z => intro d v fp h a m; rw [h.2] at m; cases m
  | seq s ih =>
    intro d v fp h a m
    cases d with
    | lst ds =>
      obtain ⟨b, vs, fp', e1, e2, h, rfl⟩ := h
      rcases List.mem_cons.mp m with rfl | m
      · exact ⟨_, e2⟩
      · exact OwL.live (fun d v f q => ih q) h a m
    | dicK ks ds =>
      obtain ⟨b, vs, fp', e1, e2, e3, h, rfl⟩ := h
      rcases List.mem_cons.mp m with rfl | m
      · exact ⟨_, e2⟩
      · exact OwL.live (fun d v f q => ih q) h a m
    | dicT ks ds =>
      obtain ⟨b, vs, fp', e1, e2, e3, h, rfl⟩ := h
      rcases List.mem_cons.mp m with rfl | m
      · exact ⟨_, e2⟩
      · exact OwL.live (fun d v f q => ih q) h a m
    | _ => rw [h.2] at m; cases m
  | obj f ih =>
    intro d v fp h a m
    cases d with
    | obj C ns ds =>
      obtain ⟨b, dx, vs, fp', e1, e2, h, rfl⟩ := h
      rcases List.mem_cons.mp m with rfl | m
      · exact ⟨_, e2⟩
      · exact OwF.live (fun n d v f q => ih n q) h a m
    | _ => rw [h.2] at m; cases m
theorem OwL.rp {R : D → V → List Addr → Prop} : ∀ {ds : List D} {vs : List V} {fp : List Addr}, OwL R ds vs fp → (∀ d v f, (∀ a ∈ f, a ∈ fp) → R d v f → Rp K F d v) → RpL K F ds vs
  | [], _, _, h, _ => h.1
  | d :: ds, vs, fp, h, k => by
    obtain ⟨v, r, f1, f2, rfl, h1, h2, rfl⟩ := h
    exact RpL.cons (k _ _ _ (fun a m => List.mem_append_left _ m) h1) (OwL.rp h2 fun d v f m q => k d v f (fun a z => List.mem_append_right _ (m a z)) q)
theorem OwF.rp {R : Str → D → V → List Addr → Prop} : ∀ {ns : List Str} {ds : List D} {vs : List V} {fp : List Addr}, OwF R ns ds vs fp → (∀ n d v f, (∀ a ∈ f, a ∈ fp) → R n d v f → Rp K F d v) → RpL K F ds vs
  | [], _, _, _, h, _ => by rw [h.1, h.2.1]; exact RpL.nil
  | n :: ns, ds, vs, fp, h, k => by
    obtain ⟨d, dr, v, r, f1, f2, rfl, rfl, h1, h2, rfl⟩ := h
    exact RpL.cons (k _ _ _ _ (fun a m => List.mem_append_left _ m) h1) (OwF.rp h2 fun n d v f m q => k n d v f (fun a z => List.mem_append_right _ (m a z)) q)
/-- in a heap that holds the frozen part and the owned objects the data is read whole -/
theorem Ow.rp (e : Same F F') : ∀ {s : Sh} {d : D} {v : V} {fp : List Addr}, Ow K H F s d v fp → (∀ a ∈ fp, ∀ o, H a = some o → F' a = some o) → Rp K F' d v := by
  intro s
  induction s with
  | z => intro d v fp h _; exact Rp.mono e _ _ h.1
  | seq s ih =>
    intro d v fp h k
    cases d with
    | lst ds =>
      obtain ⟨a, vs, fp', e1, e2, h, rfl⟩ := h
      simp only [Rp]
      exact ⟨a, vs, e1, k a List.mem_cons_self _ e2, OwL.rp h fun d v f m q => ih q fun b hb => k b (List.mem_cons_of_mem _ (m b hb))⟩
    | dicK ks ds =>
      obtain ⟨a, vs, fp', e1, e2, e3, h, rfl⟩ := h
      simp only [Rp]
      exact ⟨a, vs, e1, .inl (k a List.mem_cons_self _ e2), e3, OwL.rp h fun d v f m q => ih q fun b hb => k b (List.mem_cons_of_mem _ (m b hb))⟩
    | dicT ks ds =>
      obtain ⟨a, vs, fp', e1, e2, e3, h, rfl⟩ := h
      simp only [Rp]
      exact ⟨a, vs, e1, .inl (k a List.mem_cons_self _ e2), e3, OwL.rp h fun d v f m q => ih q fun b hb => k b (List.mem_cons_of_mem _ (m b hb))⟩
    | _ => exact Rp.mono e _ _ h.1
  | obj f ih =>
    intro d v fp h k
    cases d with
    | obj C ns ds =>
      obtain ⟨a, dx, vs, fp', e1, e2, h, rfl⟩ := h
      have hl := (OwF.length h).1
      simp only [Rp]
      exact ⟨a, dx, vs, e1, k a List.mem_cons_self _ e2, hl, OwF.rp h fun n d v f m q => ih n q fun b hb => k b (List.mem_cons_of_mem _ (m b hb))⟩
    | _ => exact Rp.mono e _ _ h.1
end

/-! ### the store -/
abbrev Slot := Option (Sh × D)
abbrev Sto := List Slot
structure RelW (K : PySem.W.Frag) (G : Hp) (ρ : Sto) (σ : St) (H F : Hp) (fps : Nat → List Addr) : Prop where
  slot : ∀ i s d, ρ[i]? = some (some (s, d)) → ∃ v, σ[i]? = some (some v) ∧ Ow K H F s d v (fps i)
  nd : ∀ i, (fps i).Nodup
  dis : ∀ i j a, a ∈ fps i → a ∈ fps j → i = j
  out : ∀ i a, a ∈ fps i → F a = none ∧ G a = none ∧ ∃ o, H a = some o
  len : ρ.length = σ.length
  sub : Same F H
  gsub : Same G H
  fg : ∀ a o, F a = some o → G a = none
/-- ρ tells the slots σ over the heap H: F the frozen part, G what must stay -/
def Rel (K : PySem.W.Frag) (G : Hp) (ρ : Sto) (σ : St) (H F : Hp) : Prop := ∃ fps, RelW K G ρ σ H F fps

section
variable {K : PySem.W.Frag} {G ρ σ H H' F F'}
theorem Rel.sub (h : Rel K G ρ σ H F) : Same F H := let ⟨_, w⟩ := h; w.sub
theorem Rel.gsub (h : Rel K G ρ σ H F) : Same G H := let ⟨_, w⟩ := h; w.gsub
theorem Rel.len (h : Rel K G ρ σ H F) : ρ.length = σ.length := let ⟨_, w⟩ := h; w.len
theorem Same.upd {H : Hp} {p : Addr} {o : HO} (h : H p = none) : Same H (upd H p o) := fun b u e => by rw [upd_ne (ne_of_none e h)]; exact e
/-- new objects that nobody tells -/
theorem Rel.grow (h : Rel K G ρ σ H F) (e : Same H H') : Rel K G ρ σ H' F := by
  obtain ⟨fps, w⟩ := h
  refine ⟨fps, fun i s d q => ?_, w.nd, w.dis, fun i a m => ?_, w.len, fun a o q => e _ _ (w.sub _ _ q), fun a o q => e _ _ (w.gsub _ _ q), w.fg⟩
  · obtain ⟨v, q1, q2⟩ := w.slot i s d q
    exact ⟨v, q1, q2.mono (Same.refl _) fun a _ o q => e a o q⟩
  · obtain ⟨q1, q2, o, q3⟩ := w.out i a m
    exact ⟨q1, q2, o, e _ _ q3⟩
/-- a new frozen object -/
theorem Rel.put {p : Addr} {o : HO} (h : Rel K G ρ σ H F) (hp : H p = none) : Rel K G ρ σ (L2.upd H p o) (L2.upd F p o) := by
  obtain ⟨fps, w⟩ := h
  have hF : F p = none := Same.free w.sub hp
  have hG : G p = none := Same.free w.gsub hp
  have ne : ∀ i a, a ∈ fps i → a ≠ p := fun i a m z => by
    obtain ⟨_, _, o, q⟩ := w.out i a m
    rw [z, hp] at q; cases q
  refine ⟨fps, fun i s d q => ?_, w.nd, w.dis, fun i a m => ?_, w.len, fun a u q => ?_, fun a u q => ?_, fun a u q => ?_⟩
  · obtain ⟨v, q1, q2⟩ := w.slot i s d q
    exact ⟨v, q1, q2.mono (Same.upd hF) fun a m o q => by rw [upd_ne (ne i a m)]; exact q⟩
  · obtain ⟨q1, q2, o, q3⟩ := w.out i a m
    exact ⟨by rw [upd_ne (ne i a m)]; exact q1, q2, o, by rw [upd_ne (ne i a m)]; exact q3⟩
  · by_cases z : a = p
    · subst z; rw [upd_same] at q ⊢; exact q
    · rw [upd_ne z] at q ⊢; exact w.sub _ _ q
  · exact Same.upd hp a u (w.gsub a u q)
  · by_cases z : a = p
    · rw [z]; exact hG
    · rw [upd_ne z] at q; exact w.fg a u q
theorem Rel.get {i : Nat} {s : Sh} {d : D} (h : Rel K G ρ σ H F) (e : ρ[i]? = some (some (s, d))) : ∃ v fp, σ[i]? = some (some v) ∧ Ow K H F s d v fp := by
  obtain ⟨fps, w⟩ := h
  obtain ⟨v, q1, q2⟩ := w.slot i s d e
  exact ⟨v, _, q1, q2⟩
theorem Rel.getz {i : Nat} {d : D} (h : Rel K G ρ σ H F) (e : ρ[i]? = some (some (.z, d))) : ∃ v, σ[i]? = some (some v) ∧ Rp K F d v := by
  obtain ⟨v, fp, q1, q2⟩ := h.get e
  exact ⟨v, q1, q2.1⟩
theorem Rel.get0 {s : Sh} {d : D} {v : V} (h : Rel K G (some (s, d) :: ρ) (some v :: σ) H F) : ∃ fp, Ow K H F s d v fp := by
  obtain ⟨u, fp, q1, q2⟩ := h.get (i := 0) rfl
  simp at q1; subst q1; exact ⟨fp, q2⟩
/-- the footprints with one more ahead -/
def shiftF (f0 : List Addr) (fps : Nat → List Addr) : Nat → List Addr
  | 0 => f0
  | i + 1 => fps i
theorem Rel.addz {d : D} {v : V} (h : Rel K G ρ σ H F) (r : Rp K F d v) : Rel K G (some (.z, d) :: ρ) (some v :: σ) H F := by
  obtain ⟨fps, w⟩ := h
  refine ⟨shiftF [] fps, fun i s d' q => ?_, fun i => ?_, fun i j a m1 m2 => ?_, fun i a m => ?_, by simp [w.len], w.sub, w.gsub, w.fg⟩
  · cases i with
    | zero => simp at q; obtain ⟨rfl, rfl⟩ := q; exact ⟨v, rfl, r, rfl⟩
    | succ i => exact w.slot i s d' (by simpa using q)
  · cases i with
    | zero => exact List.nodup_nil
    | succ i => exact w.nd i
  · cases i with
    | zero => cases m1
    | succ i =>
      cases j with
      | zero => cases m2
      | succ j => exact congrArg _ (w.dis i j a m1 m2)
  · cases i with
    | zero => cases m
    | succ i => exact w.out i a m
theorem Rel.drop {x : Slot} {y : Option V} (h : Rel K G (x :: ρ) (y :: σ) H F) : Rel K G ρ σ H F := by
  obtain ⟨fps, w⟩ := h
  refine ⟨fun i => fps (i + 1), fun i s d q => ?_, fun i => w.nd _, fun i j a m1 m2 => ?_, fun i a m => w.out _ a m, by simpa using w.len, w.sub, w.gsub, w.fg⟩
  · obtain ⟨v, q1, q2⟩ := w.slot (i + 1) s d (by simpa using q)
    exact ⟨v, by simpa using q1, q2⟩
  · have := w.dis (i + 1) (j + 1) a m1 m2; omega
/-- the slot ahead goes to the i-th place -/
theorem Rel.store {i : Nat} {s : Sh} {d : D} {v : V} (h : Rel K G (some (s, d) :: ρ) (some v :: σ) H F) : Rel K G (ρ.set i (some (s, d))) (σ.set i (some v)) H F := by
  obtain ⟨fps, w⟩ := h
  have hl : ρ.length = σ.length := by simpa using w.len
  refine ⟨fun j => if j = i then fps 0 else fps (j + 1), fun j s' d' q => ?_, fun j => ?_, fun j k a m1 m2 => ?_, fun j a m => ?_, by simp [hl], w.sub, w.gsub, w.fg⟩
  · by_cases hj : j = i
    · subst hj
      have hi : j < ρ.length := by
        have := (List.getElem?_eq_some_iff.mp q).1; simpa using this
      rw [List.getElem?_set_self hi] at q
      cases q
      rw [List.getElem?_set_self (by omega)]
      obtain ⟨u, q1, q2⟩ := w.slot 0 s d rfl
      simp at q1; subst q1
      simp only [if_true]
      exact ⟨v, rfl, q2⟩
    · rw [List.getElem?_set_ne (Ne.symm hj)] at q
      rw [List.getElem?_set_ne (Ne.symm hj), if_neg hj]
      obtain ⟨u, q1, q2⟩ := w.slot (j + 1) s' d' (by simpa using q)
      exact ⟨u, by simpa using q1, q2⟩
  · show (if j = i then fps 0 else fps (j + 1)).Nodup
    split
    · exact w.nd 0
    · exact w.nd _
  · have m1 : a ∈ (if j = i then fps 0 else fps (j + 1)) := m1
    have m2 : a ∈ (if k = i then fps 0 else fps (k + 1)) := m2
    split at m1 <;> split at m2
    · omega
    · have := w.dis _ _ a m1 m2; omega
    · have := w.dis _ _ a m1 m2; omega
    · have := w.dis _ _ a m1 m2; omega
  · have m : a ∈ (if j = i then fps 0 else fps (j + 1)) := m
    split at m
    · exact w.out _ a m
    · exact w.out _ a m
theorem Rel.storez {i : Nat} {d : D} {v : V} (h : Rel K G ρ σ H F) (r : Rp K F d v) : Rel K G (ρ.set i (some (.z, d))) (σ.set i (some v)) H F := (h.addz r).store
/-- a slot is forgotten -/
theorem Rel.forget {i : Nat} (h : Rel K G ρ σ H F) : Rel K G (ρ.set i none) σ H F := by
  obtain ⟨fps, w⟩ := h
  refine ⟨fps, fun j s' d' q => ?_, w.nd, w.dis, w.out, by simp [w.len], w.sub, w.gsub, w.fg⟩
  by_cases hj : j = i
  · subst hj
    rw [List.getElem?_set] at q
    simp at q
  · rw [List.getElem?_set_ne (Ne.symm hj)] at q
    exact w.slot j s' d' q
theorem Rel.forgetV {i : Nat} {o : Option V} (h : Rel K G ρ σ H F) : Rel K G (ρ.set i none) (σ.set i o) H F := by
  obtain ⟨fps, w⟩ := h
  refine ⟨fps, fun j s' d' q => ?_, w.nd, w.dis, w.out, by simp [w.len], w.sub, w.gsub, w.fg⟩
  by_cases hj : j = i
  · subst hj
    rw [List.getElem?_set] at q
    simp at q
  · rw [List.getElem?_set_ne (Ne.symm hj)] at q ⊢
    exact w.slot j s' d' q
/-- the i-th slot is moved ahead -/
theorem Rel.move {i : Nat} {s : Sh} {d : D} (h : Rel K G ρ σ H F) (e : ρ[i]? = some (some (s, d))) : ∃ v, σ[i]? = some (some v) ∧ Rel K G (some (s, d) :: ρ.set i none) (some v :: σ) H F := by
  obtain ⟨fps, w⟩ := h
  obtain ⟨v, q1, q2⟩ := w.slot i s d e
  refine ⟨v, q1, shiftF (fps i) (fun j => if j = i then [] else fps j), fun j s' d' q => ?_, fun j => ?_, fun j k a m1 m2 => ?_, fun j a m => ?_, by simp [w.len], w.sub, w.gsub, w.fg⟩
  · cases j with
    | zero => simp at q; obtain ⟨rfl, rfl⟩ := q; exact ⟨v, rfl, q2⟩
    | succ j =>
      have q : (ρ.set i none)[j]? = some (some (s', d')) := by simpa using q
      by_cases hj : j = i
      · subst hj; rw [List.getElem?_set] at q; simp at q
      · rw [List.getElem?_set_ne (Ne.symm hj)] at q
        obtain ⟨u, q3, q4⟩ := w.slot j s' d' q
        refine ⟨u, by simpa using q3, ?_⟩
        show Ow K H F s' d' u (if j = i then [] else fps j)
        rw [if_neg hj]; exact q4
  · cases j with
    | zero => exact w.nd i
    | succ j =>
      show (if j = i then [] else fps j).Nodup
      split
      · exact List.nodup_nil
      · exact w.nd j
  · cases j with
    | zero =>
      cases k with
      | zero => rfl
      | succ k =>
        have m2 : a ∈ (if k = i then [] else fps k) := m2
        split at m2
        · cases m2
        · exact absurd (w.dis i k a m1 m2) (Ne.symm ‹_›)
    | succ j =>
      have m1 : a ∈ (if j = i then [] else fps j) := m1
      split at m1
      · cases m1
      · cases k with
        | zero => exact absurd (w.dis j i a m1 m2) ‹_›
        | succ k =>
          have m2 : a ∈ (if k = i then [] else fps k) := m2
          split at m2
          · cases m2
          · exact congrArg _ (w.dis j k a m1 m2)
  · cases j with
    | zero => exact w.out i a m
    | succ j =>
      have m : a ∈ (if j = i then [] else fps j) := m
      split at m
      · cases m
      · exact w.out j a m
/-- what is ahead is frozen -/
theorem Rel.freeze {s : Sh} {d : D} {v : V} (h : Rel K G (some (s, d) :: ρ) (some v :: σ) H F) : ∃ F', Same F F' ∧ Rel K G (some (.z, d) :: ρ) (some v :: σ) H F' ∧ Rp K F' d v := by
  obtain ⟨fps, w⟩ := h
  obtain ⟨u, q1, q2⟩ := w.slot 0 s d rfl
  simp at q1; subst q1
  let F' : Hp := fun a => if a ∈ fps 0 then H a else F a
  have e : Same F F' := fun a o q => by
    show (if a ∈ fps 0 then H a else F a) = some o
    split
    · rename_i m
      have := (w.out 0 a m).1
      rw [q] at this; cases this
    · exact q
  have r : Rp K F' d v := q2.rp e fun a m o q => by
    show (if a ∈ fps 0 then H a else F a) = some o
    rw [if_pos m]; exact q
  have hs : Same F' H := fun a o q => by
    have q : (if a ∈ fps 0 then H a else F a) = some o := q
    split at q
    · exact q
    · exact w.sub a o q
  refine ⟨F', e, ?_, r⟩
  have base : Rel K G ρ σ H F' := by
    refine ⟨fun i => fps (i + 1), fun i s' d' q => ?_, fun i => w.nd _, fun i j a m1 m2 => ?_, fun i a m => ?_, by simpa using w.len, hs, w.gsub, fun a o q => ?_⟩
    · obtain ⟨v', q3, q4⟩ := w.slot (i + 1) s' d' (by simpa using q)
      exact ⟨v', by simpa using q3, q4.mono e fun a _ o q => q⟩
    · have := w.dis (i + 1) (j + 1) a m1 m2; omega
    · obtain ⟨q3, q4, q5⟩ := w.out (i + 1) a m
      refine ⟨?_, q4, q5⟩
      show (if a ∈ fps 0 then H a else F a) = none
      rw [if_neg (fun m0 => by have := w.dis _ _ a m0 m; omega)]; exact q3
    · have q : (if a ∈ fps 0 then H a else F a) = some o := q
      split at q
      · exact (w.out 0 a ‹_›).2.1
      · exact w.fg a o q
  exact base.addz r
/-- what is ahead is hidden in what must stay -/
theorem Rel.frame {x : Slot} {y : Option V} (h : Rel K G (x :: ρ) (y :: σ) H F) : ∃ G', Rel K G' ρ σ H F ∧
    ∀ ρ' σ' H' F', Same F F' → Rel K G' ρ' σ' H' F' → Rel K G (x :: ρ') (y :: σ') H' F' := by
  obtain ⟨fps, w⟩ := h
  let G' : Hp := fun a => if a ∈ fps 0 then H a else G a
  have hG : Same G G' := fun a o q => by
    show (if a ∈ fps 0 then H a else G a) = some o
    split
    · exact w.gsub a o q
    · exact q
  refine ⟨G', ⟨fun i => fps (i + 1), fun i s' d' q => ?_, fun i => w.nd _, fun i j a m1 m2 => ?_, fun i a m => ?_, by simpa using w.len, w.sub, fun a o q => ?_, fun a o q => ?_⟩, ?_⟩
  · obtain ⟨v', q3, q4⟩ := w.slot (i + 1) s' d' (by simpa using q)
    exact ⟨v', by simpa using q3, q4⟩
  · have := w.dis (i + 1) (j + 1) a m1 m2; omega
  · obtain ⟨q3, q4, q5⟩ := w.out (i + 1) a m
    refine ⟨q3, ?_, q5⟩
    show (if a ∈ fps 0 then H a else G a) = none
    rw [if_neg (fun m0 => by have := w.dis _ _ a m0 m; omega)]; exact q4
  · have q : (if a ∈ fps 0 then H a else G a) = some o := q
    split at q
    · exact q
    · exact w.gsub a o q
  · show (if a ∈ fps 0 then H a else G a) = none
    split
    · have := (w.out 0 a ‹_›).1
      rw [q] at this; cases this
    · exact w.fg a o q
  · rintro ρ' σ' H' F' e ⟨fps', w'⟩
    have k0 : ∀ a ∈ fps 0, ∀ o, H a = some o → H' a = some o := fun a m o q => w'.gsub a o (by
      show (if a ∈ fps 0 then H a else G a) = some o
      rw [if_pos m]; exact q)
    have g0 : ∀ a ∈ fps 0, ∃ o, G' a = some o := fun a m => by
      obtain ⟨_, _, o, q⟩ := w.out 0 a m
      exact ⟨o, by show (if a ∈ fps 0 then H a else G a) = some o; rw [if_pos m]; exact q⟩
    refine ⟨shiftF (fps 0) fps', fun i s' d' q => ?_, fun i => ?_, fun i j a m1 m2 => ?_, fun i a m => ?_, by simp [w'.len], w'.sub, fun a o q => w'.gsub a o (hG a o q), fun a o q => ?_⟩
    · cases i with
      | zero =>
        obtain ⟨v', q3, q4⟩ := w.slot 0 s' d' (by simpa using q)
        exact ⟨v', by simpa using q3, q4.mono e k0⟩
      | succ i => exact w'.slot i s' d' (by simpa using q)
    · cases i with
      | zero => exact w.nd 0
      | succ i => exact w'.nd i
    · have x0 : ∀ i a, a ∈ fps 0 → a ∈ fps' i → False := fun i a m1 m2 => by
        obtain ⟨o, q⟩ := g0 a m1
        have := (w'.out i a m2).2.1
        rw [q] at this; cases this
      cases i with
      | zero =>
        cases j with
        | zero => rfl
        | succ j => exact (x0 j a m1 m2).elim
      | succ i =>
        cases j with
        | zero => exact (x0 i a m2 m1).elim
        | succ j => exact congrArg _ (w'.dis i j a m1 m2)
    · cases i with
      | zero =>
        obtain ⟨q1, q2, o, q3⟩ := w.out 0 a m
        obtain ⟨o', q4⟩ := g0 a m
        refine ⟨?_, q2, o, k0 a m o q3⟩
        cases q5 : F' a with
        | none => rfl
        | some u => have := w'.fg a u q5; rw [q4] at this; cases this
      | succ i =>
        obtain ⟨q1, q2, q3⟩ := w'.out i a m
        refine ⟨q1, ?_, q3⟩
        exact Same.free hG q2
    · have := w'.fg a o q
      exact Same.free hG this
end
end VL

set_option Elab.async false
set_option linter.all false
set_option maxRecDepth 100000
/-! VLb: judgements by value: expressions (pure, fresh, with effects), tests, arguments, targets, what is walked, statements, calls. -/
namespace VL
open PySem L2

/-! ### the readings -/
/-- pure: the value is told at shape s (z: frozen; else borrowed) -/
def tP (K : PySem.W.Frag) (s : Sh) (f : Sto → Option D) : TE := fun σ H Q => ∃ G ρ F d, f ρ = some d ∧ Rel K G ρ σ H F ∧
  ∀ v H' F', Same F F' → Same H H' → Rel K G ρ σ H' F' → (∃ fp, Ow K H' F' s d v fp) → Q v H'
/-- pure: the value is new, owned at shape s -/
def tPF (K : PySem.W.Frag) (s : Sh) (f : Sto → Option D) : TE := fun σ H Q => ∃ G ρ F d, f ρ = some d ∧ Rel K G ρ σ H F ∧
  ∀ v H' F', Same F F' → Same H H' → Rel K G (some (s, d) :: ρ) (some v :: σ) H' F' → Q v H'
/-- with effects: a frozen value -/
def tE (K : PySem.W.Frag) (f : Sto → Option (D × Sto)) : TE := fun σ H Q => ∃ G ρ F d ρ', f ρ = some (d, ρ') ∧ Rel K G ρ σ H F ∧
  ∀ v H' F', Same F F' → Rel K G ρ' σ H' F' → Rp K F' d v → Q v H'
/-- with effects: a new value, owned at shape s -/
def tEF (K : PySem.W.Frag) (s : Sh) (f : Sto → Option (D × Sto)) : TE := fun σ H Q => ∃ G ρ F d ρ', f ρ = some (d, ρ') ∧ Rel K G ρ σ H F ∧
  ∀ v H' F', Same F F' → Rel K G (some (s, d) :: ρ') (some v :: σ) H' F' → Q v H'
def tPT (K : PySem.W.Frag) (f : Sto → Option Bool) : TT := fun σ H Q => ∃ G ρ F b, f ρ = some b ∧ Rel K G ρ σ H F ∧
  ∀ H' F', Same F F' → Same H H' → Rel K G ρ σ H' F' → Q b H'
def tET (K : PySem.W.Frag) (f : Sto → Option (Bool × Sto)) : TT := fun σ H Q => ∃ G ρ F b ρ', f ρ = some (b, ρ') ∧ Rel K G ρ σ H F ∧
  ∀ H' F', Same F F' → Rel K G ρ' σ H' F' → Q b H'
def tPA (K : PySem.W.Frag) (f : Sto → Option (List D)) : TA := fun σ H Q => ∃ G ρ F ds, f ρ = some ds ∧ Rel K G ρ σ H F ∧
  ∀ vs H' F', Same F F' → Same H H' → Rel K G ρ σ H' F' → RpL K F' ds vs → Q vs H'
def tEA (K : PySem.W.Frag) (f : Sto → Option (List D × Sto)) : TA := fun σ H Q => ∃ G ρ F ds ρ', f ρ = some (ds, ρ') ∧ Rel K G ρ σ H F ∧
  ∀ vs H' F', Same F F' → Rel K G ρ' σ H' F' → RpL K F' ds vs → Q vs H'

abbrev PV (X : Cx) (s : Sh) (e : Expr) (f : Sto → Option D) : Prop := PE X e (tP X.K s f)
abbrev FP (X : Cx) (s : Sh) (e : Expr) (f : Sto → Option D) : Prop := PE X e (tPF X.K s f)
abbrev EV (X : Cx) (e : Expr) (f : Sto → Option (D × Sto)) : Prop := PE X e (tE X.K f)
abbrev EF (X : Cx) (s : Sh) (e : Expr) (f : Sto → Option (D × Sto)) : Prop := PE X e (tEF X.K s f)
abbrev PTV (X : Cx) (e : Expr) (f : Sto → Option Bool) : Prop := PT X e (tPT X.K f)
abbrev ETV (X : Cx) (e : Expr) (f : Sto → Option (Bool × Sto)) : Prop := PT X e (tET X.K f)
abbrev PWV (X : Cx) (e : Expr) (f : Sto → Option Bool) : Prop := PW X e (tPT X.K f)
abbrev EWV (X : Cx) (e : Expr) (f : Sto → Option (Bool × Sto)) : Prop := PW X e (tET X.K f)
abbrev PAV (X : Cx) (es : List Expr) (f : Sto → Option (List D)) : Prop := PA X es (tPA X.K f)
abbrev EAV (X : Cx) (es : List Expr) (f : Sto → Option (List D × Sto)) : Prop := PA X es (tEA X.K f)

/-! ### readings made weaker -/
section
variable {X : Cx}
theorem pe_imp {e : Expr} {t t' : TE} (h : PE X e t) (k : ∀ σ H Q, t' σ H Q → t σ H Q) : PE X e t' := ⟨fun pins s σ H Q I q => h.run pins s σ H Q I (k σ H Q q)⟩
theorem pt_imp {e : Expr} {t t' : TT} (h : PT X e t) (k : ∀ σ H Q, t' σ H Q → t σ H Q) : PT X e t' := ⟨fun pins s σ H Q I q => h.run pins s σ H Q I (k σ H Q q)⟩
theorem pw_imp {e : Expr} {t t' : TT} (h : PW X e t) (k : ∀ σ H Q, t' σ H Q → t σ H Q) : PW X e t' := ⟨fun wh pins s σ H Q I q => h.run wh pins s σ H Q I (k σ H Q q)⟩
theorem pa_imp {e : List Expr} {t t' : TA} (h : PA X e t) (k : ∀ σ H Q, t' σ H Q → t σ H Q) : PA X e t' := ⟨fun pos pins s σ H Q I q => h.run pos pins s σ H Q I (k σ H Q q)⟩
theorem ps_imp {e : Stmt} {t t' : TS} (h : PS X e t) (k : ∀ D σ H, t' D σ H → t D σ H) : PS X e t' := ⟨fun pins s σ H D I q => h.run pins s σ H D I (k D σ H q)⟩
theorem pss_imp {e : List Stmt} {t t' : TS} (h : PSs X e t) (k : ∀ D σ H, t' D σ H → t D σ H) : PSs X e t' := ⟨fun pins s σ H D I q => h.run pins s σ H D I (k D σ H q)⟩
theorem pg_imp {e : Expr} {t t' : TG} (h : PG X e t) (k : ∀ v σ H Q, t' v σ H Q → t v σ H Q) : PG X e t' := ⟨fun pins s σ H v u Q I r q => h.run pins s σ H v u Q I r (k v σ H Q q)⟩
theorem pi_imp {tg e : Expr} {t t' : TI} (h : PI X tg e t) (k : ∀ σ H R, t' σ H R → t σ H R) : PI X tg e t' := ⟨fun pins s σ H R I q => h.run pins s σ H R I (k σ H R q)⟩

/-! ### from one kind to another -/
variable {s : Sh} {e : Expr} {f : Sto → Option D} {fe : Sto → Option (D × Sto)}
/-- what is new is read, frozen -/
theorem FP.pv (h : FP X s e f) : PV X .z e f := by
  refine pe_imp h fun σ H Q ⟨G, ρ, F, d, e1, R, k⟩ => ⟨G, ρ, F, d, e1, R, fun v H' F' s1 s2 R' => ?_⟩
  obtain ⟨F2, s3, R2, r⟩ := R'.freeze
  exact k v H' F2 (s1.trans s3) s2 R2.drop ⟨[], r, rfl⟩
/-- what is new is read as it is -/
theorem FP.pb (h : FP X s e f) : PV X s e f := by
  refine pe_imp h fun σ H Q ⟨G, ρ, F, d, e1, R, k⟩ => ⟨G, ρ, F, d, e1, R, fun v H' F' s1 s2 R' => ?_⟩
  exact k v H' F' s1 s2 R'.drop R'.get0
/-- a frozen value is new at z -/
theorem PV.fp (h : PV X .z e f) : FP X .z e f := by
  refine pe_imp h fun σ H Q ⟨G, ρ, F, d, e1, R, k⟩ => ⟨G, ρ, F, d, e1, R, fun v H' F' s1 s2 R' ⟨fp, r⟩ => ?_⟩
  exact k v H' F' s1 s2 (R'.addz r.1)
def up (f : Sto → Option D) : Sto → Option (D × Sto) := fun ρ => (f ρ).map fun d => (d, ρ)
theorem up_some {ρ ρ' : Sto} {d : D} (h : up f ρ = some (d, ρ')) : f ρ = some d ∧ ρ' = ρ := by
  unfold up at h
  cases q : f ρ with
  | none => rw [q] at h; cases h
  | some x => rw [q] at h; cases h; exact ⟨rfl, rfl⟩
theorem PV.ev (h : PV X .z e f) : EV X e (up f) := by
  refine pe_imp h fun σ H Q ⟨G, ρ, F, d, ρ', e1, R, k⟩ => ?_
  obtain ⟨e2, rfl⟩ := up_some e1
  exact ⟨G, ρ', F, d, e2, R, fun v H' F' s1 s2 R' ⟨fp, r⟩ => k v H' F' s1 R' r.1⟩
theorem FP.ef (h : FP X s e f) : EF X s e (up f) := by
  refine pe_imp h fun σ H Q ⟨G, ρ, F, d, ρ', e1, R, k⟩ => ?_
  obtain ⟨e2, rfl⟩ := up_some e1
  exact ⟨G, ρ', F, d, e2, R, fun v H' F' s1 s2 R' => k v H' F' s1 R'⟩
theorem EF.ev (h : EF X s e fe) : EV X e fe := by
  refine pe_imp h fun σ H Q ⟨G, ρ, F, d, ρ', e1, R, k⟩ => ⟨G, ρ, F, d, ρ', e1, R, fun v H' F' s1 R' => ?_⟩
  obtain ⟨F2, s3, R2, r⟩ := R'.freeze
  exact k v H' F2 (s1.trans s3) R2.drop r
theorem EV.ef (h : EV X e fe) : EF X .z e fe := by
  refine pe_imp h fun σ H Q ⟨G, ρ, F, d, ρ', e1, R, k⟩ => ⟨G, ρ, F, d, ρ', e1, R, fun v H' F' s1 R' r => ?_⟩
  exact k v H' F' s1 (R'.addz r)
/-- a borrowed value that holds no object -/
def isSc : D → Bool
  | .non => true | .bl _ => true | .int _ => true | .str _ => true | .fn _ => true
  | _ => false
theorem Ow.sc {K : PySem.W.Frag} {H F : Hp} {d : D} (hd : isSc d = true) : ∀ {s : Sh} {v : V} {fp : List Addr}, Ow K H F s d v fp → Rp K F d v := by
  intro s v fp h
  cases s with
  | z => exact h.1
  | seq s => cases d <;> first | exact h.1 | cases hd
  | obj g => cases d <;> first | exact h.1 | cases hd
def vSc (f : Sto → Option D) : Sto → Option D := fun ρ => (f ρ).bind fun d => if isSc d then some d else none
theorem PV.sc (h : PV X s e f) : PV X .z e (vSc f) := by
  refine pe_imp h fun σ H Q ⟨G, ρ, F, d, e1, R, k⟩ => ?_
  unfold vSc at e1
  cases q : f ρ with
  | none => rw [q] at e1; cases e1
  | some x =>
    rw [q] at e1
    simp only [Option.bind_some] at e1
    split at e1
    · rename_i hs
      cases e1
      exact ⟨G, ρ, F, _, q, R, fun v H' F' s1 s2 R' ⟨fp, r⟩ => k v H' F' s1 s2 R' ⟨[], r.sc hs, rfl⟩⟩
    · cases e1
end

/-! ### names and constants -/
section
variable {X : Cx}
/-- the value of slot i, told at shape s -/
def vVar (i : Nat) : Sto → Option D := fun ρ => match ρ[i]? with
  | some (some (_, d)) => some d
  | _ => none
def vVarZ (i : Nat) : Sto → Option D := fun ρ => match ρ[i]? with
  | some (some (.z, d)) => some d
  | _ => none
def vVarS (i : Nat) : Sto → Option D := fun ρ => match ρ[i]? with
  | some (some (.seq .z, d)) => some d
  | _ => none
def vVarSS (i : Nat) : Sto → Option D := fun ρ => match ρ[i]? with
  | some (some (.seq (.seq .z), d)) => some d
  | _ => none
def vC (d : D) : Sto → Option D := fun _ => some d
theorem pv_varZ {i : Nat} {x : Str} {pos : Pos} (hN : X.N[i]? = some x) (hv : Vis X.env.scope x) (hd : (x == ("__debug__" : Str)) = false := by decide) (hcd : (x == ("__classdict__" : Str)) = false := by decide) : PV X .z (.Name x pos) (vVarZ i) := by
  refine pe_imp (pe_var hN hv hd hcd) fun σ H Q ⟨G, ρ, F, d, e1, R, k⟩ => ?_
  unfold vVarZ at e1
  split at e1
  · rename_i q; cases e1
    obtain ⟨v, q1, q2⟩ := R.getz q
    exact ⟨v, q1, k v H F (Same.refl _) (Same.refl _) R ⟨[], q2, rfl⟩⟩
  · cases e1
theorem pv_varS {i : Nat} {x : Str} {pos : Pos} (hN : X.N[i]? = some x) (hv : Vis X.env.scope x) (hd : (x == ("__debug__" : Str)) = false := by decide) (hcd : (x == ("__classdict__" : Str)) = false := by decide) : PV X (.seq .z) (.Name x pos) (vVarS i) := by
  refine pe_imp (pe_var hN hv hd hcd) fun σ H Q ⟨G, ρ, F, d, e1, R, k⟩ => ?_
  unfold vVarS at e1
  split at e1
  · rename_i q; cases e1
    obtain ⟨v, fp, q1, q2⟩ := R.get q
    exact ⟨v, q1, k v H F (Same.refl _) (Same.refl _) R ⟨fp, q2⟩⟩
  · cases e1
theorem pv_varSS {i : Nat} {x : Str} {pos : Pos} (hN : X.N[i]? = some x) (hv : Vis X.env.scope x) (hd : (x == ("__debug__" : Str)) = false := by decide) (hcd : (x == ("__classdict__" : Str)) = false := by decide) : PV X (.seq (.seq .z)) (.Name x pos) (vVarSS i) := by
  refine pe_imp (pe_var hN hv hd hcd) fun σ H Q ⟨G, ρ, F, d, e1, R, k⟩ => ?_
  unfold vVarSS at e1
  split at e1
  · rename_i q; cases e1
    obtain ⟨v, fp, q1, q2⟩ := R.get q
    exact ⟨v, q1, k v H F (Same.refl _) (Same.refl _) R ⟨fp, q2⟩⟩
  · cases e1
/-- an owned local is given away: the slot is empty behind it -/
def vMove (i : Nat) : Sto → Option (D × Sto) := fun ρ => match ρ[i]? with
  | some (some (.seq .z, d)) => some (d, ρ.set i none)
  | _ => none
theorem ef_move {i : Nat} {x : Str} {pos : Pos} (hN : X.N[i]? = some x) (hv : Vis X.env.scope x) (hd : (x == ("__debug__" : Str)) = false := by decide) (hcd : (x == ("__classdict__" : Str)) = false := by decide) : EF X (.seq .z) (.Name x pos) (vMove i) := by
  refine pe_imp (pe_var hN hv hd hcd) fun σ H Q ⟨G, ρ, F, d, ρ', e1, R, k⟩ => ?_
  unfold vMove at e1
  split at e1
  · rename_i q; cases e1
    obtain ⟨v, q1, q2⟩ := R.move q
    exact ⟨v, q1, k v H F (Same.refl _) q2⟩
  · cases e1
/-- an owned local is frozen where it stands -/
def vFrz (i : Nat) : Sto → Option (D × Sto) := fun ρ => match ρ[i]? with
  | some (some (_, d)) => some (d, ρ.set i (some (.z, d)))
  | _ => none
theorem Rel.frzAt {K : PySem.W.Frag} {G H F : Hp} {ρ : Sto} {σ : St} {i : Nat} {s : Sh} {d : D} (R : Rel K G ρ σ H F) (q : ρ[i]? = some (some (s, d))) : ∃ v F', σ[i]? = some (some v) ∧ Same F F' ∧ Rel K G (ρ.set i (some (.z, d))) σ H F' ∧ Rp K F' d v := by
  obtain ⟨v, q1, R1⟩ := R.move q
  obtain ⟨F', s1, R2, r⟩ := R1.freeze
  refine ⟨v, F', q1, s1, ?_, r⟩
  have R3 := R2.store (i := i)
  rw [List.set_set] at R3
  have e : σ.set i (some v) = σ := by
    obtain ⟨hi, he⟩ := List.getElem?_eq_some_iff.mp q1
    rw [← he]; exact List.set_getElem_self hi
  rw [e] at R3
  exact R3
theorem ev_frz {i : Nat} {x : Str} {pos : Pos} (hN : X.N[i]? = some x) (hv : Vis X.env.scope x) (hd : (x == ("__debug__" : Str)) = false := by decide) (hcd : (x == ("__classdict__" : Str)) = false := by decide) : EV X (.Name x pos) (vFrz i) := by
  refine pe_imp (pe_var hN hv hd hcd) fun σ H Q ⟨G, ρ, F, d, ρ', e1, R, k⟩ => ?_
  unfold vFrz at e1
  split at e1
  · rename_i q; cases e1
    obtain ⟨v, F', q1, s1, R2, r⟩ := R.frzAt q
    exact ⟨v, q1, k v H F' s1 R2 r⟩
  · cases e1
theorem pv_c {e : Expr} {d : D} {v : V} (h : PE X e (tC v)) (r : ∀ F, Rp X.K F d v) : PV X .z e (vC d) := by
  refine pe_imp h fun σ H Q ⟨G, ρ, F, d', e1, R, k⟩ => ?_
  cases e1
  exact k v H F (Same.refl _) (Same.refl _) R ⟨[], r F, rfl⟩
theorem pv_int {i j pos} : PV X .z (.Constant (.int i) j pos) (vC (.int i)) := pv_c pe_int fun _ => by simp only [Rp]
theorem pv_bl {i j pos} : PV X .z (.Constant (.bool i) j pos) (vC (.bl i)) := pv_c pe_bl fun _ => by simp only [Rp]
theorem pv_non {j pos} : PV X .z (.Constant .none j pos) (vC .non) := pv_c pe_non fun _ => by simp only [Rp]
theorem pv_str {x j pos} : PV X .z (.Constant (.str x) j pos) (vC (.str x)) := pv_c pe_str fun _ => by simp only [Rp]
/-- a module's int -/
theorem pv_glob {x : Str} {i : Int} {t : Tok} {pos : Pos} (hg : Gl X x) (hm : X.mg x = some (.int i t)) (hd : (x == ("__debug__" : Str)) = false := by decide) : PV X .z (.Name x pos) (vC (.int i)) := pv_c (v := .int i) (pe_glob hg hm (show RelV (.int i) (.int i t) from ⟨t, rfl⟩) hd) fun _ => by simp only [Rp]
end

/-! ### operators by values -/
/-- two values in (told at s1, s2), a frozen value out, nothing is changed but by new objects -/
def OpD (K : PySem.W.Frag) (s1 s2 : Sh) (r : R2) (g : D → D → Option D) : Prop :=
  ∀ x y d, g x y = some d → ∀ G ρ σ H F v u Q, Rel K G ρ σ H F → (∃ fp, Ow K H F s1 x v fp) → (∃ fp, Ow K H F s2 y u fp) →
    (∀ w H' F', Same F F' → Same H H' → Rel K G ρ σ H' F' → Rp K F' d w → Q w H') → r v u H Q
/-- the same, a new value out -/
def OpF (K : PySem.W.Frag) (s1 s2 s : Sh) (r : R2) (g : D → D → Option D) : Prop :=
  ∀ x y d, g x y = some d → ∀ G ρ σ H F v u Q, Rel K G ρ σ H F → (∃ fp, Ow K H F s1 x v fp) → (∃ fp, Ow K H F s2 y u fp) →
    (∀ w H' F', Same F F' → Same H H' → Rel K G (some (s, d) :: ρ) (some w :: σ) H' F' → Q w H') → r v u H Q
def v2 (g : D → D → Option D) (fa fb : Sto → Option D) : Sto → Option D := fun ρ => (fa ρ).bind fun x => (fb ρ).bind fun y => g x y
def e2 (g : D → D → Option D) (fa fb : Sto → Option (D × Sto)) : Sto → Option (D × Sto) := fun ρ => (fa ρ).bind fun x => (fb x.2).bind fun y => (g x.1 y.1).map fun d => (d, y.2)
theorem v2_some {g : D → D → Option D} {fa fb : Sto → Option D} {ρ : Sto} {d : D} (h : v2 g fa fb ρ = some d) : ∃ x y, fa ρ = some x ∧ fb ρ = some y ∧ g x y = some d := by
  unfold v2 at h
  cases q : fa ρ with
  | none => rw [q] at h; cases h
  | some x =>
    cases q2 : fb ρ with
    | none => rw [q, q2] at h; cases h
    | some y => rw [q, q2] at h; exact ⟨x, y, rfl, rfl, h⟩
theorem e2_some {g : D → D → Option D} {fa fb : Sto → Option (D × Sto)} {ρ ρ' : Sto} {d : D} (h : e2 g fa fb ρ = some (d, ρ')) : ∃ x ρ1 y, fa ρ = some (x, ρ1) ∧ fb ρ1 = some (y, ρ') ∧ g x y = some d := by
  unfold e2 at h
  cases q : fa ρ with
  | none => rw [q] at h; cases h
  | some x =>
    rw [q] at h
    simp only [Option.bind_some] at h
    cases q2 : fb x.2 with
    | none => rw [q2] at h; cases h
    | some y =>
      rw [q2] at h
      simp only [Option.bind_some] at h
      cases q3 : g x.1 y.1 with
      | none => rw [q3] at h; cases h
      | some z => rw [q3] at h; cases h; exact ⟨x.1, x.2, y.1, rfl, q2, q3⟩
section
variable {X : Cx} {a b : Expr} {s1 s2 s : Sh} {fa fb : Sto → Option D} {ga gb : Sto → Option (D × Sto)} {r : R2} {g : D → D → Option D}
theorem Ow.keep {K : PySem.W.Frag} {H H' F F' : Hp} {s : Sh} {d : D} {v : V} (h : ∃ fp, Ow K H F s d v fp) (e : Same F F') (e2 : Same H H') : ∃ fp, Ow K H' F' s d v fp :=
  let ⟨fp, q⟩ := h; ⟨fp, q.mono e fun a _ o z => e2 a o z⟩
theorem tOp_pv (hg : OpD X.K s1 s2 r g) (σ : St) (H : Hp) (Q : VK) (h : tP X.K .z (v2 g fa fb) σ H Q) : tOp r (tP X.K s1 fa) (tP X.K s2 fb) σ H Q := by
  obtain ⟨G, ρ, F, d, e1, R, k⟩ := h
  obtain ⟨x, y, q1, q2, q3⟩ := v2_some e1
  refine ⟨G, ρ, F, x, q1, R, fun v H1 F1 f1 h1 R1 r1 => ?_⟩
  refine ⟨G, ρ, F1, y, q2, R1, fun u H2 F2 f2 h2 R2 r2 => ?_⟩
  exact hg x y d q3 G ρ σ H2 F2 v u Q R2 (Ow.keep r1 f2 h2) r2 fun w H3 F3 f3 h3 R3 r3 => k w H3 F3 (f1.trans (f2.trans f3)) (h1.trans (h2.trans h3)) R3 ⟨[], r3, rfl⟩
theorem tOp_fp (hg : OpF X.K s1 s2 s r g) (σ : St) (H : Hp) (Q : VK) (h : tPF X.K s (v2 g fa fb) σ H Q) : tOp r (tP X.K s1 fa) (tP X.K s2 fb) σ H Q := by
  obtain ⟨G, ρ, F, d, e1, R, k⟩ := h
  obtain ⟨x, y, q1, q2, q3⟩ := v2_some e1
  refine ⟨G, ρ, F, x, q1, R, fun v H1 F1 f1 h1 R1 r1 => ?_⟩
  refine ⟨G, ρ, F1, y, q2, R1, fun u H2 F2 f2 h2 R2 r2 => ?_⟩
  exact hg x y d q3 G ρ σ H2 F2 v u Q R2 (Ow.keep r1 f2 h2) r2 fun w H3 F3 f3 h3 R3 => k w H3 F3 (f1.trans (f2.trans f3)) (h1.trans (h2.trans h3)) R3
theorem tOp_ev (hg : OpD X.K .z .z r g) (σ : St) (H : Hp) (Q : VK) (h : tE X.K (e2 g ga gb) σ H Q) : tOp r (tE X.K ga) (tE X.K gb) σ H Q := by
  obtain ⟨G, ρ, F, d, ρ', e1, R, k⟩ := h
  obtain ⟨x, ρ1, y, q1, q2, q3⟩ := e2_some e1
  refine ⟨G, ρ, F, x, ρ1, q1, R, fun v H1 F1 f1 R1 r1 => ?_⟩
  refine ⟨G, ρ1, F1, y, ρ', q2, R1, fun u H2 F2 f2 R2 r2 => ?_⟩
  exact hg x y d q3 G ρ' σ H2 F2 v u Q R2 ⟨[], Rp.mono f2 _ _ r1, rfl⟩ ⟨[], r2, rfl⟩ fun w H3 F3 f3 h3 R3 r3 => k w H3 F3 (f1.trans (f2.trans f3)) R3 r3
variable {pos : Pos}
theorem pv_bin {op : Operator} (ho : OpR X (binaryOp op) r) (hg : OpD X.K s1 s2 r g) (ha : PV X s1 a fa) (hb : PV X s2 b fb) : PV X .z (.BinOp a op b pos) (v2 g fa fb) := pe_imp (pe_op ho ha hb) (tOp_pv hg)
theorem fp_bin {op : Operator} (ho : OpR X (binaryOp op) r) (hg : OpF X.K s1 s2 s r g) (ha : PV X s1 a fa) (hb : PV X s2 b fb) : FP X s (.BinOp a op b pos) (v2 g fa fb) := pe_imp (pe_op ho ha hb) (tOp_fp hg)
theorem ev_bin {op : Operator} (ho : OpR X (binaryOp op) r) (hg : OpD X.K .z .z r g) (ha : EV X a ga) (hb : EV X b gb) : EV X (.BinOp a op b pos) (e2 g ga gb) := pe_imp (pe_op ho ha hb) (tOp_ev hg)
/-- a comparison as a value -/
theorem pv_cmp {op : CmpOp} (ho : OpR X (compareOp op) r) (hg : OpD X.K s1 s2 r g) (ha : PV X s1 a fa) (hb : PV X s2 b fb) (hm : behindInMarks op b = false) : PV X .z (.Compare a [op] [b] pos) (v2 g fa fb) := pe_imp (pe_cmpR ho ha hb hm) (tOp_pv hg)
theorem ev_cmp {op : CmpOp} (ho : OpR X (compareOp op) r) (hg : OpD X.K .z .z r g) (ha : EV X a ga) (hb : EV X b gb) (hm : behindInMarks op b = false) : EV X (.Compare a [op] [b] pos) (e2 g ga gb) := pe_imp (pe_cmpR ho ha hb hm) (tOp_ev hg)
/-- a subscript -/
theorem pv_ix (ho : IxR X r) (hg : OpD X.K s1 s2 r g) (ha : PV X s1 a fa) (hb : PV X s2 b fb) (hs : PlainIx b) : PV X .z (.Subscript a b pos) (v2 g fa fb) := pe_imp (pe_ix ho ha hb hs) (tOp_pv hg)
theorem ev_ix (ho : IxR X r) (hg : OpD X.K .z .z r g) (ha : EV X a ga) (hb : EV X b gb) (hs : PlainIx b) : EV X (.Subscript a b pos) (e2 g ga gb) := pe_imp (pe_ix ho ha hb hs) (tOp_ev hg)
/-- one value -/
def UnD (K : PySem.W.Frag) (r : V → Hp → VK → Prop) (g : D → Option D) : Prop :=
  ∀ x d, g x = some d → ∀ G ρ σ H F v Q, Rel K G ρ σ H F → Rp K F x v → (∀ w, Rp K F d w → Q w H) → r v H Q
def v1 (g : D → Option D) (fa : Sto → Option D) : Sto → Option D := fun ρ => (fa ρ).bind g
def e1 (g : D → Option D) (fa : Sto → Option (D × Sto)) : Sto → Option (D × Sto) := fun ρ => (fa ρ).bind fun x => (g x.1).map fun d => (d, x.2)
theorem v1_some {g : D → Option D} {fa : Sto → Option D} {ρ : Sto} {d : D} (h : v1 g fa ρ = some d) : ∃ x, fa ρ = some x ∧ g x = some d := by
  unfold v1 at h
  cases q : fa ρ with
  | none => rw [q] at h; cases h
  | some x => rw [q] at h; exact ⟨x, rfl, h⟩
theorem e1_some {g : D → Option D} {fa : Sto → Option (D × Sto)} {ρ ρ' : Sto} {d : D} (h : e1 g fa ρ = some (d, ρ')) : ∃ x, fa ρ = some (x, ρ') ∧ g x = some d := by
  unfold e1 at h
  cases q : fa ρ with
  | none => rw [q] at h; cases h
  | some x =>
    rw [q] at h
    simp only [Option.bind_some] at h
    cases q3 : g x.1 with
    | none => rw [q3] at h; cases h
    | some z => rw [q3] at h; cases h; exact ⟨x.1, rfl, q3⟩
theorem pv_un {op : UnaryOp} {r1 : V → Hp → VK → Prop} {g1 : D → Option D} (ho : UnR X (unaryOp op) r1) (hg : UnD X.K r1 g1) (ha : PV X .z a fa) : PV X .z (.UnaryOp op a pos) (v1 g1 fa) := by
  refine pe_imp (pe_un ho ha) fun σ H Q ⟨G, ρ, F, d, q, R, k⟩ => ?_
  obtain ⟨x, q1, q2⟩ := v1_some q
  exact ⟨G, ρ, F, x, q1, R, fun v H1 F1 f1 h1 R1 ⟨fp, r1⟩ => hg x d q2 G ρ σ H1 F1 v Q R1 r1.1 fun w rw => k w H1 F1 f1 h1 R1 ⟨[], rw, rfl⟩⟩
end

/-! ### tests -/
section
variable {X : Cx} {a b c : Expr} {s1 s2 s : Sh} {fa fb : Sto → Option D} {ga gb : Sto → Option (D × Sto)} {r : R2} {g : D → D → Option D} {pos : Pos}
/-- a value that is a bool, as a test -/
def vB (fa : Sto → Option D) : Sto → Option Bool := fun ρ => match fa ρ with
  | some (.bl k) => some k
  | _ => none
def eB (fa : Sto → Option (D × Sto)) : Sto → Option (Bool × Sto) := fun ρ => match fa ρ with
  | some (.bl k, ρ') => some (k, ρ')
  | _ => none
theorem pt_valV {e : Expr} (h : PV X .z e fa) (he : ∀ whole, isTrue e X.env whole = (do let v ← whole; standAt e.pos; holding [v] (truthy v)) := by intro _; rfl) : PTV X e (vB fa) := by
  refine pt_imp (pt_val h he) fun σ H Q ⟨G, ρ, F, d, q, R, k⟩ => ?_
  unfold vB at q
  split at q
  · rename_i b q2
    cases q
    refine ⟨G, ρ, F, _, q2, R, fun v H1 F1 f1 h1 R1 ⟨fp, r1⟩ => ?_⟩
    have e : v = .bl d := by simpa only [Rp] using r1.1
    exact ⟨d, e, k H1 F1 f1 h1 R1⟩
  · cases q
theorem pt_valE {e : Expr} (h : EV X e ga) (he : ∀ whole, isTrue e X.env whole = (do let v ← whole; standAt e.pos; holding [v] (truthy v)) := by intro _; rfl) : ETV X e (eB ga) := by
  refine pt_imp (pt_val h he) fun σ H Q ⟨G, ρ, F, d, ρ', q, R, k⟩ => ?_
  unfold eB at q
  split at q
  · rename_i b q2
    cases q
    refine ⟨G, ρ, F, _, ρ', q2, R, fun v H1 F1 f1 R1 r1 => ?_⟩
    have e : v = .bl d := by simpa only [Rp] using r1
    exact ⟨d, e, k H1 F1 f1 R1⟩
  · cases q
theorem tTest_pv (hg : OpD X.K s1 s2 r g) (σ : St) (H : Hp) (Q : Bool → Hp → Prop) (h : tPT X.K (vB (v2 g fa fb)) σ H Q) : tTest (tOp r (tP X.K s1 fa) (tP X.K s2 fb)) σ H Q := by
  obtain ⟨G, ρ, F, d, q, R, k⟩ := h
  unfold vB at q
  split at q
  · rename_i b q2
    cases q
    refine tOp_pv (g := g) hg σ H _ ⟨G, ρ, F, _, q2, R, fun v H1 F1 f1 h1 R1 ⟨fp, r1⟩ => ?_⟩
    have e : v = .bl d := by simpa only [Rp] using r1.1
    exact ⟨d, e, k H1 F1 f1 h1 R1⟩
  · cases q
theorem tTest_ev (hg : OpD X.K .z .z r g) (σ : St) (H : Hp) (Q : Bool → Hp → Prop) (h : tET X.K (eB (e2 g ga gb)) σ H Q) : tTest (tOp r (tE X.K ga) (tE X.K gb)) σ H Q := by
  obtain ⟨G, ρ, F, d, ρ', q, R, k⟩ := h
  unfold eB at q
  split at q
  · rename_i b q2
    cases q
    refine tOp_ev (g := g) hg σ H _ ⟨G, ρ, F, _, ρ', q2, R, fun v H1 F1 f1 R1 r1 => ?_⟩
    have e : v = .bl d := by simpa only [Rp] using r1
    exact ⟨d, e, k H1 F1 f1 R1⟩
  · cases q
theorem pt_cmpV {op : CmpOp} (ho : OpR X (compareOp op) r) (hg : OpD X.K s1 s2 r g) (ha : PV X s1 a fa) (hb : PV X s2 b fb) (hm : behindInMarks op b = false) : PTV X (.Compare a [op] [b] pos) (vB (v2 g fa fb)) := pt_imp (pt_cmpR ho ha hb hm) (tTest_pv hg)
theorem pt_cmpE {op : CmpOp} (ho : OpR X (compareOp op) r) (hg : OpD X.K .z .z r g) (ha : EV X a ga) (hb : EV X b gb) (hm : behindInMarks op b = false) : ETV X (.Compare a [op] [b] pos) (eB (e2 g ga gb)) := pt_imp (pt_cmpR ho ha hb hm) (tTest_ev hg)

variable {ta tb : Sto → Option Bool} {ua ub : Sto → Option (Bool × Sto)} {rest : List Expr}
def upT (f : Sto → Option Bool) : Sto → Option (Bool × Sto) := fun ρ => (f ρ).map fun d => (d, ρ)
theorem PTV.etv {f : Sto → Option Bool} (h : PTV X a f) : ETV X a (upT f) := by
  refine pt_imp h fun σ H Q ⟨G, ρ, F, d, ρ', q, R, k⟩ => ?_
  unfold upT at q
  cases q2 : f ρ with
  | none => rw [q2] at q; cases q
  | some x => rw [q2] at q; cases q; exact ⟨G, _, F, _, q2, R, fun H' F' s1 s2 R' => k H' F' s1 R'⟩
def tAndF (f g : Sto → Option Bool) : Sto → Option Bool := fun ρ => (f ρ).bind fun c => if c then g ρ else some false
def tOrF (f g : Sto → Option Bool) : Sto → Option Bool := fun ρ => (f ρ).bind fun c => if c then some true else g ρ
def tNotF (f : Sto → Option Bool) : Sto → Option Bool := fun ρ => (f ρ).map fun c => !c
theorem pw_and1V (ha : PTV X a ta) : PWV X (.BoolOp .And [a] pos) ta := pw_and1 ha
theorem pw_or1V (ha : PTV X a ta) : PWV X (.BoolOp .Or [a] pos) ta := pw_or1 ha
theorem pw_andV (ha : PTV X a ta) (hb : PWV X (.BoolOp .And (b :: rest) pos) tb) : PWV X (.BoolOp .And (a :: b :: rest) pos) (tAndF ta tb) := by
  refine pw_imp (pw_and ha hb) fun σ H Q ⟨G, ρ, F, d, q, R, k⟩ => ?_
  unfold tAndF at q
  cases q2 : ta ρ with
  | none => rw [q2] at q; cases q
  | some x =>
    rw [q2] at q
    simp only [Option.bind_some] at q
    refine ⟨G, ρ, F, x, q2, R, fun H1 F1 f1 h1 R1 => ?_⟩
    cases x with
    | true =>
      simp only [if_true] at q ⊢
      exact ⟨G, ρ, F1, d, q, R1, fun H2 F2 f2 h2 R2 => k H2 F2 (f1.trans f2) (h1.trans h2) R2⟩
    | false =>
      simp only [Bool.false_eq_true, if_false] at q ⊢
      cases q
      exact k H1 F1 f1 h1 R1
theorem pw_orV (ha : PTV X a ta) (hb : PWV X (.BoolOp .Or (b :: rest) pos) tb) : PWV X (.BoolOp .Or (a :: b :: rest) pos) (tOrF ta tb) := by
  refine pw_imp (pw_or ha hb) fun σ H Q ⟨G, ρ, F, d, q, R, k⟩ => ?_
  unfold tOrF at q
  cases q2 : ta ρ with
  | none => rw [q2] at q; cases q
  | some x =>
    rw [q2] at q
    simp only [Option.bind_some] at q
    refine ⟨G, ρ, F, x, q2, R, fun H1 F1 f1 h1 R1 => ?_⟩
    cases x with
    | false =>
      simp only [Bool.false_eq_true, if_false] at q ⊢
      exact ⟨G, ρ, F1, d, q, R1, fun H2 F2 f2 h2 R2 => k H2 F2 (f1.trans f2) (h1.trans h2) R2⟩
    | true =>
      simp only [if_true] at q ⊢
      cases q
      exact k H1 F1 f1 h1 R1
theorem pt_notV (ha : PTV X a ta) : PTV X (.UnaryOp .Not a pos) (tNotF ta) := by
  refine pt_imp (pt_not ha) fun σ H Q ⟨G, ρ, F, d, q, R, k⟩ => ?_
  unfold tNotF at q
  cases q2 : ta ρ with
  | none => rw [q2] at q; cases q
  | some x => rw [q2] at q; cases q; exact ⟨G, ρ, F, x, q2, R, k⟩
theorem PWV.pt {e : Expr} (h : PWV X e ta) : PTV X e ta := PW.pt h
/-- as values (bools) -/
def vAndF (f g : Sto → Option D) : Sto → Option D := fun ρ => match f ρ with
  | some (.bl true) => g ρ
  | some (.bl false) => some (.bl false)
  | _ => none
def vOrF (f g : Sto → Option D) : Sto → Option D := fun ρ => match f ρ with
  | some (.bl true) => some (.bl true)
  | some (.bl false) => g ρ
  | _ => none
def vNotF (f : Sto → Option D) : Sto → Option D := fun ρ => match f ρ with
  | some (.bl c) => some (.bl (!c))
  | _ => none
theorem pv_one {op} (h : PV X .z a fa) : PV X .z (.BoolOp op [a] pos) fa := pe_one h
theorem pv_and (ha : PV X .z a fa) (hb : PV X .z (.BoolOp .And (b :: rest) pos) fb) : PV X .z (.BoolOp .And (a :: b :: rest) pos) (vAndF fa fb) := by
  refine pe_imp (pe_and ha hb) fun σ H Q ⟨G, ρ, F, d, q, R, k⟩ => ?_
  unfold vAndF at q
  split at q
  · rename_i q2
    refine ⟨G, ρ, F, _, q2, R, fun v H1 F1 f1 h1 R1 ⟨fp, r1⟩ => ⟨true, by simpa only [Rp] using r1.1, ?_⟩⟩
    simp only [if_true]
    exact ⟨G, ρ, F1, d, q, R1, fun v2 H2 F2 f2 h2 R2 r2 => k v2 H2 F2 (f1.trans f2) (h1.trans h2) R2 r2⟩
  · rename_i q2
    cases q
    refine ⟨G, ρ, F, _, q2, R, fun v H1 F1 f1 h1 R1 ⟨fp, r1⟩ => ⟨false, by simpa only [Rp] using r1.1, ?_⟩⟩
    simp only [Bool.false_eq_true, if_false]
    exact k _ H1 F1 f1 h1 R1 ⟨[], by simp only [Rp], rfl⟩
  · cases q
theorem pv_or (ha : PV X .z a fa) (hb : PV X .z (.BoolOp .Or (b :: rest) pos) fb) : PV X .z (.BoolOp .Or (a :: b :: rest) pos) (vOrF fa fb) := by
  refine pe_imp (pe_or ha hb) fun σ H Q ⟨G, ρ, F, d, q, R, k⟩ => ?_
  unfold vOrF at q
  split at q
  · rename_i q2
    cases q
    refine ⟨G, ρ, F, _, q2, R, fun v H1 F1 f1 h1 R1 ⟨fp, r1⟩ => ⟨true, by simpa only [Rp] using r1.1, ?_⟩⟩
    simp only [if_true]
    exact k _ H1 F1 f1 h1 R1 ⟨[], by simp only [Rp], rfl⟩
  · rename_i q2
    refine ⟨G, ρ, F, _, q2, R, fun v H1 F1 f1 h1 R1 ⟨fp, r1⟩ => ⟨false, by simpa only [Rp] using r1.1, ?_⟩⟩
    simp only [Bool.false_eq_true, if_false]
    exact ⟨G, ρ, F1, d, q, R1, fun v2 H2 F2 f2 h2 R2 r2 => k v2 H2 F2 (f1.trans f2) (h1.trans h2) R2 r2⟩
  · cases q
theorem pv_not (ha : PV X .z a fa) : PV X .z (.UnaryOp .Not a pos) (vNotF fa) := by
  refine pe_imp (pe_not ha) fun σ H Q ⟨G, ρ, F, d, q, R, k⟩ => ?_
  unfold vNotF at q
  split at q
  · rename_i c q2
    cases q
    refine ⟨G, ρ, F, _, q2, R, fun v H1 F1 f1 h1 R1 ⟨fp, r1⟩ => ⟨c, by simpa only [Rp] using r1.1, ?_⟩⟩
    exact k _ H1 F1 f1 h1 R1 ⟨[], by simp only [Rp], rfl⟩
  · cases q
/-- a if t else b -/
def vIf (t : Sto → Option Bool) (f g : Sto → Option D) : Sto → Option D := fun ρ => (t ρ).bind fun c => if c then f ρ else g ρ
def eIf (t : Sto → Option (Bool × Sto)) (f g : Sto → Option (D × Sto)) : Sto → Option (D × Sto) := fun ρ => (t ρ).bind fun c => if c.1 then f c.2 else g c.2
theorem pv_if (ht : PTV X c ta) (ha : PV X s a fa) (hb : PV X s b fb) : PV X s (.IfExp c a b pos) (vIf ta fa fb) := by
  refine pe_imp (pe_ifExp ht ha hb) fun σ H Q ⟨G, ρ, F, d, q, R, k⟩ => ?_
  unfold vIf at q
  cases q2 : ta ρ with
  | none => rw [q2] at q; cases q
  | some x =>
    rw [q2] at q
    simp only [Option.bind_some] at q
    refine ⟨G, ρ, F, x, q2, R, fun H1 F1 f1 h1 R1 => ?_⟩
    cases x with
    | true =>
      simp only [if_true] at q ⊢
      exact ⟨G, ρ, F1, d, q, R1, fun v H2 F2 f2 h2 R2 => k v H2 F2 (f1.trans f2) (h1.trans h2) R2⟩
    | false =>
      simp only [Bool.false_eq_true, if_false] at q ⊢
      exact ⟨G, ρ, F1, d, q, R1, fun v H2 F2 f2 h2 R2 => k v H2 F2 (f1.trans f2) (h1.trans h2) R2⟩
theorem ev_if (ht : ETV X c ua) (ha : EV X a ga) (hb : EV X b gb) : EV X (.IfExp c a b pos) (eIf ua ga gb) := by
  refine pe_imp (pe_ifExp ht ha hb) fun σ H Q ⟨G, ρ, F, d, ρ', q, R, k⟩ => ?_
  unfold eIf at q
  cases q2 : ua ρ with
  | none => rw [q2] at q; cases q
  | some x =>
    obtain ⟨x, ρ1⟩ := x
    rw [q2] at q
    simp only [Option.bind_some] at q
    refine ⟨G, ρ, F, x, ρ1, q2, R, fun H1 F1 f1 R1 => ?_⟩
    cases x with
    | true =>
      simp only [if_true] at q ⊢
      exact ⟨G, ρ1, F1, d, ρ', q, R1, fun v H2 F2 f2 R2 => k v H2 F2 (f1.trans f2) R2⟩
    | false =>
      simp only [Bool.false_eq_true, if_false] at q ⊢
      exact ⟨G, ρ1, F1, d, ρ', q, R1, fun v H2 F2 f2 R2 => k v H2 F2 (f1.trans f2) R2⟩
end

/-! ### argument lists, displays -/
section
variable {X : Cx} {e : Expr} {es : List Expr} {s : Sh} {fa : Sto → Option D} {fs : Sto → Option (List D)} {ga : Sto → Option (D × Sto)} {gs : Sto → Option (List D × Sto)} {pos : Pos}
def aNil : Sto → Option (List D) := fun _ => some []
def aCons (f : Sto → Option D) (g : Sto → Option (List D)) : Sto → Option (List D) := fun ρ => (f ρ).bind fun d => (g ρ).map fun ds => d :: ds
def bNil : Sto → Option (List D × Sto) := fun ρ => some ([], ρ)
def bCons (f : Sto → Option (D × Sto)) (g : Sto → Option (List D × Sto)) : Sto → Option (List D × Sto) := fun ρ => (f ρ).bind fun d => (g d.2).map fun ds => (d.1 :: ds.1, ds.2)
theorem pav_nil : PAV X [] aNil := pa_imp pa_nil fun σ H Q ⟨G, ρ, F, ds, q, R, k⟩ => by
  cases q
  exact k [] H F (Same.refl _) (Same.refl _) R RpL.nil
theorem pav_cons (ha : PV X .z e fa) (hr : PAV X es fs) (hs : starEach (e :: es) X.env = (false, eval e X.env) :: starEach es X.env := by rfl) : PAV X (e :: es) (aCons fa fs) := by
  refine pa_imp (pa_cons ha hr hs) fun σ H Q ⟨G, ρ, F, ds, q, R, k⟩ => ?_
  unfold aCons at q
  cases q1 : fa ρ with
  | none => rw [q1] at q; cases q
  | some x =>
    cases q2 : fs ρ with
    | none => rw [q1, q2] at q; cases q
    | some xs =>
      rw [q1, q2] at q
      cases q
      refine ⟨G, ρ, F, x, q1, R, fun v H1 F1 f1 h1 R1 ⟨fp, r1⟩ => ?_⟩
      exact ⟨G, ρ, F1, xs, q2, R1, fun vs H2 F2 f2 h2 R2 r2 => k _ H2 F2 (f1.trans f2) (h1.trans h2) R2 (RpL.cons (Rp.mono f2 _ _ r1.1) r2)⟩
theorem eav_nil : EAV X [] bNil := pa_imp pa_nil fun σ H Q ⟨G, ρ, F, ds, ρ', q, R, k⟩ => by
  cases q
  exact k [] H F (Same.refl _) R RpL.nil
theorem eav_cons (ha : EV X e ga) (hr : EAV X es gs) (hs : starEach (e :: es) X.env = (false, eval e X.env) :: starEach es X.env := by rfl) : EAV X (e :: es) (bCons ga gs) := by
  refine pa_imp (pa_cons ha hr hs) fun σ H Q ⟨G, ρ, F, ds, ρ', q, R, k⟩ => ?_
  unfold bCons at q
  cases q1 : ga ρ with
  | none => rw [q1] at q; cases q
  | some x =>
    obtain ⟨x, ρ1⟩ := x
    rw [q1] at q
    simp only [Option.bind_some] at q
    cases q2 : gs ρ1 with
    | none => rw [q2] at q; cases q
    | some xs =>
      obtain ⟨xs, ρ2⟩ := xs
      rw [q2] at q
      cases q
      refine ⟨G, ρ, F, x, ρ1, q1, R, fun v H1 F1 f1 R1 r1 => ?_⟩
      exact ⟨G, ρ1, F1, xs, _, q2, R1, fun vs H2 F2 f2 R2 r2 => k _ H2 F2 (f1.trans f2) R2 (RpL.cons (Rp.mono f2 _ _ r1) r2)⟩
/-- a tuple, a list of frozen items -/
def vTup (fs : Sto → Option (List D)) : Sto → Option D := fun ρ => (fs ρ).bind fun ds => if ds.length ≤ 1000000 then some (.tup ds) else none
def vLst (fs : Sto → Option (List D)) : Sto → Option D := fun ρ => (fs ρ).bind fun ds => if ds.length ≤ 1000000 then some (.lst ds) else none
def eTup (fs : Sto → Option (List D × Sto)) : Sto → Option (D × Sto) := fun ρ => (fs ρ).bind fun ds => if ds.1.length ≤ 1000000 then some (.tup ds.1, ds.2) else none
def eLst (fs : Sto → Option (List D × Sto)) : Sto → Option (D × Sto) := fun ρ => (fs ρ).bind fun ds => if ds.1.length ≤ 1000000 then some (.lst ds.1, ds.2) else none
theorem mill_line {n : Nat} (h : n ≤ 1000000) : n ≤ sizeLine := by rw [sizeLine_eq]; omega
theorem Rel.putTup {K : PySem.W.Frag} {G H F : Hp} {ρ : Sto} {σ : St} {ds : List D} {vs : List V} {p : Addr} (R : Rel K G ρ σ H F) (r : RpL K F ds vs) (hp : H p = none) :
    Rel K G ρ σ (upd H p (.tup vs)) (upd F p (.tup vs)) ∧ Same F (upd F p (.tup vs)) ∧ Same H (upd H p (.tup vs)) ∧ Rp K (upd F p (.tup vs)) (.tup ds) (.ref p) := by
  have hF : F p = none := Same.free R.sub hp
  refine ⟨R.put hp, Same.upd hF, Same.upd hp, ?_⟩
  simp only [Rp]
  exact ⟨p, vs, rfl, SqT.of upd_same, RpL.mono (Same.upd hF) _ _ r⟩
theorem OwL.z {K : PySem.W.Frag} {H F : Hp} : ∀ {ds : List D} {vs : List V}, RpL K F ds vs → OwL (Ow K H F .z) ds vs []
  | [], vs, h => ⟨h, rfl⟩
  | d :: ds, vs, h => by
    obtain ⟨v, r, rfl, h1, h2⟩ := RpL.cons_inv h
    exact ⟨v, r, [], [], rfl, ⟨h1, rfl⟩, OwL.z h2, rfl⟩
theorem OwL.unz {K : PySem.W.Frag} {H F : Hp} : ∀ {ds : List D} {vs : List V} {fp : List Addr}, OwL (Ow K H F .z) ds vs fp → RpL K F ds vs ∧ fp = []
  | [], vs, fp, h => h
  | d :: ds, vs, fp, h => by
    obtain ⟨v, r, f1, f2, rfl, ⟨h1, rfl⟩, h2, rfl⟩ := h
    obtain ⟨h3, rfl⟩ := OwL.unz h2
    exact ⟨RpL.cons h1 h3, rfl⟩
/-- a new owned object ahead -/
theorem Rel.addNew {K : PySem.W.Frag} {G H F : Hp} {ρ : Sto} {σ : St} {p : Addr} {o : HO} {s : Sh} {d : D} (R : Rel K G ρ σ H F) (hp : H p = none) (h : Ow K (upd H p o) F s d (.ref p) [p]) :
    Rel K G (some (s, d) :: ρ) (some (.ref p) :: σ) (upd H p o) F := by
  obtain ⟨fps, w⟩ := R
  have hF : F p = none := Same.free w.sub hp
  have hG : G p = none := Same.free w.gsub hp
  have ne : ∀ i, p ∉ fps i := fun i m => by
    obtain ⟨_, _, u, q⟩ := w.out i p m
    rw [hp] at q; cases q
  have R' : Rel K G ρ σ (upd H p o) F := Rel.grow ⟨fps, w⟩ (Same.upd hp)
  refine ⟨shiftF [p] fps, fun i s' d' q => ?_, fun i => ?_, fun i j a m1 m2 => ?_, fun i a m => ?_, by simp [w.len], fun a u q => Same.upd hp a u (w.sub a u q), fun a u q => Same.upd hp a u (w.gsub a u q), w.fg⟩
  · cases i with
    | zero => simp at q; obtain ⟨rfl, rfl⟩ := q; exact ⟨_, rfl, h⟩
    | succ i =>
      obtain ⟨v, q1, q2⟩ := w.slot i s' d' (by simpa using q)
      exact ⟨v, by simpa using q1, q2.mono (Same.refl _) fun a _ u z => Same.upd hp a u z⟩
  · cases i with
    | zero => exact List.nodup_cons.mpr ⟨by simp, List.nodup_nil⟩
    | succ i => exact w.nd i
  · cases i with
    | zero =>
      cases j with
      | zero => rfl
      | succ j =>
        have e : a = p := by simpa [shiftF] using m1
        exact (ne j (e ▸ m2)).elim
    | succ i =>
      cases j with
      | zero =>
        have e : a = p := by simpa [shiftF] using m2
        exact (ne i (e ▸ m1)).elim
      | succ j => exact congrArg _ (w.dis i j a m1 m2)
  · cases i with
    | zero =>
      have e : a = p := by simpa [shiftF] using m
      subst e
      exact ⟨hF, hG, o, upd_same⟩
    | succ i =>
      obtain ⟨q1, q2, u, q3⟩ := w.out i a m
      exact ⟨q1, q2, u, Same.upd hp a u q3⟩
theorem Rel.addLst {K : PySem.W.Frag} {G H F : Hp} {ρ : Sto} {σ : St} {ds : List D} {vs : List V} {p : Addr} (R : Rel K G ρ σ H F) (r : RpL K F ds vs) (hp : H p = none) :
    Rel K G (some (.seq .z, .lst ds) :: ρ) (some (.ref p) :: σ) (upd H p (.lst vs)) F :=
  R.addNew hp ⟨p, vs, [], rfl, upd_same, OwL.z r, rfl⟩
theorem pv_tup {k : Nat} (h : PAV X es fs) : PV X .z (.Tuple es k pos) (vTup fs) := by
  refine pe_imp (pe_tup h) fun σ H Q ⟨G, ρ, F, d, q, R, k⟩ => ?_
  unfold vTup at q
  cases q1 : fs ρ with
  | none => rw [q1] at q; cases q
  | some xs =>
    rw [q1] at q
    simp only [Option.bind_some] at q
    split at q
    · rename_i hz
      cases q
      refine ⟨G, ρ, F, xs, q1, R, fun vs H1 F1 f1 h1 R1 r1 => ⟨?_, fun p hp => ?_⟩⟩
      · rw [← RpL.length r1]; exact mill_line hz
      · obtain ⟨R2, f2, h2, r2⟩ := R1.putTup r1 hp
        exact k _ _ _ (f1.trans f2) (h1.trans h2) R2 ⟨[], r2, rfl⟩
    · cases q
theorem fp_lst (h : PAV X es fs) : FP X (.seq .z) (.List es pos) (vLst fs) := by
  refine pe_imp (pe_lst h) fun σ H Q ⟨G, ρ, F, d, q, R, k⟩ => ?_
  unfold vLst at q
  cases q1 : fs ρ with
  | none => rw [q1] at q; cases q
  | some xs =>
    rw [q1] at q
    simp only [Option.bind_some] at q
    split at q
    · rename_i hz
      cases q
      refine ⟨G, ρ, F, xs, q1, R, fun vs H1 F1 f1 h1 R1 r1 => ⟨?_, fun p hp => ?_⟩⟩
      · rw [← RpL.length r1]; exact mill_line hz
      · exact k _ _ _ f1 (h1.trans (Same.upd hp)) (R1.addLst r1 hp)
    · cases q
theorem ev_tup {k : Nat} (h : EAV X es gs) : EV X (.Tuple es k pos) (eTup gs) := by
  refine pe_imp (pe_tup h) fun σ H Q ⟨G, ρ, F, d, ρ', q, R, k⟩ => ?_
  unfold eTup at q
  cases q1 : gs ρ with
  | none => rw [q1] at q; cases q
  | some xs =>
    obtain ⟨xs, ρ1⟩ := xs
    rw [q1] at q
    simp only [Option.bind_some] at q
    split at q
    · rename_i hz
      cases q
      refine ⟨G, ρ, F, xs, _, q1, R, fun vs H1 F1 f1 R1 r1 => ⟨?_, fun p hp => ?_⟩⟩
      · rw [← RpL.length r1]; exact mill_line hz
      · obtain ⟨R2, f2, h2, r2⟩ := R1.putTup r1 hp
        exact k _ _ _ (f1.trans f2) R2 r2
    · cases q
theorem ef_lst (h : EAV X es gs) : EF X (.seq .z) (.List es pos) (eLst gs) := by
  refine pe_imp (pe_lst h) fun σ H Q ⟨G, ρ, F, d, ρ', q, R, k⟩ => ?_
  unfold eLst at q
  cases q1 : gs ρ with
  | none => rw [q1] at q; cases q
  | some xs =>
    obtain ⟨xs, ρ1⟩ := xs
    rw [q1] at q
    simp only [Option.bind_some] at q
    split at q
    · rename_i hz
      cases q
      refine ⟨G, ρ, F, xs, _, q1, R, fun vs H1 F1 f1 R1 r1 => ⟨?_, fun p hp => ?_⟩⟩
      · rw [← RpL.length r1]; exact mill_line hz
      · exact k _ _ _ f1 (R1.addLst r1 hp)
    · cases q
end
end VL

set_option Elab.async false
set_option linter.all false
set_option maxRecDepth 100000
/-! VLc: what is walked, targets, comprehensions, statements, loops. -/
namespace VL
open PySem L2

/-! ### stores made from one another -/
section
variable {K : PySem.W.Frag} {G H H' F F' : Hp} {ρ ρ1 : Sto} {σ σ1 : St}
theorem OwL.snoc {R : D → V → List Addr → Prop} {d : D} {v : V} {f : List Addr} (r : R d v f) : ∀ {ds : List D} {vs : List V} {fp : List Addr}, OwL R ds vs fp → OwL R (ds ++ [d]) (vs ++ [v]) (fp ++ f)
  | [], vs, fp, h => by
    obtain ⟨rfl, rfl⟩ := h
    exact ⟨v, [], f, [], rfl, r, ⟨rfl, rfl⟩, by simp⟩
  | e :: ds, vs, fp, h => by
    obtain ⟨u, t, f1, f2, rfl, h1, h2, rfl⟩ := h
    exact ⟨u, t ++ [v], f1, f2 ++ f, rfl, h1, OwL.snoc r h2, by simp⟩
/-- an owned list ahead takes what stands next -/
theorem Rel.snoc {s : Sh} {ds : List D} {d : D} {va v : V} (h : Rel K G (some (.seq s, .lst ds) :: some (s, d) :: ρ) (some va :: some v :: σ) H F) :
    ∃ a vs, va = .ref a ∧ H a = some (.lst vs) ∧ vs.length = ds.length ∧ Rel K G (some (.seq s, .lst (ds ++ [d])) :: ρ) (some va :: σ) (upd H a (.lst (vs ++ [v]))) F := by
  obtain ⟨fps, w⟩ := h
  obtain ⟨u, q1, q2⟩ := w.slot 0 _ _ rfl
  simp at q1; subst q1
  obtain ⟨a, vs, fp', rfl, ha, ho, hf⟩ := q2
  obtain ⟨u, q3, q4⟩ := w.slot 1 _ _ rfl
  simp at q3; subst q3
  have n0 := w.nd 0
  rw [hf] at n0
  have a0 : a ∈ fps 0 := by rw [hf]; exact List.mem_cons_self
  have ne1 : ∀ j, j ≠ 0 → ∀ b ∈ fps j, b ≠ a := fun j hj b m z => hj (w.dis j 0 b m (by rw [z]; exact a0))
  have k1 : ∀ b o, b ≠ a → H b = some o → upd H a (.lst (vs ++ [v])) b = some o := fun b o hb e => by rw [upd_ne hb]; exact e
  refine ⟨a, vs, rfl, ha, (OwL.length ho).symm, shiftF (a :: (fp' ++ fps 1)) (fun j => fps (j + 2)), fun i s' d' q => ?_, fun i => ?_, fun i j b m1 m2 => ?_, fun i b m => ?_, by simpa using w.len, fun b o q => ?_, fun b o q => ?_, w.fg⟩
  · cases i with
    | zero =>
      simp at q; obtain ⟨rfl, rfl⟩ := q
      refine ⟨.ref a, rfl, a, vs ++ [v], fp' ++ fps 1, rfl, upd_same, OwL.snoc (q4.mono (Same.refl _) fun b m o e => k1 b o (ne1 1 (by decide) b m) e) (OwL.mono ho fun d v f m r => r.mono (Same.refl _) fun b z o e => k1 b o (fun y => ?_) e), rfl⟩
      exact (List.nodup_cons.mp n0).1 (y ▸ m b z)
    | succ i =>
      obtain ⟨u, q5, q6⟩ := w.slot (i + 2) s' d' (by simpa using q)
      exact ⟨u, by simpa using q5, q6.mono (Same.refl _) fun b m o e => k1 b o (ne1 (i + 2) (by omega) b m) e⟩
  · cases i with
    | zero =>
      refine List.nodup_cons.mpr ⟨fun m => ?_, List.nodup_append.mpr ⟨(List.nodup_cons.mp n0).2, w.nd 1, fun x m1 y m2 e => ?_⟩⟩
      · rcases List.mem_append.mp m with m | m
        · exact (List.nodup_cons.mp n0).1 m
        · exact ne1 1 (by decide) a m rfl
      · subst e
        have := w.dis 0 1 x (by rw [hf]; exact List.mem_cons_of_mem _ m1) m2
        cases this
    | succ i => exact w.nd _
  · have in0 : ∀ b, b ∈ a :: (fp' ++ fps 1) → b ∈ fps 0 ∨ b ∈ fps 1 := fun b m => by
      rcases List.mem_cons.mp m with rfl | m
      · exact .inl a0
      · rcases List.mem_append.mp m with m | m
        · exact .inl (by rw [hf]; exact List.mem_cons_of_mem _ m)
        · exact .inr m
    cases i with
    | zero =>
      cases j with
      | zero => rfl
      | succ j =>
        rcases in0 b m1 with z | z
        · have := w.dis _ _ b z m2; omega
        · have := w.dis _ _ b z m2; omega
    | succ i =>
      cases j with
      | zero =>
        rcases in0 b m2 with z | z
        · have := w.dis _ _ b z m1; omega
        · have := w.dis _ _ b z m1; omega
      | succ j => have := w.dis _ _ b m1 m2; omega
  · have go : ∀ j, b ∈ fps j → F b = none ∧ G b = none ∧ ∃ o, upd H a (.lst (vs ++ [v])) b = some o := fun j m => by
      obtain ⟨p1, p2, o, p3⟩ := w.out j b m
      refine ⟨p1, p2, ?_⟩
      by_cases hb : b = a
      · subst hb; exact ⟨_, upd_same⟩
      · exact ⟨o, k1 b o hb p3⟩
    cases i with
    | zero =>
      rcases List.mem_cons.mp m with rfl | m
      · exact go 0 a0
      · rcases List.mem_append.mp m with m | m
        · exact go 0 (by rw [hf]; exact List.mem_cons_of_mem _ m)
        · exact go 1 m
    | succ i => exact go _ m
  · refine k1 b o (fun z => ?_) (w.sub b o q)
    rw [z, (w.out 0 a a0).1] at q; cases q
  · refine k1 b o (fun z => ?_) (w.gsub b o q)
    rw [z, (w.out 0 a a0).2.1] at q; cases q

/-- slots forgotten -/
def wipeS (ρ : Sto) : List Nat → Sto
  | [] => ρ
  | v :: vs => (wipeS ρ vs).set v none
theorem Rel.wipe (h : Rel K G ρ σ H F) : ∀ vs : List Nat, Rel K G (wipeS ρ vs) (wipe σ vs) H F
  | [] => h
  | v :: vs => (Rel.wipe h vs).forgetV
theorem wipeS_ne {j : Nat} : ∀ {vs : List Nat}, j ∉ vs → (wipeS ρ vs)[j]? = ρ[j]?
  | [], _ => rfl
  | v :: vs, h => by
    unfold wipeS
    rw [List.getElem?_set_ne (fun e => h (by simp [e]))]
    exact wipeS_ne fun m => h (List.mem_cons_of_mem _ m)
theorem wipe_ne {j : Nat} : ∀ {vs : List Nat}, j ∉ vs → (wipe σ vs)[j]? = σ[j]?
  | [], _ => rfl
  | v :: vs, h => by
    unfold wipe
    rw [List.getElem?_set_ne (fun e => h (by simp [e]))]
    exact wipe_ne fun m => h (List.mem_cons_of_mem _ m)
theorem wipeS_length : ∀ vs : List Nat, (wipeS ρ vs).length = ρ.length
  | [] => rfl
  | v :: vs => by unfold wipeS; rw [List.length_set, wipeS_length vs]
theorem wipe_get {j : Nat} : ∀ {vs : List Nat}, j ∈ vs → j < σ.length → (wipe σ vs)[j]? = some none
  | v :: vs, m, hl => by
    unfold wipe
    by_cases e : v = j
    · subst e; rw [List.getElem?_set_self (by rw [wipe_length]; exact hl)]
    · rw [List.getElem?_set_ne e]
      exact wipe_get ((List.mem_cons.mp m).resolve_left fun z => e z.symm) hl
/-- σ1 differs from σ at the places ws alone -/
structure Dif (ws : List Nat) (σ σ1 : St) : Prop where
  len : σ1.length = σ.length
  at' : ∀ j, j ∉ ws → σ1[j]? = σ[j]?
theorem Dif.refl (ws : List Nat) (σ : St) : Dif ws σ σ := ⟨rfl, fun _ _ => rfl⟩
theorem Dif.trans {ws : List Nat} {σ σ1 σ2 : St} (a : Dif ws σ σ1) (b : Dif ws σ1 σ2) : Dif ws σ σ2 := ⟨b.len.trans a.len, fun j h => (b.at' j h).trans (a.at' j h)⟩
theorem Dif.mono {ws ws' : List Nat} {σ σ1 : St} (a : Dif ws σ σ1) (h : ∀ j ∈ ws, j ∈ ws') : Dif ws' σ σ1 := ⟨a.len, fun j m => a.at' j fun z => m (h j z)⟩
theorem Dif.set {i : Nat} {v : Option V} : Dif [i] σ (σ.set i v) := ⟨by simp, fun j h => by rw [List.getElem?_set_ne]; intro e; exact h (by simp [e])⟩
theorem Dif.wipe {ws vs : List Nat} (h : Dif ws (wipe σ vs) σ1) (hs : ∀ j ∈ ws, j ∈ vs) : L2.wipe σ1 vs = L2.wipe σ vs := by
  have hl := h.len
  rw [wipe_length] at hl
  refine List.ext_getElem? fun j => ?_
  by_cases hj : j ∈ vs
  · by_cases hlt : j < σ.length
    · rw [wipe_get hj hlt, wipe_get hj (by omega)]
    · rw [List.getElem?_eq_none (by rw [wipe_length]; omega), List.getElem?_eq_none (by rw [wipe_length]; omega)]
  · rw [wipe_ne hj, h.at' j fun m => hj (hs j m)]
/-- the slots vs hold nothing that is owned -/
def PlainAt (ρ : Sto) (vs : List Nat) : Bool := vs.all fun j => match ρ[j]? with
  | some (some (.seq _, _)) => false
  | some (some (.obj _, _)) => false
  | _ => true
theorem PlainAt.get {vs : List Nat} (h : PlainAt ρ vs = true) {j : Nat} (m : j ∈ vs) {s : Sh} {d : D} (e : ρ[j]? = some (some (s, d))) : s = .z := by
  have := List.all_eq_true.mp h j m
  rw [e] at this
  cases s with
  | z => rfl
  | seq _ => cases this
  | obj _ => cases this
/-- the slots vs of ρ, all others of ρ1 -/
def patch (vs : List Nat) (ρ ρ1 : Sto) : Sto := (List.range ρ.length).map fun j => if j ∈ vs then (ρ[j]?).join else (ρ1[j]?).join
theorem patch_get {vs : List Nat} {j : Nat} (h : j < ρ.length) : (patch vs ρ ρ1)[j]? = some (if j ∈ vs then (ρ[j]?).join else (ρ1[j]?).join) := by
  unfold patch
  rw [List.getElem?_map, List.getElem?_range h]; rfl
theorem patch_some {vs : List Nat} {j : Nat} {s : Sh} {d : D} (e : (patch vs ρ ρ1)[j]? = some (some (s, d))) : (j ∈ vs ∧ ρ[j]? = some (some (s, d))) ∨ (j ∉ vs ∧ ρ1[j]? = some (some (s, d))) := by
  by_cases h : j < ρ.length
  · rw [patch_get h] at e
    simp only [Option.some.injEq] at e
    split at e
    · rename_i m
      refine .inl ⟨m, ?_⟩
      cases q : ρ[j]? with
      | none => rw [q] at e; cases e
      | some x =>
        rw [q] at e
        have e : x = some (s, d) := by simpa using e
        rw [e]
    · rename_i m
      refine .inr ⟨m, ?_⟩
      cases q : ρ1[j]? with
      | none => rw [q] at e; cases e
      | some x =>
        rw [q] at e
        have e : x = some (s, d) := by simpa using e
        rw [e]
  · rw [List.getElem?_eq_none (by unfold patch; simpa using h)] at e; cases e
/-- back from a block: what stood at vs is as it was -/
theorem Rel.patch {G0 : Hp} {vs : List Nat} (R : Rel K G0 ρ σ H F) (R1 : Rel K G ρ1 σ1 H' F') (e : Same F F') (pl : PlainAt ρ vs = true) (df : Dif vs σ σ1) : Rel K G (patch vs ρ ρ1) σ H' F' := by
  obtain ⟨f0, w0⟩ := R
  obtain ⟨f1, w1⟩ := R1
  refine ⟨fun j => if j ∈ vs then [] else f1 j, fun j s d q => ?_, fun j => ?_, fun i j a m1 m2 => ?_, fun j a m => ?_, by unfold VL.patch; simp [w0.len], w1.sub, w1.gsub, w1.fg⟩
  · rcases patch_some q with ⟨m, q⟩ | ⟨m, q⟩
    · obtain ⟨v, q1, q2⟩ := w0.slot j s d q
      have hs := PlainAt.get pl m q
      subst hs
      refine ⟨v, q1, Rp.mono e _ _ q2.1, ?_⟩
      simp [m]
    · obtain ⟨v, q1, q2⟩ := w1.slot j s d q
      rw [df.at' j m] at q1
      refine ⟨v, q1, ?_⟩
      simp only [m, if_false]
      exact q2
  · show (if j ∈ vs then [] else f1 j).Nodup
    split
    · exact List.nodup_nil
    · exact w1.nd j
  · have m1 : a ∈ (if i ∈ vs then [] else f1 i) := m1
    have m2 : a ∈ (if j ∈ vs then [] else f1 j) := m2
    split at m1
    · cases m1
    · split at m2
      · cases m2
      · exact w1.dis i j a m1 m2
  · have m : a ∈ (if j ∈ vs then [] else f1 j) := m
    split at m
    · cases m
    · exact w1.out j a m
/-- the same store again -/
theorem Rel.back {G0 : Hp} {vs : List Nat} (R : Rel K G0 ρ σ H F) (R1 : Rel K G ρ1 σ1 H' F') (e : Same F F') (pl : PlainAt ρ vs = true) (df : Dif vs σ σ1) (d1 : ∀ j, j ∉ vs → ρ1[j]? = ρ[j]?) : Rel K G ρ σ H' F' := by
  have R2 := Rel.patch (vs := vs) R R1 e pl df
  have hl := R.len
  have hl1 := R1.len
  have e2 : VL.patch vs ρ ρ1 = ρ := by
    refine List.ext_getElem? fun j => ?_
    by_cases h : j < ρ.length
    · rw [patch_get h]
      by_cases m : j ∈ vs
      · rw [if_pos m, List.getElem?_eq_getElem h]; rfl
      · rw [if_neg m, d1 j m, List.getElem?_eq_getElem h]; rfl
    · rw [List.getElem?_eq_none (by unfold VL.patch; simpa using h), List.getElem?_eq_none (by omega)]
  rw [e2] at R2
  exact R2
end

/-! ### what is walked -/
structure ItV (K : PySem.W.Frag) (J : It) (ds : List D) (F0 : Hp) : Prop where
  go : ∀ i H F, i < ds.length → Same F0 F → Same F H → J.go i H
  stop : ∀ H F, Same F0 F → Same F H → J.stop ds.length H
  yld : ∀ i H x H', J.yld i H x H' → ∀ d, ds[i]? = some d → ∀ G ρ σ F, Same F0 F → Rel K G ρ σ H F → ∃ F', Same F F' ∧ Same H H' ∧ Rel K G ρ σ H' F' ∧ Rp K F' d x
theorem ItV.mono {K : PySem.W.Frag} {J : It} {ds : List D} {F0 F1 : Hp} (h : ItV K J ds F0) (e : Same F0 F1) : ItV K J ds F1 :=
  ⟨fun i H F hi s => h.go i H F hi (e.trans s), fun H F s => h.stop H F (e.trans s), fun i H x H' y d q G ρ σ F s => h.yld i H x H' y d q G ρ σ F (e.trans s)⟩
def tIP (K : PySem.W.Frag) (f : Sto → Option (List D)) : TI := fun σ H R => ∃ G ρ F ds, f ρ = some ds ∧ Rel K G ρ σ H F ∧
  ∀ J H' F', Same F F' → Same H H' → Rel K G ρ σ H' F' → ItV K J ds F' → R J H'
def tIE (K : PySem.W.Frag) (f : Sto → Option (List D × Sto)) : TI := fun σ H R => ∃ G ρ F ds ρ', f ρ = some (ds, ρ') ∧ Rel K G ρ σ H F ∧
  ∀ J H' F', Same F F' → Rel K G ρ' σ H' F' → ItV K J ds F' → R J H'
abbrev IPV (X : Cx) (tg e : Expr) (f : Sto → Option (List D)) : Prop := PI X tg e (tIP X.K f)
abbrev IEV (X : Cx) (tg e : Expr) (f : Sto → Option (List D × Sto)) : Prop := PI X tg e (tIE X.K f)
section
variable {X : Cx} {tg e a b : Expr} {fa : Sto → Option D} {ga : Sto → Option (D × Sto)} {pos p : Pos}
def upI (f : Sto → Option (List D)) : Sto → Option (List D × Sto) := fun ρ => (f ρ).map fun d => (d, ρ)
theorem IPV.iev {f : Sto → Option (List D)} (h : IPV X tg e f) : IEV X tg e (upI f) := by
  refine pi_imp h fun σ H Q ⟨G, ρ, F, d, ρ', q, R, k⟩ => ?_
  unfold upI at q
  cases q2 : f ρ with
  | none => rw [q2] at q; cases q
  | some x => rw [q2] at q; cases q; exact ⟨G, _, F, _, q2, R, fun J H' F' s1 s2 R' => k J H' F' s1 R'⟩
theorem itv_list {K : PySem.W.Frag} {F : Hp} {a : Addr} {vs : List V} {ds : List D} (h : SqL K F a vs) (r : RpL K F ds vs) : ItV K (Itl K a) ds F := by
  have hl := RpL.length r
  refine ⟨fun i H F' hi s1 s2 => ⟨vs, vs[i]'(by omega), Same.seq (s1.trans s2) h, by simp [show i < vs.length by omega]⟩, fun H F' s1 s2 => ⟨vs, Same.seq (s1.trans s2) h, by omega⟩, fun i H x H' y d q G ρ σ F' s1 R => ?_⟩
  obtain ⟨rfl, y⟩ := y
  have e := y vs (Same.seq (s1.trans R.sub) h)
  exact ⟨F', Same.refl _, Same.refl _, R, Rp.mono s1 _ _ (RpL.get2 r i d x q e)⟩
theorem itv_tup {K : PySem.W.Frag} {F : Hp} {a : Addr} {vs : List V} {ds : List D} (h : SqT K F a vs) (r : RpL K F ds vs) : ItV K (Itt K a) ds F := by
  have hl := RpL.length r
  refine ⟨fun i H F' hi s1 s2 => ⟨vs, vs[i]'(by omega), Same.tupT (s1.trans s2) h, by simp [show i < vs.length by omega]⟩, fun H F' s1 s2 => ⟨vs, Same.tupT (s1.trans s2) h, by omega⟩, fun i H x H' y d q G ρ σ F' s1 R => ?_⟩
  obtain ⟨rfl, y⟩ := y
  have e := y vs (Same.tupT (s1.trans R.sub) h)
  exact ⟨F', Same.refl _, Same.refl _, R, Rp.mono s1 _ _ (RpL.get2 r i d x q e)⟩
/-- the items of a list, a tuple -/
def dItems : D → Option (List D)
  | .lst ds => some ds
  | .tup ds => some ds
  | _ => none
def vItems (f : Sto → Option D) : Sto → Option (List D) := fun ρ => (f ρ).bind dItems
def eItems (f : Sto → Option (D × Sto)) : Sto → Option (List D × Sto) := fun ρ => (f ρ).bind fun x => (dItems x.1).map fun ds => (ds, x.2)
theorem pi_or {t u : TI} (h : PI X tg e t) (h' : PI X tg e u) : PI X tg e (fun σ H R => t σ H R ∨ u σ H R) :=
  ⟨fun pins s σ H R I q => q.elim (h.run pins s σ H R I) (h'.run pins s σ H R I)⟩
theorem ip_seq (h : PV X .z e fa) : IPV X tg e (vItems fa) := by
  refine pi_imp (pi_or (pi_list h) (pi_tup h)) fun σ H Q ⟨G, ρ, F, ds, q, R, k⟩ => ?_
  unfold vItems at q
  cases q1 : fa ρ with
  | none => rw [q1] at q; cases q
  | some x =>
    rw [q1] at q
    simp only [Option.bind_some] at q
    cases x <;> simp only [dItems] at q <;> cases q
    · refine .inr ⟨G, ρ, F, _, q1, R, fun v H1 F1 f1 h1 R1 ⟨fp, r1⟩ => ?_⟩
      have r2 := r1.1
      simp only [Rp] at r2
      obtain ⟨a, vs, rfl, ht, hr⟩ := r2
      exact ⟨a, rfl, ⟨vs, Same.tupT R1.sub ht⟩, k _ H1 F1 f1 h1 R1 (itv_tup ht hr)⟩
    · refine .inl ⟨G, ρ, F, _, q1, R, fun v H1 F1 f1 h1 R1 ⟨fp, r1⟩ => ?_⟩
      have r2 := r1.1
      simp only [Rp] at r2
      obtain ⟨a, vs, rfl, ht, hr⟩ := r2
      exact ⟨a, rfl, ⟨vs, Same.seq R1.sub (SqL.of ht)⟩, k _ H1 F1 f1 h1 R1 (itv_list (SqL.of ht) hr)⟩
theorem ie_seq (h : EV X e ga) : IEV X tg e (eItems ga) := by
  refine pi_imp (pi_or (pi_list h) (pi_tup h)) fun σ H Q ⟨G, ρ, F, ds, ρ', q, R, k⟩ => ?_
  unfold eItems at q
  cases q1 : ga ρ with
  | none => rw [q1] at q; cases q
  | some x =>
    obtain ⟨x, ρ1⟩ := x
    rw [q1] at q
    simp only [Option.bind_some] at q
    cases x <;> simp only [dItems] at q <;> cases q
    · refine .inr ⟨G, ρ, F, _, _, q1, R, fun v H1 F1 f1 R1 r2 => ?_⟩
      simp only [Rp] at r2
      obtain ⟨a, vs, rfl, ht, hr⟩ := r2
      exact ⟨a, rfl, ⟨vs, Same.tupT R1.sub ht⟩, k _ H1 F1 f1 R1 (itv_tup ht hr)⟩
    · refine .inl ⟨G, ρ, F, _, _, q1, R, fun v H1 F1 f1 R1 r2 => ?_⟩
      simp only [Rp] at r2
      obtain ⟨a, vs, rfl, ht, hr⟩ := r2
      exact ⟨a, rfl, ⟨vs, Same.seq R1.sub (SqL.of ht)⟩, k _ H1 F1 f1 R1 (itv_list (SqL.of ht) hr)⟩
/-- i, i + 1, .., below j -/
def dRange (i j : Int) : List D := (List.range (j - i).toNat).map fun k => .int (i + (k : Nat))
theorem dRange_len (i j : Int) : (dRange i j).length = (j - i).toNat := by simp [dRange]
theorem itv_range {K : PySem.W.Frag} {F : Hp} {i j : Int} : ItV K (Itr i (j - i).toNat) (dRange i j) F := by
  refine ⟨fun k H F' hk _ _ => by rw [dRange_len] at hk; exact hk, fun H F' _ _ => by rw [dRange_len]; exact Nat.le_refl _, fun k H x H' y d q G ρ σ F' s1 R => ?_⟩
  obtain ⟨rfl, rfl⟩ := y
  refine ⟨F', Same.refl _, Same.refl _, R, ?_⟩
  unfold dRange at q
  rw [List.getElem?_map] at q
  cases q2 : (List.range (j - i).toNat)[k]? with
  | none => rw [q2] at q; cases q
  | some x =>
    rw [q2] at q
    have e : x = k := by
      obtain ⟨hk, e⟩ := List.getElem?_eq_some_iff.mp q2
      simpa using e.symm
    subst e
    cases q
    simp only [Rp]
def vRng1 (fs : Sto → Option (List D)) : Sto → Option (List D) := fun ρ => match fs ρ with
  | some [.int j] => if j < 1000000000 ∧ -1000000000 < j then some (dRange 0 j) else none
  | _ => none
def vRng2 (fs : Sto → Option (List D)) : Sto → Option (List D) := fun ρ => match fs ρ with
  | some [.int i, .int j] => if (j < 1000000000 ∧ -1000000000 < j) ∧ i < 1000000000 ∧ -1000000000 < i then some (dRange i j) else none
  | _ => none
theorem ip_range1 {fs : Sto → Option (List D)} (hg : Gl X "range") (hm : X.mg "range" = none) (ha : PAV X [a] fs) (hs : starEach [a] X.env = [(false, eval a X.env)] := by rfl) : IPV X tg (.Call (.Name "range" p) [a] [] pos) (vRng1 fs) := by
  refine pi_imp (pi_range1 hg hm ha hs) fun σ H Q ⟨G, ρ, F, ds, q, R, k⟩ => ?_
  unfold vRng1 at q
  split at q
  · rename_i j q1
    split at q
    · rename_i hj
      cases q
      refine ⟨G, ρ, F, _, q1, R, fun vs H1 F1 f1 h1 R1 r1 => ?_⟩
      obtain ⟨v, r, rfl, h2, h3⟩ := RpL.cons_inv r1
      have h3 := RpL.nil_inv h3
      have h2 : v = .int j := by simpa only [Rp] using h2
      subst h2; subst h3
      refine ⟨j, rfl, by omega, by omega, ?_⟩
      have := k (Itr 0 (j - 0).toNat) H1 F1 f1 h1 R1 itv_range
      simpa using this
    · cases q
  · cases q
theorem ip_range2 {fs : Sto → Option (List D)} (hg : Gl X "range") (hm : X.mg "range" = none) (ha : PAV X [a, b] fs) (hs : starEach [a, b] X.env = [(false, eval a X.env), (false, eval b X.env)] := by rfl) (hs2 : starEach [b] X.env = [(false, eval b X.env)] := by rfl) :
    IPV X tg (.Call (.Name "range" p) [a, b] [] pos) (vRng2 fs) := by
  refine pi_imp (pi_range2 hg hm ha hs hs2) fun σ H Q ⟨G, ρ, F, ds, q, R, k⟩ => ?_
  unfold vRng2 at q
  split at q
  · rename_i i j q1
    split at q
    · rename_i hj
      cases q
      refine ⟨G, ρ, F, _, q1, R, fun vs H1 F1 f1 h1 R1 r1 => ?_⟩
      obtain ⟨v, r, rfl, h2, h3⟩ := RpL.cons_inv r1
      obtain ⟨v', r', rfl, h4, h5⟩ := RpL.cons_inv h3
      have h5 := RpL.nil_inv h5
      have h2 : v = .int i := by simpa only [Rp] using h2
      have h4 : v' = .int j := by simpa only [Rp] using h4
      subst h2; subst h4; subst h5
      refine ⟨i, j, rfl, ⟨by omega, by omega, by omega, by omega⟩, ?_⟩
      exact k (Itr i (j - i).toNat) H1 F1 f1 h1 R1 itv_range
    · cases q
  · cases q
end

/-! ### targets -/
/-- the target stores d: the slots ws alone may change -/
def tG (K : PySem.W.Frag) (ws : List Nat) (g : D → Sto → Option Sto) : TG := fun v σ H Q => ∃ G ρ F d ρ', g d ρ = some ρ' ∧ Rel K G ρ σ H F ∧ Rp K F d v ∧
  ∀ σ' H' F', Same F F' → Same H H' → Dif ws σ σ' → Rel K G ρ' σ' H' F' → Q σ' H'
def tGs (K : PySem.W.Frag) (ws : List Nat) (g : List D → Sto → Option Sto) : TGs := fun vs σ H Q => ∃ G ρ F ds ρ', g ds ρ = some ρ' ∧ Rel K G ρ σ H F ∧ RpL K F ds vs ∧
  ∀ σ' H' F', Same F F' → Same H H' → Dif ws σ σ' → Rel K G ρ' σ' H' F' → Q σ' H'
/-- the store's places but ws are kept -/
def Kept (ws : List Nat) (ρ ρ' : Sto) : Prop := ρ'.length = ρ.length ∧ ∀ j, j ∉ ws → ρ'[j]? = ρ[j]?
theorem Kept.trans {ws : List Nat} {ρ ρ1 ρ2 : Sto} (a : Kept ws ρ ρ1) (b : Kept ws ρ1 ρ2) : Kept ws ρ ρ2 := ⟨b.1.trans a.1, fun j m => (b.2 j m).trans (a.2 j m)⟩
theorem Kept.mono {ws ws' : List Nat} {ρ ρ1 : Sto} (a : Kept ws ρ ρ1) (h : ∀ j ∈ ws, j ∈ ws') : Kept ws' ρ ρ1 := ⟨a.1, fun j m => a.2 j fun z => m (h j z)⟩
structure PGV (X : Cx) (ws : List Nat) (tg : Expr) (g : D → Sto → Option Sto) : Prop where
  pg : PG X tg (tG X.K ws g)
  ok : ∀ d ρ ρ', g d ρ = some ρ' → Kept ws ρ ρ'
structure PGsV (X : Cx) (ws : List Nat) (tg : List Expr) (g : List D → Sto → Option Sto) : Prop where
  pg : PGs X tg (tGs X.K ws g)
  ok : ∀ d ρ ρ', g d ρ = some ρ' → Kept ws ρ ρ'
section
variable {X : Cx} {pos : Pos} {ws ws2 : List Nat}
theorem pgs_imp {e : List Expr} {t t' : TGs} (h : PGs X e t) (k : ∀ v σ H Q, t' v σ H Q → t v σ H Q) : PGs X e t' := ⟨fun pins s σ H v u Q I r q => h.run pins s σ H v u Q I r (k v σ H Q q)⟩
def gN (i : Nat) : D → Sto → Option Sto := fun d ρ => some (ρ.set i (some (.z, d)))
theorem pgv_name {i : Nat} {x : Str} (hN : X.N.Nodup) (hi : X.N[i]? = some x) (hx : Loc X.env.scope x) (hf : X.fn x = true ∨ X.env.scope.names.lookup x = some .local := by first | exact .inl rfl | exact .inr rfl | assumption) : PGV X [i] (.Name x pos) (gN i) := by
  refine ⟨pg_imp (pg_name hN hi hx hf) fun v σ H Q ⟨G, ρ, F, d, ρ', q, R, r, k⟩ => ?_, fun d ρ ρ' q => ?_⟩
  · cases q
    exact k _ H F (Same.refl _) (Same.refl _) Dif.set (R.storez r)
  · cases q
    exact ⟨by simp, fun j m => by rw [List.getElem?_set_ne]; intro e; exact m (by simp [e])⟩
def gsNil : List D → Sto → Option Sto
  | [], ρ => some ρ
  | _ :: _, _ => none
def gsCons (g : D → Sto → Option Sto) (h : List D → Sto → Option Sto) : List D → Sto → Option Sto
  | [], _ => none
  | d :: ds, ρ => (g d ρ).bind (h ds)
theorem pgsv_nil : PGsV X [] [] gsNil := by
  refine ⟨pgs_imp pgs_nil fun vs σ H Q ⟨G, ρ, F, ds, ρ', q, R, r, k⟩ => ?_, fun ds ρ ρ' q => ?_⟩
  · cases ds with
    | nil =>
      cases q
      exact ⟨RpL.nil_inv r, k σ H F (Same.refl _) (Same.refl _) (Dif.refl _ _) R⟩
    | cons d ds => cases q
  · cases ds with
    | nil => cases q; exact ⟨rfl, fun _ _ => rfl⟩
    | cons d ds => cases q
theorem pgsv_cons {e : Expr} {es : List Expr} {g : D → Sto → Option Sto} {h : List D → Sto → Option Sto} (h1 : PGV X ws e g) (h2 : PGsV X ws2 es h)
    (hs : (assignEach (e :: es) X.env).map (·.2) = assign e X.env :: (assignEach es X.env).map (·.2) := by rfl) : PGsV X (ws ++ ws2) (e :: es) (gsCons g h) := by
  have split : ∀ {d : D} {ds : List D} {ρ ρ' : Sto}, gsCons g h (d :: ds) ρ = some ρ' → ∃ ρ1, g d ρ = some ρ1 ∧ h ds ρ1 = some ρ' := fun {d ds ρ ρ'} q => by
    have q : (g d ρ).bind (h ds) = some ρ' := q
    cases q1 : g d ρ with
    | none => rw [q1] at q; cases q
    | some ρ1 => rw [q1] at q; exact ⟨ρ1, rfl, q⟩
  refine ⟨pgs_imp (pgs_cons h1.pg h2.pg hs) fun vs σ H Q ⟨G, ρ, F, ds, ρ', q, R, r, k⟩ => ?_, fun ds ρ ρ' q => ?_⟩
  · cases ds with
    | nil => cases q
    | cons d ds =>
      obtain ⟨v, rest, rfl, r1, r2⟩ := RpL.cons_inv r
      obtain ⟨ρ1, q1, q⟩ := split q
      refine ⟨v, rest, rfl, G, ρ, F, d, ρ1, q1, R, r1, fun σ1 H1 F1 f1 h1 d1 R1 => ?_⟩
      exact ⟨G, ρ1, F1, ds, ρ', q, R1, RpL.mono f1 _ _ r2, fun σ2 H2 F2 f2 h2 d2 R2 => k σ2 H2 F2 (f1.trans f2) (h1.trans h2) ((d1.mono fun j m => List.mem_append_left _ m).trans (d2.mono fun j m => List.mem_append_right _ m)) R2⟩
  · cases ds with
    | nil => cases q
    | cons d ds =>
      obtain ⟨ρ1, q1, q⟩ := split q
      exact ((h1.ok _ _ _ q1).mono fun j m => List.mem_append_left _ m).trans ((h2.ok _ _ _ q).mono fun j m => List.mem_append_right _ m)
def gTupF (n : Nat) (g : List D → Sto → Option Sto) : D → Sto → Option Sto
  | .tup ds, ρ => if ds.length = n then g ds ρ else none
  | _, _ => none
theorem pgv_tup {es : List Expr} {k : Nat} {g : List D → Sto → Option Sto} {n : Nat} (hc : X.calm = true) (h : PGsV X ws es g)
    (hn : (assignEach es X.env).length = n := by rfl) (hst : (assignEach es X.env).findIdx? (·.1) = none := by rfl) : PGV X ws (.Tuple es k pos) (gTupF n g) := by
  refine ⟨pg_imp (pg_tup hc h.pg hn hst) fun v σ H Q ⟨G, ρ, F, d, ρ', q, R, r, k⟩ => ?_, fun d ρ ρ' q => ?_⟩
  · cases d <;> simp only [gTupF] at q <;> try cases q
    rename_i ds
    split at q
    · rename_i hl
      simp only [Rp] at r
      obtain ⟨a, vs, rfl, ht, hr⟩ := r
      exact ⟨a, vs, rfl, Same.tupT R.sub ht, by rw [← RpL.length hr]; exact hl, G, ρ, F, ds, ρ', q, R, hr, k⟩
    · cases q
  · cases d <;> simp only [gTupF] at q <;> try cases q
    split at q
    · exact h.ok _ _ _ q
    · cases q
end

/-! ### comprehensions -/
def tPTs (K : PySem.W.Frag) (f : Sto → Option Bool) : TT := tPT K f
/-- the items that a comprehension makes -/
def lcL (g : D → Sto → Option Sto) (ft : Sto → Option Bool) (fe : Sto → Option D) (ρ : Sto) : List D → Option (List D)
  | [] => some []
  | x :: xs => (g x ρ).bind fun ρ1 => (ft ρ1).bind fun b => if b then (fe ρ1).bind fun y => (lcL g ft fe ρ xs).map fun ys => y :: ys else lcL g ft fe ρ xs
def vLc (vs : List Nat) (fi : Sto → Option (List D)) (g : D → Sto → Option Sto) (ft : Sto → Option Bool) (fe : Sto → Option D) : Sto → Option D := fun ρ =>
  if PlainAt ρ vs then (fi ρ).bind fun ds => if ds.length ≤ 1000000 then (lcL g ft fe (wipeS ρ vs) ds).map D.lst else none else none
section
variable {X : Cx} {pos : Pos}
theorem lcL_len {g : D → Sto → Option Sto} {ft : Sto → Option Bool} {fe : Sto → Option D} {ρ : Sto} : ∀ {xs ys : List D}, lcL g ft fe ρ xs = some ys → ys.length ≤ xs.length
  | [], ys, h => by cases h; exact Nat.le_refl _
  | x :: xs, ys, h => by
    unfold lcL at h
    cases q1 : g x ρ with
    | none => rw [q1] at h; cases h
    | some ρ1 =>
      rw [q1] at h; simp only [Option.bind_some] at h
      cases q2 : ft ρ1 with
      | none => rw [q2] at h; cases h
      | some b =>
        rw [q2] at h; simp only [Option.bind_some] at h
        cases b with
        | false =>
          simp only [Bool.false_eq_true, if_false] at h
          have := lcL_len h
          simp; omega
        | true =>
          simp only [if_true] at h
          cases q3 : fe ρ1 with
          | none => rw [q3] at h; cases h
          | some y =>
            rw [q3] at h; simp only [Option.bind_some] at h
            cases q4 : lcL g ft fe ρ xs with
            | none => rw [q4] at h; cases h
            | some zs =>
              rw [q4] at h; cases h
              have := lcL_len q4
              simp; omega
abbrev Blk (X : Cx) (scope : Scope) (φ : Cx → Prop) : Prop := ∀ (s : Shared) (H : Hp) (C : Addr) (cl : List (Str × Addr)) (fp : List Addr), φ (X.blk s H scope (compEnvC scope cl C X.env) fp)
theorem ptsv_nil : PTs X [] (tPT X.K fun _ => some true) := by
  refine ⟨fun pins s σ H Q I ⟨G, ρ, F, b, q, R, k⟩ => ?_⟩
  cases q
  exact pts_nil.run pins s σ H Q I (k H F (Same.refl _) (Same.refl _) R)
theorem ptsv_one {c : Expr} {f : Sto → Option Bool} (h : PTV X c f) : PTs X [c] (tPT X.K f) := pts_one h
/-- the reading of a pure comprehension -/
theorem tLc_of {K : PySem.W.Frag} {s : Sh} {ws vs : List Nat} {fi : Sto → Option (List D)} {g : D → Sto → Option Sto} {ft : Sto → Option Bool} {fe : Sto → Option D} (gok : ∀ d ρ ρ', g d ρ = some ρ' → Kept ws ρ ρ') (hw' : ∀ j ∈ ws, j ∈ vs)
    (σ : St) (H : Hp) (Q : VK) (h : tPF K (.seq s) (vLc vs fi g ft fe) σ H Q) : tLc (tIP K fi) (tG K ws g) (tPT K ft) (tPF K s fe) vs σ H Q := by
  obtain ⟨G, ρ, F, d, q, R, k⟩ := h
  unfold vLc at q
  split at q
  · rename_i pl
    cases q1 : fi ρ with
    | none => rw [q1] at q; cases q
    | some ds =>
      rw [q1] at q; simp only [Option.bind_some] at q
      split at q
      · rename_i hlen
        cases q2 : lcL g ft fe (wipeS ρ vs) ds with
        | none => rw [q2] at q; cases q
        | some ys =>
          rw [q2] at q; cases q
          refine ⟨G, ρ, F, ds, q1, R, fun J H1 F1 f1 h1 R1 it => ?_⟩
          intro L hL
          have R1L : Rel K G (some (.seq s, .lst []) :: ρ) (some (.ref L) :: σ) (upd H1 L (.lst [])) F1 := R1.addNew hL ⟨L, [], [], rfl, upd_same, ⟨rfl, rfl⟩, rfl⟩
          refine ⟨fun i m H' => m = ds.length - i ∧ i ≤ ds.length ∧ ∃ F' acc rest, Same F1 F' ∧ Same H1 H' ∧ Rel K G (some (.seq s, .lst acc) :: ρ) (some (.ref L) :: σ) H' F' ∧ lcL g ft fe (wipeS ρ vs) (ds.drop i) = some rest ∧ acc ++ rest = ys ∧ acc.length ≤ i, ⟨ds.length, by simp, Nat.zero_le _, F1, [], ys, Same.refl _, Same.upd hL, R1L, by simpa using q2, rfl, Nat.le_refl _⟩, ?_⟩
          rintro i m H2 ⟨rfl, hi, F2, acc, rest, f2, h2, R2, l2, e2, al⟩
          by_cases hlt : i < ds.length
          · refine .inr ⟨it.go i H2 F2 hlt f2 R2.sub, fun H' => i + 1 ≤ ds.length ∧ ∃ F' acc rest, Same F1 F' ∧ Same H1 H' ∧ Rel K G (some (.seq s, .lst acc) :: ρ) (some (.ref L) :: σ) H' F' ∧ lcL g ft fe (wipeS ρ vs) (ds.drop (i + 1)) = some rest ∧ acc ++ rest = ys ∧ acc.length ≤ i + 1, fun H' p => ⟨ds.length - (i + 1), by omega, rfl, p⟩, fun x H3 y3 => ?_⟩
            have hd : ds[i]? = some ds[i] := by simp [hlt]
            obtain ⟨F3, f3, h3, R3, r3⟩ := it.yld i H2 x H3 y3 _ hd G _ _ F2 f2 R2
            rw [List.drop_eq_getElem_cons hlt] at l2
            unfold lcL at l2
            cases p1 : g ds[i] (wipeS ρ vs) with
            | none => rw [p1] at l2; cases l2
            | some ρ1 =>
              rw [p1] at l2; simp only [Option.bind_some] at l2
              obtain ⟨G', R4, back⟩ := R3.frame
              refine ⟨G', _, F3, _, ρ1, p1, R4.wipe vs, r3, fun σ5 H5 F5 f5 h5 d5 R5 => ⟨d5.wipe hw', ?_⟩⟩
              have d5' : Dif vs σ σ5 := ⟨by have := d5.len; rw [wipe_length] at this; exact this, fun j hj => by rw [d5.at' j fun m => hj (hw' j m), wipe_ne hj]⟩
              cases p2 : ft ρ1 with
              | none => rw [p2] at l2; cases l2
              | some b =>
                rw [p2] at l2; simp only [Option.bind_some] at l2
                refine ⟨G', ρ1, F5, b, p2, R5, fun H6 F6 f6 h6 R6 => ?_⟩
                -- the store ahead of the block again
                have dk : ∀ j, j ∉ vs → ρ1[j]? = ρ[j]? := fun j hj => by rw [(gok _ _ _ p1).2 j fun m => hj (hw' j m), wipeS_ne hj]
                cases b with
                | false =>
                  simp only [Bool.false_eq_true, if_false] at l2 ⊢
                  exact ⟨hlt, F6, acc, rest, f2.trans (f3.trans (f5.trans f6)), h2.trans (h3.trans (h5.trans h6)), back ρ σ H6 F6 (f5.trans f6) (Rel.back R4 R6 (f5.trans f6) pl d5' dk), l2, e2, by omega⟩
                | true =>
                  simp only [if_true] at l2 ⊢
                  cases p3 : fe ρ1 with
                  | none => rw [p3] at l2; cases l2
                  | some y =>
                    rw [p3] at l2; simp only [Option.bind_some] at l2
                    cases p4 : lcL g ft fe (wipeS ρ vs) (ds.drop (i + 1)) with
                    | none => rw [p4] at l2; cases l2
                    | some rest' =>
                      rw [p4] at l2; cases l2
                      refine ⟨G', ρ1, F6, y, p3, R6, fun v H7 F7 f7 h7 R7 => ?_⟩
                      -- the element is set aside, the store is put back
                      obtain ⟨G2, R8, back2⟩ := R7.frame
                      have ff : Same F3 F7 := f5.trans (f6.trans f7)
                      have R9 := back _ _ H7 F7 ff (back2 ρ σ H7 F7 (Same.refl _) (Rel.back R4 R8 ff pl d5' dk))
                      obtain ⟨a, us, ea, ha, hl, R10⟩ := R9.snoc
                      cases ea
                      refine ⟨us, ha, ?_, hlt, F7, acc ++ [y], rest', f2.trans (f3.trans ff), fun b o q => ?_, R10, rfl, by rw [← e2]; simp, by simp; omega⟩
                      · rw [hl]
                        exact Nat.lt_of_le_of_lt (Nat.le_trans al (Nat.le_trans hi hlen)) (by rw [sizeLine_eq]; decide)
                      · rw [upd_ne (ne_of_none q hL)]
                        exact (h2.trans (h3.trans (h5.trans (h6.trans h7)))) b o q
          · have e : i = ds.length := by omega
            subst e
            rw [List.drop_length] at l2
            cases l2
            rw [List.append_nil] at e2
            subst e2
            exact .inl ⟨it.stop H2 F2 f2 R2.sub, k _ H2 F2 (f1.trans f2) (h1.trans h2) R2⟩
      · cases q
  · cases q
theorem fp_lc {s : Sh} {elt tg iter : Expr} {ifs : List Expr} {scope : Scope} {own : List (Str × Nat)} {ws : List Nat} {fi : Sto → Option (List D)} {g : D → Sto → Option Sto} {ft : Sto → Option Bool} {fe : Sto → Option D}
    (hc : X.calm = true) (hN : X.N.Nodup) (hi : IPV X tg iter fi) (ok : BlkOk X.N X.env.scope scope own)
    (hg : Blk X scope fun Y => PGV Y ws tg g) (ht : Blk X scope fun Y => PTs Y ifs (tPT Y.K ft)) (he : Blk X scope fun Y => FP Y s elt fe)
    (hw : (ws.all fun j => (own.map (·.2)).contains j) = true) (hs : ∀ x, foldedSetIterable iter X.env x = pure x := by intro _; rfl) :
    FP X (.seq s) (.ListComp elt [⟨tg, iter, ifs, 0⟩] scope pos) (vLc (own.map (·.2)) fi g ft fe) :=
  pe_imp (pe_lc (te := tPF X.K s fe) (tt := tPT X.K ft) (g := tG X.K ws g) hc hN hi ok (fun s H C cl fp => (hg s H C cl fp).pg) ht he hs)
    (tLc_of (hg ({} : Shared) (fun _ => none) 0 [] []).ok fun j m => by simpa using List.all_eq_true.mp hw j m)
end
end VL

set_option Elab.async false
set_option linter.all false
set_option maxRecDepth 100000
/-! VLd: owned objects changed; statements. -/
namespace VL
open PySem L2

section
variable {K : PySem.W.Frag} {G H H' F F' : Hp} {ρ : Sto} {σ : St}
/-- the slots ahead are made from the slots ahead -/
theorem RelW.front {xs xs' : Sto} {ys ys' : St} {fps : Nat → List Addr} (w : RelW K G (xs ++ ρ) (ys ++ σ) H F fps) (hx : xs.length = ys.length) (hx' : xs'.length = ys'.length) (fs : Nat → List Addr)
    (slots : ∀ i s d, xs'[i]? = some (some (s, d)) → ∃ v, ys'[i]? = some (some v) ∧ Ow K H' F s d v (fs i)) (nd : ∀ i, i < xs'.length → (fs i).Nodup) (dis : ∀ i j a, i < xs'.length → j < xs'.length → a ∈ fs i → a ∈ fs j → i = j)
    (sub : ∀ i a, i < xs'.length → a ∈ fs i → ∃ j, j < xs.length ∧ a ∈ fps j) (keep : ∀ b o, (∀ j, j < xs.length → b ∉ fps j) → H b = some o → H' b = some o) (live : ∀ i a, i < xs'.length → a ∈ fs i → ∃ o, H' a = some o) :
    Rel K G (xs' ++ ρ) (ys' ++ σ) H' F := by
  have hl : ρ.length = σ.length := by have := w.len; simp at this; omega
  let gs : Nat → List Addr := fun i => if i < xs'.length then fs i else fps (i - xs'.length + xs.length)
  have g1 : ∀ {i}, i < xs'.length → gs i = fs i := fun {i} h => if_pos h
  have g2 : ∀ {i}, ¬ i < xs'.length → gs i = fps (i - xs'.length + xs.length) := fun {i} h => if_neg h
  have out : ∀ {b j}, xs.length ≤ j → b ∈ fps j → ∀ i, i < xs.length → b ∉ fps i := fun {b j} hj m i hi m2 => by have := w.dis _ _ b m m2; omega
  refine ⟨gs, fun i s d q => ?_, fun i => ?_, fun i j a m1 m2 => ?_, fun i a m => ?_, by simp [hl, hx'], fun b o q => ?_, fun b o q => ?_, w.fg⟩
  · by_cases hi : i < xs'.length
    · rw [List.getElem?_append_left hi] at q
      rw [List.getElem?_append_left (by omega), g1 hi]
      exact slots i s d q
    · rw [List.getElem?_append_right (by omega)] at q
      rw [List.getElem?_append_right (by omega), g2 hi]
      obtain ⟨v, q1, q2⟩ := w.slot (i - xs'.length + xs.length) s d (by rw [List.getElem?_append_right (by omega)]; simpa using q)
      rw [List.getElem?_append_right (by omega)] at q1
      refine ⟨v, by rw [← hx']; rw [← hx] at q1; simpa using q1, q2.mono (Same.refl _) fun b m o e => keep b o (out (by omega) m) e⟩
  · by_cases hi : i < xs'.length
    · rw [g1 hi]; exact nd i hi
    · rw [g2 hi]; exact w.nd _
  · by_cases hi : i < xs'.length
    · rw [g1 hi] at m1
      by_cases hj : j < xs'.length
      · rw [g1 hj] at m2; exact dis i j a hi hj m1 m2
      · rw [g2 hj] at m2
        obtain ⟨k, hk, m3⟩ := sub i a hi m1
        exact (out (by omega) m2 k hk m3).elim
    · rw [g2 hi] at m1
      by_cases hj : j < xs'.length
      · rw [g1 hj] at m2
        obtain ⟨k, hk, m3⟩ := sub j a hj m2
        exact (out (by omega) m1 k hk m3).elim
      · rw [g2 hj] at m2
        have := w.dis _ _ a m1 m2; omega
  · by_cases hi : i < xs'.length
    · rw [g1 hi] at m
      obtain ⟨k, hk, m3⟩ := sub i a hi m
      obtain ⟨q1, q2, _⟩ := w.out k a m3
      exact ⟨q1, q2, live i a hi m⟩
    · rw [g2 hi] at m
      obtain ⟨q1, q2, o, q3⟩ := w.out _ a m
      exact ⟨q1, q2, o, keep a o (out (by omega) m) q3⟩
  · exact keep b o (fun j _ m => by have := (w.out j b m).1; rw [q] at this; cases this) (w.sub b o q)
  · exact keep b o (fun j _ m => by have := (w.out j b m).2.1; rw [q] at this; cases this) (w.gsub b o q)

theorem OwL.split {R : D → V → List Addr → Prop} : ∀ {ds : List D} {vs : List V} {fp : List Addr} {k : Nat} {d : D}, OwL R ds vs fp → ds[k]? = some d → ∃ v f1 f f2, vs[k]? = some v ∧ R d v f ∧ fp = f1 ++ (f ++ f2) ∧
    (∀ (R' : D → V → List Addr → Prop) d' v' f', R' d' v' f' → (∀ d v g, (∀ a ∈ g, a ∈ f1 ∨ a ∈ f2) → R d v g → R' d v g) → OwL R' (ds.set k d') (vs.set k v') (f1 ++ (f' ++ f2))) ∧ OwL R (ds.eraseIdx k) (vs.eraseIdx k) (f1 ++ f2)
  | [], _, _, _, _, _, e => by simp at e
  | d :: ds, vs, fp, 0, x, h, e => by
    obtain ⟨v, r, f1, f2, rfl, h1, h2, rfl⟩ := h
    simp at e; subst e
    exact ⟨v, [], f1, f2, rfl, h1, rfl, fun R' d' v' f' r' k => ⟨v', r, f', f2, rfl, r', OwL.mono h2 fun d v g m q => k d v g (fun a z => .inr (m a z)) q, rfl⟩, h2⟩
  | d :: ds, vs, fp, k + 1, x, h, e => by
    obtain ⟨v, r, f1, f2, rfl, h1, h2, rfl⟩ := h
    obtain ⟨u, g1, g, g2, e1, e2, e3, e4, e5⟩ := OwL.split (k := k) h2 (by simpa using e)
    subst e3
    exact ⟨u, f1 ++ g1, g, g2, by simpa using e1, e2, by simp, fun R' d' v' f' r' kk => ⟨v, r.set k v', f1, g1 ++ (f' ++ g2), rfl, kk _ _ _ (fun a z => .inl (List.mem_append_left _ z)) h1, e4 R' d' v' f' r' fun d v g m q => kk d v g (fun a z => (m a z).imp (List.mem_append_right _) id) q, by simp⟩, ⟨v, r.eraseIdx k, f1, g1 ++ g2, rfl, h1, e5, by simp⟩⟩
theorem nodup3 {α : Type} {a : α} {f1 f f2 : List α} (h : (a :: (f1 ++ (f ++ f2))).Nodup) : a ∉ f1 ∧ a ∉ f ∧ a ∉ f2 ∧ f1.Nodup ∧ f.Nodup ∧ f2.Nodup ∧ (∀ x ∈ f1, x ∉ f) ∧ (∀ x ∈ f1, x ∉ f2) ∧ (∀ x ∈ f, x ∉ f2) := by
  obtain ⟨h1, h2⟩ := List.nodup_cons.mp h
  obtain ⟨h3, h4, h5⟩ := List.nodup_append.mp h2
  obtain ⟨h6, h7, h8⟩ := List.nodup_append.mp h4
  exact ⟨fun m => h1 (List.mem_append_left _ m), fun m => h1 (List.mem_append_right _ (List.mem_append_left _ m)), fun m => h1 (List.mem_append_right _ (List.mem_append_right _ m)), h3, h6, h7,
    fun x m1 m2 => h5 x m1 x (List.mem_append_left _ m2) rfl, fun x m1 m2 => h5 x m1 x (List.mem_append_right _ m2) rfl, fun x m1 m2 => h8 x m1 x m2 rfl⟩
theorem OwL.upd {s : Sh} {ds : List D} {vs : List V} {fp : List Addr} {a : Addr} {o : HO} (h : OwL (Ow K H F s) ds vs fp) (ha : a ∉ fp) : OwL (Ow K (upd H a o) F s) ds vs fp :=
  OwL.mono h fun d v f m r => r.mono (Same.refl _) fun b z o e => by rw [upd_ne (fun y => ha (by rw [← y]; exact m b z))]; exact e
theorem Ow.upd {s : Sh} {d : D} {v : V} {fp : List Addr} {a : Addr} {o : HO} (h : Ow K H F s d v fp) (ha : a ∉ fp) : Ow K (upd H a o) F s d v fp :=
  h.mono (Same.refl _) fun b z o e => by rw [upd_ne (fun y => ha (by rw [← y]; exact z))]; exact e
theorem Rel.lst {s : Sh} {ds : List D} {va : V} (h : Rel K G (some (.seq s, .lst ds) :: ρ) (some va :: σ) H F) : ∃ a vs, va = .ref a ∧ H a = some (.lst vs) ∧ vs.length = ds.length := by
  obtain ⟨fp, a, vs, fp', rfl, ha, ho, hf⟩ := h.get0
  exact ⟨a, vs, rfl, ha, (OwL.length ho).symm⟩
/-- an owned list ahead: its k-th item becomes what stands next -/
theorem Rel.setAt {s : Sh} {ds : List D} {d : D} {va v : V} {k : Nat} (h : Rel K G (some (.seq s, .lst ds) :: some (s, d) :: ρ) (some va :: some v :: σ) H F) (hk : k < ds.length) :
    ∃ a vs, va = .ref a ∧ H a = some (.lst vs) ∧ vs.length = ds.length ∧ Rel K G (some (.seq s, .lst (ds.set k d)) :: ρ) (some va :: σ) (upd H a (.lst (vs.set k v))) F := by
  obtain ⟨fps, w⟩ := h
  obtain ⟨u, q1, q2⟩ := w.slot 0 _ _ rfl
  simp at q1; subst q1
  obtain ⟨a, vs, fp', rfl, ha, ho, hf⟩ := q2
  obtain ⟨u, q3, q4⟩ := w.slot 1 _ _ rfl
  simp at q3; subst q3
  have hd : ds[k]? = some ds[k] := by simp [hk]
  obtain ⟨v0, f1, f, f2, e1, e2, rfl, e4, _⟩ := ho.split hd
  have n0 := w.nd 0
  rw [hf] at n0
  obtain ⟨a1, a2, a3, n1, n2, n3, d1, d2, d3⟩ := nodup3 n0
  have a0 : a ∈ fps 0 := by rw [hf]; exact List.mem_cons_self
  have i0 : ∀ x, x ∈ f1 ∨ x ∈ f ∨ x ∈ f2 → x ∈ fps 0 := fun x m => by rw [hf]; simp; exact .inr m
  have x1 : ∀ x, x ∈ fps 1 → x ∉ fps 0 := fun x m m2 => by have := w.dis _ _ x m m2; cases this
  have na : a ∉ f1 ++ (fps 1 ++ f2) := fun m => by
    rcases List.mem_append.mp m with m | m
    · exact a1 m
    · rcases List.mem_append.mp m with m | m
      · exact x1 a m a0
      · exact a3 m
  refine ⟨a, vs, rfl, ha, (OwL.length ho).symm, w.front (xs := [_, _]) (ys := [_, _]) (xs' := [some (.seq s, .lst (ds.set k d))]) (ys' := [some (.ref a)]) rfl rfl (fun _ => a :: (f1 ++ (fps 1 ++ f2))) (fun i s' d' q => ?_) (fun i hi => ?_) (fun i j b hi hj _ _ => by simp at hi hj; omega) (fun i b hi m => ?_) (fun b o hb e => ?_) (fun i b hi m => ?_)⟩
  · cases i with
    | zero =>
      simp at q; obtain ⟨rfl, rfl⟩ := q
      exact ⟨_, rfl, a, _, _, rfl, upd_same, (e4 _ d v (fps 1) q4 fun _ _ _ _ r => r).upd na, rfl⟩
    | succ i => simp at q
  · refine List.nodup_cons.mpr ⟨na, List.nodup_append.mpr ⟨n1, List.nodup_append.mpr ⟨w.nd 1, n3, fun x m1 y m2 e => ?_⟩, fun x m1 y m2 e => ?_⟩⟩
    · subst e; exact x1 x m1 (i0 x (.inr (.inr m2)))
    · subst e
      rcases List.mem_append.mp m2 with m2 | m2
      · exact x1 x m2 (i0 x (.inl m1))
      · exact d2 x m1 m2
  · rcases List.mem_cons.mp m with rfl | m
    · exact ⟨0, by simp, a0⟩
    · rcases List.mem_append.mp m with m | m
      · exact ⟨0, by simp, i0 b (.inl m)⟩
      · rcases List.mem_append.mp m with m | m
        · exact ⟨1, by simp, m⟩
        · exact ⟨0, by simp, i0 b (.inr (.inr m))⟩
  · rw [upd_ne]
    · exact e
    · rintro rfl; exact hb 0 (by simp) a0
  · by_cases hb : b = a
    · subst hb; exact ⟨_, upd_same⟩
    · rw [upd_ne hb]
      rcases List.mem_cons.mp m with z | m
      · exact (hb z).elim
      · rcases List.mem_append.mp m with m | m
        · exact (w.out 0 b (i0 b (.inl m))).2.2
        · rcases List.mem_append.mp m with m | m
          · exact (w.out 1 b m).2.2
          · exact (w.out 0 b (i0 b (.inr (.inr m)))).2.2
/-- an owned list ahead: its k-th item is taken out -/
theorem Rel.popAt {s : Sh} {ds : List D} {d : D} {va : V} {k : Nat} (h : Rel K G (some (.seq s, .lst ds) :: ρ) (some va :: σ) H F) (hk : ds[k]? = some d) :
    ∃ a vs v, va = .ref a ∧ H a = some (.lst vs) ∧ vs.length = ds.length ∧ vs[k]? = some v ∧ Rel K G (some (.seq s, .lst (ds.eraseIdx k)) :: some (s, d) :: ρ) (some va :: some v :: σ) (upd H a (.lst (vs.eraseIdx k))) F := by
  obtain ⟨fps, w⟩ := h
  obtain ⟨u, q1, q2⟩ := w.slot 0 _ _ rfl
  simp at q1; subst q1
  obtain ⟨a, vs, fp', rfl, ha, ho, hf⟩ := q2
  obtain ⟨v0, f1, f, f2, e1, e2, rfl, _, e5⟩ := ho.split hk
  have n0 := w.nd 0
  rw [hf] at n0
  obtain ⟨a1, a2, a3, n1, n2, n3, d1, d2, d3⟩ := nodup3 n0
  have a0 : a ∈ fps 0 := by rw [hf]; exact List.mem_cons_self
  have i0 : ∀ x, x ∈ f1 ∨ x ∈ f ∨ x ∈ f2 → x ∈ fps 0 := fun x m => by rw [hf]; simp; exact .inr m
  have na : a ∉ f1 ++ f2 := fun m => (List.mem_append.mp m).elim a1 a3
  refine ⟨a, vs, v0, rfl, ha, (OwL.length ho).symm, e1, w.front (xs := [_]) (ys := [_]) (xs' := [some (.seq s, .lst (ds.eraseIdx k)), some (s, d)]) (ys' := [some (.ref a), some v0]) rfl rfl (fun i => if i = 0 then a :: (f1 ++ f2) else f) (fun i s' d' q => ?_) (fun i hi => ?_) (fun i j b hi hj m1 m2 => ?_) (fun i b hi m => ⟨0, by simp, ?_⟩) (fun b o hb e => ?_) (fun i b hi m => ?_)⟩
  · cases i with
    | zero =>
      simp at q; obtain ⟨rfl, rfl⟩ := q
      exact ⟨_, rfl, a, _, _, rfl, upd_same, e5.upd na, rfl⟩
    | succ i =>
      cases i with
      | zero =>
        simp at q; obtain ⟨rfl, rfl⟩ := q
        exact ⟨_, rfl, e2.upd a2⟩
      | succ i => simp at q
  · show (if i = 0 then a :: (f1 ++ f2) else f).Nodup
    split
    · exact List.nodup_cons.mpr ⟨na, List.nodup_append.mpr ⟨n1, n3, fun x m1 y m2 e => by subst e; exact d2 x m1 m2⟩⟩
    · exact n2
  · have m1 : b ∈ (if i = 0 then a :: (f1 ++ f2) else f) := m1
    have m2 : b ∈ (if j = 0 then a :: (f1 ++ f2) else f) := m2
    have x : b ∈ a :: (f1 ++ f2) → b ∈ f → False := fun y1 y2 => by
      rcases List.mem_cons.mp y1 with rfl | y1
      · exact a2 y2
      · rcases List.mem_append.mp y1 with y1 | y1
        · exact d1 b y1 y2
        · exact d3 b y2 y1
    simp at hi hj
    split at m1 <;> split at m2
    · omega
    · exact (x m1 m2).elim
    · exact (x m2 m1).elim
    · omega
  · have m : b ∈ (if i = 0 then a :: (f1 ++ f2) else f) := m
    split at m
    · rcases List.mem_cons.mp m with rfl | m
      · exact a0
      · rcases List.mem_append.mp m with m | m
        · exact i0 b (.inl m)
        · exact i0 b (.inr (.inr m))
    · exact i0 b (.inr (.inl m))
  · rw [upd_ne]
    · exact e
    · rintro rfl; exact hb 0 (by simp) a0
  · by_cases hb : b = a
    · subst hb; exact ⟨_, upd_same⟩
    · rw [upd_ne hb]
      have m : b ∈ (if i = 0 then a :: (f1 ++ f2) else f) := m
      split at m
      · rcases List.mem_cons.mp m with z | m
        · exact (hb z).elim
        · rcases List.mem_append.mp m with m | m
          · exact (w.out 0 b (i0 b (.inl m))).2.2
          · exact (w.out 0 b (i0 b (.inr (.inr m)))).2.2
      · exact (w.out 0 b (i0 b (.inr (.inl m)))).2.2
/-- one step into an owned list ahead -/
theorem Rel.zoom1 {s : Sh} {ds : List D} {d : D} {va : V} {k : Nat} (h : Rel K G (some (.seq s, .lst ds) :: ρ) (some va :: σ) H F) (hk : ds[k]? = some d) :
    ∃ a vs v G', va = .ref a ∧ H a = some (.lst vs) ∧ vs.length = ds.length ∧ vs[k]? = some v ∧ Rel K G' (some (s, d) :: ρ) (some v :: σ) H F ∧
      ∀ d' ρ' σ' H' F', Same F F' → Rel K G' (some (s, d') :: ρ') (some v :: σ') H' F' → Rel K G (some (.seq s, .lst (ds.set k d')) :: ρ') (some va :: σ') H' F' := by
  obtain ⟨fps, w⟩ := h
  obtain ⟨u, q1, q2⟩ := w.slot 0 _ _ rfl
  simp at q1; subst q1
  obtain ⟨a, vs, fp', rfl, ha, ho, hf⟩ := q2
  obtain ⟨v0, f1, f, f2, e1, e2, rfl, e4, _⟩ := ho.split hk
  have n0 := w.nd 0
  rw [hf] at n0
  obtain ⟨a1, a2, a3, n1, n2, n3, d1, d2, d3⟩ := nodup3 n0
  have a0 : a ∈ fps 0 := by rw [hf]; exact List.mem_cons_self
  have i0 : ∀ x, x ∈ f1 ∨ x ∈ f ∨ x ∈ f2 → x ∈ fps 0 := fun x m => by rw [hf]; simp; exact .inr m
  let rest : List Addr := a :: (f1 ++ f2)
  have r0 : ∀ x, x ∈ rest → x ∈ fps 0 := fun x m => by
    rcases List.mem_cons.mp m with rfl | m
    · exact a0
    · rcases List.mem_append.mp m with m | m
      · exact i0 x (.inl m)
      · exact i0 x (.inr (.inr m))
  have rf : ∀ x, x ∈ f → x ∉ rest := fun x m m2 => by
    rcases List.mem_cons.mp m2 with rfl | m2
    · exact a2 m
    · rcases List.mem_append.mp m2 with m2 | m2
      · exact d1 x m2 m
      · exact d3 x m m2
  let G' : Hp := fun b => if b ∈ rest then H b else G b
  have gin : ∀ {b}, b ∈ rest → G' b = H b := fun {b} m => if_pos m
  have gout : ∀ {b}, b ∉ rest → G' b = G b := fun {b} m => if_neg m
  have hG : Same G G' := fun b o q => by
    by_cases m : b ∈ rest
    · rw [gin m]; exact w.gsub b o q
    · rw [gout m]; exact q
  refine ⟨a, vs, v0, G', rfl, ha, (OwL.length ho).symm, e1, ⟨fun i => if i = 0 then f else fps i, fun i s' d' q => ?_, fun i => ?_, fun i j b m1 m2 => ?_, fun i b m => ?_, by have := w.len; simpa using this, w.sub, fun b o q => ?_, fun b o q => ?_⟩, ?_⟩
  · cases i with
    | zero => simp at q; obtain ⟨rfl, rfl⟩ := q; exact ⟨v0, rfl, e2⟩
    | succ i =>
      obtain ⟨u, q5, q6⟩ := w.slot (i + 1) s' d' (by simpa using q)
      exact ⟨u, by simpa using q5, q6⟩
  · show (if i = 0 then f else fps i).Nodup
    split
    · exact n2
    · exact w.nd i
  · have m1 : b ∈ (if i = 0 then f else fps i) := m1
    have m2 : b ∈ (if j = 0 then f else fps j) := m2
    split at m1 <;> split at m2
    · omega
    · have := w.dis _ _ b (i0 b (.inr (.inl m1))) m2; omega
    · have := w.dis _ _ b (i0 b (.inr (.inl m2))) m1; omega
    · exact w.dis _ _ b m1 m2
  · have m : b ∈ (if i = 0 then f else fps i) := m
    split at m
    · obtain ⟨q1, q2, q3⟩ := w.out 0 b (i0 b (.inr (.inl m)))
      exact ⟨q1, by rw [gout (rf b m)]; exact q2, q3⟩
    · rename_i hi
      obtain ⟨q1, q2, q3⟩ := w.out i b m
      refine ⟨q1, ?_, q3⟩
      rw [gout (fun z => hi (w.dis _ _ b m (r0 b z)))]; exact q2
  · by_cases m : b ∈ rest
    · rw [gin m] at q; exact q
    · rw [gout m] at q; exact w.gsub b o q
  · by_cases m : b ∈ rest
    · have := (w.out 0 b (r0 b m)).1; rw [q] at this; cases this
    · rw [gout m]; exact w.fg b o q
  · rintro d' ρ' σ' H' F' fe ⟨gps, w'⟩
    obtain ⟨u, p1, p2⟩ := w'.slot 0 _ _ rfl
    simp at p1; subst p1
    have kp : ∀ b ∈ rest, ∀ o, H b = some o → H' b = some o := fun b m o q => w'.gsub b o (by rw [gin m]; exact q)
    have gl : ∀ b ∈ rest, ∃ o, G' b = some o := fun b m => by
      obtain ⟨o, q⟩ := (w.out 0 b (r0 b m)).2.2
      exact ⟨o, by rw [gin m]; exact q⟩
    have ng : ∀ i b, b ∈ gps i → b ∉ rest := fun i b m m2 => by
      obtain ⟨o, q⟩ := gl b m2
      have := (w'.out i b m).2.1; rw [q] at this; cases this
    have own' : OwL (Ow K H' F' s) (ds.set k d') (vs.set k v0) (f1 ++ (gps 0 ++ f2)) := by
      refine e4 _ d' v0 (gps 0) p2 fun d v g m q => q.mono fe fun b z o e => kp b ?_ o e
      rcases m b z with z | z
      · exact List.mem_cons_of_mem _ (List.mem_append_left _ z)
      · exact List.mem_cons_of_mem _ (List.mem_append_right _ z)
    have esv : vs.set k v0 = vs := by
      obtain ⟨hi, he⟩ := List.getElem?_eq_some_iff.mp e1
      rw [← he]; exact List.set_getElem_self hi
    rw [esv] at own'
    have n0' : (a :: (f1 ++ (gps 0 ++ f2))).Nodup := by
      have y0 : ∀ x, x ∈ gps 0 → x ∉ rest := fun x m => ng 0 x m
      refine List.nodup_cons.mpr ⟨fun m => ?_, List.nodup_append.mpr ⟨n1, List.nodup_append.mpr ⟨w'.nd 0, n3, fun x m1 y m2 e => ?_⟩, fun x m1 y m2 e => ?_⟩⟩
      · rcases List.mem_append.mp m with m | m
        · exact a1 m
        · rcases List.mem_append.mp m with m | m
          · exact y0 a m List.mem_cons_self
          · exact a3 m
      · subst e; exact y0 x m1 (List.mem_cons_of_mem _ (List.mem_append_right _ m2))
      · subst e
        rcases List.mem_append.mp m2 with m2 | m2
        · exact y0 x m2 (List.mem_cons_of_mem _ (List.mem_append_left _ m1))
        · exact d2 x m1 m2
    have in0 : ∀ x, x ∈ a :: (f1 ++ (gps 0 ++ f2)) → x ∈ rest ∨ x ∈ gps 0 := fun x m => by
      rcases List.mem_cons.mp m with rfl | m
      · exact .inl List.mem_cons_self
      · rcases List.mem_append.mp m with m | m
        · exact .inl (List.mem_cons_of_mem _ (List.mem_append_left _ m))
        · rcases List.mem_append.mp m with m | m
          · exact .inr m
          · exact .inl (List.mem_cons_of_mem _ (List.mem_append_right _ m))
    refine ⟨shiftF (a :: (f1 ++ (gps 0 ++ f2))) (fun i => gps (i + 1)), fun i s' e' q => ?_, fun i => ?_, fun i j b m1 m2 => ?_, fun i b m => ?_, by have := w'.len; simpa using this, w'.sub, fun b o q => w'.gsub b o (hG b o q), fun b o q => Same.free hG (w'.fg b o q)⟩
    · cases i with
      | zero =>
        simp at q; obtain ⟨rfl, rfl⟩ := q
        exact ⟨_, rfl, a, vs, _, rfl, kp a List.mem_cons_self _ ha, own', rfl⟩
      | succ i => exact w'.slot (i + 1) s' e' (by simpa using q)
    · cases i with
      | zero => exact n0'
      | succ i => exact w'.nd _
    · cases i with
      | zero =>
        cases j with
        | zero => rfl
        | succ j =>
          rcases in0 b m1 with z | z
          · exact (ng _ b m2 z).elim
          · have := w'.dis _ _ b z m2; omega
      | succ i =>
        cases j with
        | zero =>
          rcases in0 b m2 with z | z
          · exact (ng _ b m1 z).elim
          · have := w'.dis _ _ b z m1; omega
        | succ j => have := w'.dis _ _ b m1 m2; omega
    · have go : ∀ j, b ∈ gps j → F' b = none ∧ G b = none ∧ ∃ o, H' b = some o := fun j m => by
        obtain ⟨q1, q2, q3⟩ := w'.out j b m
        exact ⟨q1, Same.free hG q2, q3⟩
      cases i with
      | zero =>
        rcases in0 b m with z | z
        · obtain ⟨q1, q2, o, q3⟩ := w.out 0 b (r0 b z)
          obtain ⟨o', q4⟩ := gl b z
          refine ⟨?_, q2, o, kp b z o q3⟩
          cases q5 : F' b with
          | none => rfl
          | some u => have := w'.fg b u q5; rw [q4] at this; cases this
        · exact go 0 z
      | succ i => exact go _ m
end
end VL

set_option Elab.async false
set_option linter.all false
set_option maxRecDepth 100000
/-! VLe: places within owned objects; statements, loops, the defs. -/
noncomputable section
namespace VL
open PySem L2

/-! ### places -/
/-- what stands at a place of an owned thing: shape and data -/
def navS : Sh → D → List Nat → Option (Sh × D)
  | s, d, [] => some (s, d)
  | .seq s, .lst ds, k :: ps => match ds[k]? with
    | some d => navS s d ps
    | none => none
  | .obj f, .obj _ ns ds, k :: ps => match ns[k]?, ds[k]? with
    | some n, some d => navS (f n) d ps
    | _, _ => none
  | _, _, _ :: _ => none
def putS : D → List Nat → D → D
  | _, [], d' => d'
  | .lst ds, k :: ps, d' => match ds[k]? with
    | some d => .lst (ds.set k (putS d ps d'))
    | none => .lst ds
  | .obj C ns ds, k :: ps, d' => match ds[k]? with
    | some d => .obj C ns (ds.set k (putS d ps d'))
    | none => .obj C ns ds
  | d, _ :: _, _ => d
/-- one step in the heap -/
def Step (H : Hp) (k : Nat) (a : Addr) (w : V) : Prop := (∃ vs, H a = some (.lst vs) ∧ vs[k]? = some w) ∨ ∃ C dx fs n, H a = some (.ins C dx fs) ∧ fs[k]? = some (n, w)
/-- the same in the heap -/
def At (H : Hp) : List Nat → V → V → Prop
  | [], v, u => u = v
  | k :: ps, v, u => ∃ a w, v = .ref a ∧ Step H k a w ∧ At H ps w u
theorem OwF.split {R : Str → D → V → List Addr → Prop} : ∀ {ns : List Str} {ds : List D} {vs : List V} {fp : List Addr} {k : Nat} {n : Str} {d : D}, OwF R ns ds vs fp → ns[k]? = some n → ds[k]? = some d → ∃ v f1 f f2, vs[k]? = some v ∧ R n d v f ∧ fp = f1 ++ (f ++ f2) ∧
    (∀ (R' : Str → D → V → List Addr → Prop) d' v' f', R' n d' v' f' → (∀ m d v g, (∀ a ∈ g, a ∈ f1 ∨ a ∈ f2) → R m d v g → R' m d v g) → OwF R' ns (ds.set k d') (vs.set k v') (f1 ++ (f' ++ f2)))
  | [], _, _, _, _, _, _, _, e, _ => by simp at e
  | n :: ns, ds, vs, fp, 0, m, x, h, e0, e => by
    obtain ⟨d, dr, v, r, f1, f2, rfl, rfl, h1, h2, rfl⟩ := h
    simp at e0 e; subst e0; subst e
    exact ⟨v, [], f1, f2, rfl, h1, rfl, fun R' d' v' f' r' k => ⟨d', dr, v', r, f', f2, rfl, rfl, r', OwF.mono h2 fun n d v g m q => k n d v g (fun a z => .inr (m a z)) q, rfl⟩⟩
  | n :: ns, ds, vs, fp, k + 1, m, x, h, e0, e => by
    obtain ⟨d, dr, v, r, f1, f2, rfl, rfl, h1, h2, rfl⟩ := h
    obtain ⟨u, g1, g, g2, e1, e2, e3, e4⟩ := OwF.split (k := k) h2 (by simpa using e0) (by simpa using e)
    subst e3
    exact ⟨u, f1 ++ g1, g, g2, by simpa using e1, e2, by simp, fun R' d' v' f' r' kk => ⟨d, dr.set k d', v, r.set k v', f1, g1 ++ (f' ++ g2), rfl, rfl, kk _ _ _ _ (fun a z => .inl (List.mem_append_left _ z)) h1, e4 R' d' v' f' r' fun n d v g m q => kk n d v g (fun a z => (m a z).imp (List.mem_append_right _) id) q, by simp⟩⟩
section
variable {K : PySem.W.Frag} {G H H' F F' : Hp} {ρ : Sto} {σ : St}
theorem Step.mono {k : Nat} {a : Addr} {w : V} (e : Same H H') (h : Step H k a w) : Step H' k a w := by
  rcases h with ⟨vs, h1, h2⟩ | ⟨C, dx, fs, n, h1, h2⟩
  · exact .inl ⟨vs, e _ _ h1, h2⟩
  · exact .inr ⟨C, dx, fs, n, e _ _ h1, h2⟩
theorem Step.inj {k : Nat} {a : Addr} {w w' : V} (h : Step H k a w) (h' : Step H k a w') : w = w' := by
  rcases h with ⟨vs, h1, h2⟩ | ⟨C, dx, fs, n, h1, h2⟩ <;> rcases h' with ⟨vs', h1', h2'⟩ | ⟨C', dx', fs', n', h1', h2'⟩
  · rw [h1] at h1'; cases h1'; rw [h2] at h2'; cases h2'; rfl
  · rw [h1] at h1'; cases h1'
  · rw [h1] at h1'; cases h1'
  · rw [h1] at h1'; cases h1'; rw [h2] at h2'; cases h2'; rfl
theorem At.mono (e : Same H H') : ∀ {ps : List Nat} {v u : V}, At H ps v u → At H' ps v u
  | [], _, _, h => h
  | k :: ps, v, u, h => by
    obtain ⟨a, w, e1, e2, h⟩ := h
    exact ⟨a, w, e1, e2.mono e, At.mono e h⟩
theorem At.inj : ∀ {ps : List Nat} {v u u' : V}, At H ps v u → At H ps v u' → u = u'
  | [], _, _, _, h, h' => Eq.trans h (Eq.symm h')
  | k :: ps, v, u, u', h, h' => by
    obtain ⟨a, w, e1, e2, h⟩ := h
    obtain ⟨a', w', e1', e2', h'⟩ := h'
    rw [e1] at e1'; cases e1'
    cases e2.inj e2'
    exact At.inj h h'
theorem At.snoc1 {k : Nat} {a : Addr} {w : V} (e : Step H k a w) : ∀ {ps : List Nat} {v : V}, At H ps v (.ref a) → At H (ps ++ [k]) v w
  | [], v, h => ⟨a, w, Eq.symm h, e, rfl⟩
  | j :: ps, v, h => by
    obtain ⟨b, z, e1, e4, h⟩ := h
    exact ⟨b, z, e1, e4, At.snoc1 e h⟩
theorem At.snoc {k : Nat} {a : Addr} {vs : List V} {w : V} (e2 : H a = some (.lst vs)) (e3 : vs[k]? = some w) {ps : List Nat} {v : V} (h : At H ps v (.ref a)) : At H (ps ++ [k]) v w := At.snoc1 (.inl ⟨vs, e2, e3⟩) h
/-- one step into what is owned ahead -/
theorem RelW.zoomG {S s : Sh} {D0 d : D} {a : Addr} {v0 : V} {fps : Nat → List Addr} {f1 f f2 : List Addr} {D1 : D → D} (w : RelW K G (some (S, D0) :: ρ) (some (.ref a) :: σ) H F fps) (hf : fps 0 = a :: (f1 ++ (f ++ f2))) (e2 : Ow K H F s d v0 f)
    (mk : ∀ H' F' d' g, Same F F' → (∀ b, b ∈ a :: (f1 ++ f2) → ∀ o, H b = some o → H' b = some o) → Ow K H' F' s d' v0 g → Ow K H' F' S (D1 d') (.ref a) (a :: (f1 ++ (g ++ f2)))) :
    ∃ G', Rel K G' (some (s, d) :: ρ) (some v0 :: σ) H F ∧
      ∀ d' ρ' σ' H' F', Same F F' → Rel K G' (some (s, d') :: ρ') (some v0 :: σ') H' F' → Rel K G (some (S, D1 d') :: ρ') (some (.ref a) :: σ') H' F' := by
  have n0 := w.nd 0
  rw [hf] at n0
  obtain ⟨a1, a2, a3, n1, n2, n3, d1, d2, d3⟩ := nodup3 n0
  have a0 : a ∈ fps 0 := by rw [hf]; exact List.mem_cons_self
  have i0 : ∀ x, x ∈ f1 ∨ x ∈ f ∨ x ∈ f2 → x ∈ fps 0 := fun x m => by rw [hf]; simp; exact .inr m
  let rest : List Addr := a :: (f1 ++ f2)
  have r0 : ∀ x, x ∈ rest → x ∈ fps 0 := fun x m => by
    rcases List.mem_cons.mp m with rfl | m
    · exact a0
    · rcases List.mem_append.mp m with m | m
      · exact i0 x (.inl m)
      · exact i0 x (.inr (.inr m))
  have rf : ∀ x, x ∈ f → x ∉ rest := fun x m m2 => by
    rcases List.mem_cons.mp m2 with rfl | m2
    · exact a2 m
    · rcases List.mem_append.mp m2 with m2 | m2
      · exact d1 x m2 m
      · exact d3 x m m2
  let G' : Hp := fun b => if b ∈ rest then H b else G b
  have gin : ∀ {b}, b ∈ rest → G' b = H b := fun {b} m => if_pos m
  have gout : ∀ {b}, b ∉ rest → G' b = G b := fun {b} m => if_neg m
  have hG : Same G G' := fun b o q => by
    by_cases m : b ∈ rest
    · rw [gin m]; exact w.gsub b o q
    · rw [gout m]; exact q
  refine ⟨G', ⟨fun i => if i = 0 then f else fps i, fun i s' d' q => ?_, fun i => ?_, fun i j b m1 m2 => ?_, fun i b m => ?_, by have := w.len; simpa using this, w.sub, fun b o q => ?_, fun b o q => ?_⟩, ?_⟩
  · cases i with
    | zero => simp at q; obtain ⟨rfl, rfl⟩ := q; exact ⟨v0, rfl, e2⟩
    | succ i =>
      obtain ⟨u, q5, q6⟩ := w.slot (i + 1) s' d' (by simpa using q)
      exact ⟨u, by simpa using q5, q6⟩
  · show (if i = 0 then f else fps i).Nodup
    split
    · exact n2
    · exact w.nd i
  · have m1 : b ∈ (if i = 0 then f else fps i) := m1
    have m2 : b ∈ (if j = 0 then f else fps j) := m2
    split at m1 <;> split at m2
    · omega
    · have := w.dis _ _ b (i0 b (.inr (.inl m1))) m2; omega
    · have := w.dis _ _ b (i0 b (.inr (.inl m2))) m1; omega
    · exact w.dis _ _ b m1 m2
  · have m : b ∈ (if i = 0 then f else fps i) := m
    split at m
    · obtain ⟨q1, q2, q3⟩ := w.out 0 b (i0 b (.inr (.inl m)))
      exact ⟨q1, by rw [gout (rf b m)]; exact q2, q3⟩
    · rename_i hi
      obtain ⟨q1, q2, q3⟩ := w.out i b m
      refine ⟨q1, ?_, q3⟩
      rw [gout (fun z => hi (w.dis _ _ b m (r0 b z)))]; exact q2
  · by_cases m : b ∈ rest
    · rw [gin m] at q; exact q
    · rw [gout m] at q; exact w.gsub b o q
  · by_cases m : b ∈ rest
    · have := (w.out 0 b (r0 b m)).1; rw [q] at this; cases this
    · rw [gout m]; exact w.fg b o q
  · rintro d' ρ' σ' H' F' fe ⟨gps, w'⟩
    obtain ⟨u, p1, p2⟩ := w'.slot 0 _ _ rfl
    simp at p1; subst p1
    have kp : ∀ b ∈ rest, ∀ o, H b = some o → H' b = some o := fun b m o q => w'.gsub b o (by rw [gin m]; exact q)
    have gl : ∀ b ∈ rest, ∃ o, G' b = some o := fun b m => by
      obtain ⟨o, q⟩ := (w.out 0 b (r0 b m)).2.2
      exact ⟨o, by rw [gin m]; exact q⟩
    have ng : ∀ i b, b ∈ gps i → b ∉ rest := fun i b m m2 => by
      obtain ⟨o, q⟩ := gl b m2
      have := (w'.out i b m).2.1; rw [q] at this; cases this
    have n0' : (a :: (f1 ++ (gps 0 ++ f2))).Nodup := by
      have y0 : ∀ x, x ∈ gps 0 → x ∉ rest := fun x m => ng 0 x m
      refine List.nodup_cons.mpr ⟨fun m => ?_, List.nodup_append.mpr ⟨n1, List.nodup_append.mpr ⟨w'.nd 0, n3, fun x m1 y m2 e => ?_⟩, fun x m1 y m2 e => ?_⟩⟩
      · rcases List.mem_append.mp m with m | m
        · exact a1 m
        · rcases List.mem_append.mp m with m | m
          · exact y0 a m List.mem_cons_self
          · exact a3 m
      · subst e; exact y0 x m1 (List.mem_cons_of_mem _ (List.mem_append_right _ m2))
      · subst e
        rcases List.mem_append.mp m2 with m2 | m2
        · exact y0 x m2 (List.mem_cons_of_mem _ (List.mem_append_left _ m1))
        · exact d2 x m1 m2
    have in0 : ∀ x, x ∈ a :: (f1 ++ (gps 0 ++ f2)) → x ∈ rest ∨ x ∈ gps 0 := fun x m => by
      rcases List.mem_cons.mp m with rfl | m
      · exact .inl List.mem_cons_self
      · rcases List.mem_append.mp m with m | m
        · exact .inl (List.mem_cons_of_mem _ (List.mem_append_left _ m))
        · rcases List.mem_append.mp m with m | m
          · exact .inr m
          · exact .inl (List.mem_cons_of_mem _ (List.mem_append_right _ m))
    refine ⟨shiftF (a :: (f1 ++ (gps 0 ++ f2))) (fun i => gps (i + 1)), fun i s' e' q => ?_, fun i => ?_, fun i j b m1 m2 => ?_, fun i b m => ?_, by have := w'.len; simpa using this, w'.sub, fun b o q => w'.gsub b o (hG b o q), fun b o q => Same.free hG (w'.fg b o q)⟩
    · cases i with
      | zero =>
        simp at q; obtain ⟨rfl, rfl⟩ := q
        exact ⟨_, rfl, mk H' F' d' (gps 0) fe kp p2⟩
      | succ i => exact w'.slot (i + 1) s' e' (by simpa using q)
    · cases i with
      | zero => exact n0'
      | succ i => exact w'.nd _
    · cases i with
      | zero =>
        cases j with
        | zero => rfl
        | succ j =>
          rcases in0 b m1 with z | z
          · exact (ng _ b m2 z).elim
          · have := w'.dis _ _ b z m2; omega
      | succ i =>
        cases j with
        | zero =>
          rcases in0 b m2 with z | z
          · exact (ng _ b m1 z).elim
          · have := w'.dis _ _ b z m1; omega
        | succ j => have := w'.dis _ _ b m1 m2; omega
    · have go : ∀ j, b ∈ gps j → F' b = none ∧ G b = none ∧ ∃ o, H' b = some o := fun j m => by
        obtain ⟨q1, q2, q3⟩ := w'.out j b m
        exact ⟨q1, Same.free hG q2, q3⟩
      cases i with
      | zero =>
        rcases in0 b m with z | z
        · obtain ⟨q1, q2, o, q3⟩ := w.out 0 b (r0 b z)
          obtain ⟨o', q4⟩ := gl b z
          refine ⟨?_, q2, o, kp b z o q3⟩
          cases q5 : F' b with
          | none => rfl
          | some u => have := w'.fg b u q5; rw [q4] at this; cases this
        · exact go 0 z
      | succ i => exact go _ m
theorem set_self {α : Type} {xs : List α} {k : Nat} {x : α} (h : xs[k]? = some x) : xs.set k x = xs := by
  obtain ⟨hi, he⟩ := List.getElem?_eq_some_iff.mp h
  rw [← he]; exact List.set_getElem_self hi
theorem zip_get {α β : Type} : ∀ {ns : List α} {vs : List β} {k : Nat} {n : α} {v : β}, ns[k]? = some n → vs[k]? = some v → (ns.zip vs)[k]? = some (n, v)
  | [], _, _, _, _, e, _ => by simp at e
  | _ :: _, [], _, _, _, _, e => by simp at e
  | m :: ns, u :: vs, 0, n, v, e1, e2 => by simp at e1 e2; simp [e1, e2]
  | m :: ns, u :: vs, k + 1, n, v, e1, e2 => by
    have := zip_get (k := k) (ns := ns) (vs := vs) (by simpa using e1) (by simpa using e2)
    simpa using this
/-- one step into an owned instance ahead -/
theorem Rel.zoomF {g : Str → Sh} {C : Addr} {ns : List Str} {ds : List D} {n : Str} {d : D} {va : V} {k : Nat} (h : Rel K G (some (.obj g, .obj C ns ds) :: ρ) (some va :: σ) H F) (hn : ns[k]? = some n) (hk : ds[k]? = some d) :
    ∃ a v G', va = .ref a ∧ Step H k a v ∧ Rel K G' (some (g n, d) :: ρ) (some v :: σ) H F ∧
      ∀ d' ρ' σ' H' F', Same F F' → Rel K G' (some (g n, d') :: ρ') (some v :: σ') H' F' → Rel K G (some (.obj g, .obj C ns (ds.set k d')) :: ρ') (some va :: σ') H' F' := by
  obtain ⟨fps, w⟩ := h
  obtain ⟨u, q1, q2⟩ := w.slot 0 _ _ rfl
  simp at q1; subst q1
  obtain ⟨a, dx, vs, fp', rfl, ha, ho, hf⟩ := q2
  obtain ⟨v0, f1, f, f2, e1, e2, rfl, e4⟩ := ho.split hn hk
  obtain ⟨G', R1, back⟩ := w.zoomG (D1 := fun d' => .obj C ns (ds.set k d')) hf e2 fun H' F' d' gg fe kp p2 => by
    have own' : OwF (fun m => Ow K H' F' (g m)) ns (ds.set k d') (vs.set k v0) (f1 ++ (gg ++ f2)) := by
      refine e4 _ d' v0 gg p2 fun m d v g m2 q => q.mono fe fun b z o e => kp b ?_ o e
      rcases m2 b z with z | z
      · exact List.mem_cons_of_mem _ (List.mem_append_left _ z)
      · exact List.mem_cons_of_mem _ (List.mem_append_right _ z)
    rw [set_self e1] at own'
    exact ⟨a, dx, vs, _, rfl, kp a List.mem_cons_self _ ha, own', rfl⟩
  exact ⟨a, v0, G', rfl, .inr ⟨C, dx, _, n, ha, zip_get hn e1⟩, R1, back⟩
theorem Rel.zoom : ∀ {ps : List Nat} {sh : Sh} {d0 : D} {s1 : Sh} {d1 : D} {v0 : V} {G : Hp}, Rel K G (some (sh, d0) :: ρ) (some v0 :: σ) H F → navS sh d0 ps = some (s1, d1) →
    ∃ v1 G', At H ps v0 v1 ∧ Rel K G' (some (s1, d1) :: ρ) (some v1 :: σ) H F ∧
      ∀ d' ρ' σ' H' F', Same F F' → Rel K G' (some (s1, d') :: ρ') (some v1 :: σ') H' F' → Rel K G (some (sh, putS d0 ps d') :: ρ') (some v0 :: σ') H' F'
  | [], sh, d0, s1, d1, v0, G, h, e => by
    simp only [navS, Option.some.injEq, Prod.mk.injEq] at e
    obtain ⟨rfl, rfl⟩ := e
    exact ⟨v0, G, rfl, h, fun d' ρ' σ' H' F' _ q => q⟩
  | k :: ps, sh, d0, s1, d1, v0, G, h, e => by
    cases sh with
    | z => simp [navS] at e
    | obj f =>
      cases d0 with
      | obj C ns ds =>
        simp only [navS] at e
        split at e
        · rename_i n d hn hk
          obtain ⟨a, v, G1, rfl, st, R1, back⟩ := h.zoomF hn hk
          obtain ⟨v1, G2, at1, R2, back2⟩ := Rel.zoom R1 e
          refine ⟨v1, G2, ⟨a, v, rfl, st, at1⟩, R2, fun d' ρ' σ' H' F' f q => ?_⟩
          have := back _ ρ' σ' H' F' f (back2 d' ρ' σ' H' F' f q)
          simp only [putS, hk]
          exact this
        · cases e
      | _ => simp [navS] at e
    | seq s =>
      cases d0 with
      | lst ds =>
        simp only [navS] at e
        split at e
        · rename_i d hk
          obtain ⟨a, vs, v, G1, rfl, ha, hl, hv, R1, back⟩ := h.zoom1 hk
          obtain ⟨v1, G2, at1, R2, back2⟩ := Rel.zoom R1 e
          refine ⟨v1, G2, ⟨a, v, rfl, .inl ⟨vs, ha, hv⟩, at1⟩, R2, fun d' ρ' σ' H' F' f q => ?_⟩
          have := back _ ρ' σ' H' F' f (back2 d' ρ' σ' H' F' f q)
          simp only [putS, hk]
          exact this
        · cases e
      | _ => simp [navS] at e
end

def tL (K : PySem.W.Frag) (i : Nat) (f : Sto → Option (List Nat)) : TE := fun σ H Q => ∃ G ρ F ps, f ρ = some ps ∧ Rel K G ρ σ H F ∧
  ∀ v H' F', Same F F' → Same H H' → Rel K G ρ σ H' F' → (∃ v0, σ[i]? = some (some v0) ∧ At H' ps v0 v) → Q v H'
abbrev LV (X : Cx) (i : Nat) (e : Expr) (f : Sto → Option (List Nat)) : Prop := PE X e (tL X.K i f)
/-- the node at a place of slot i -/
def nodeAt (i : Nat) (ρ : Sto) (ps : List Nat) : Option (Sh × D) := match ρ[i]? with
  | some (some (sh, d)) => navS sh d ps
  | _ => none
section
variable {X : Cx} {e o a b : Expr} {fi fa : Sto → Option D} {pos : Pos} {i : Nat}
def lVar (i : Nat) : Sto → Option (List Nat) := fun ρ => match ρ[i]? with
  | some (some _) => some []
  | _ => none
theorem lv_var {x : Str} (hN : X.N[i]? = some x) (hv : Vis X.env.scope x) (hd : (x == ("__debug__" : Str)) = false := by decide) (hcd : (x == ("__classdict__" : Str)) = false := by decide) : LV X i (.Name x pos) (lVar i) := by
  refine pe_imp (pe_var hN hv hd hcd) fun σ H Q ⟨G, ρ, F, d, e1, R, k⟩ => ?_
  unfold lVar at e1
  split at e1
  · rename_i sd q; cases e1
    obtain ⟨s, d⟩ := sd
    obtain ⟨v, fp, q1, q2⟩ := R.get q
    exact ⟨v, q1, k v H F (Same.refl _) (Same.refl _) R ⟨v, q1, rfl⟩⟩
  · cases e1
/-- the list node at a place, an index in its bounds -/
def lstIx (i : Nat) (ρ : Sto) (ps : List Nat) (x : D) : Option Nat := match nodeAt i ρ ps, x with
  | some (.seq _, .lst ds), .int k => ixN ds.length k
  | _, _ => none
def lIx (i : Nat) (fo : Sto → Option (List Nat)) (fi : Sto → Option D) : Sto → Option (List Nat) := fun ρ => (fo ρ).bind fun ps => (fi ρ).bind fun x => (lstIx i ρ ps x).map fun j => ps ++ [j]
theorem bind_some' {α β : Type} {f : Option α} {g : α → Option β} {b : β} (h : f.bind g = some b) : ∃ a, f = some a ∧ g a = some b := by
  cases f with
  | none => cases h
  | some a => exact ⟨a, rfl, h⟩
theorem map_some' {α β : Type} {f : Option α} {g : α → β} {b : β} (h : f.map g = some b) : ∃ a, f = some a ∧ g a = b := by
  cases f with
  | none => cases h
  | some a => cases h; exact ⟨a, rfl, rfl⟩
/-- the node in the heap -/
theorem Rel.node {K : PySem.W.Frag} {G H F : Hp} {ρ : Sto} {σ : St} {ps : List Nat} {s : Sh} {ds : List D} {v0 v : V} (R : Rel K G ρ σ H F) (hn : nodeAt i ρ ps = some (.seq s, .lst ds)) (h0 : σ[i]? = some (some v0)) (at1 : At H ps v0 v) :
    ∃ a vs, v = .ref a ∧ H a = some (.lst vs) ∧ vs.length = ds.length := by
  unfold nodeAt at hn
  split at hn
  · rename_i sh d q
    obtain ⟨u, q1, R1⟩ := R.move q
    rw [h0] at q1; cases q1
    obtain ⟨v1, G', at2, R2, _⟩ := R1.zoom hn
    cases at1.inj at2
    exact R2.lst
  · cases hn
theorem lv_ix {fo : Sto → Option (List Nat)} (ho : LV X i o fo) (hi : PV X .z b fi) (hs : PlainIx b) : LV X i (.Subscript o b pos) (lIx i fo fi) := by
  refine pe_imp (pe_ix ix_list ho hi hs) fun σ H Q ⟨G, ρ, F, ps, q, R, k⟩ => ?_
  unfold lIx at q
  obtain ⟨ps0, q1, q⟩ := bind_some' q
  obtain ⟨x, q2, q⟩ := bind_some' q
  obtain ⟨j, q3, rfl⟩ := map_some' q
  refine ⟨G, ρ, F, ps0, q1, R, fun v H1 F1 f1 h1 R1 ⟨v0, z0, at1⟩ => ?_⟩
  refine ⟨G, ρ, F1, x, q2, R1, fun y H2 F2 f2 h2 R2 ⟨fp, r2⟩ => ?_⟩
  unfold lstIx at q3
  split at q3
  · rename_i s ds n hn _hx
    have r3 : y = .int n := by simpa only [Rp] using r2.1
    obtain ⟨a, vs, rfl, ha, hl⟩ := R2.node hn z0 (at1.mono h2)
    rw [← hl] at q3
    have hj := (ixN_seq q3).2.1
    refine ⟨a, vs, n, vs[j], rfl, r3, SqL.of ha, ?_, k _ H2 F2 (f1.trans f2) (h1.trans h2) R2 ⟨v0, z0, (at1.mono h2).snoc ha (by simp [hj])⟩⟩
    unfold atI
    rw [q3]
    simp [hj]
  · cases q3
end

/-! ### targets that take what is new -/
def tGF (K : PySem.W.Frag) (ws : List Nat) (s : Sh) (g : D → Sto → Option Sto) : TG := fun v σ H Q => ∃ G ρ F d ρ', g d ρ = some ρ' ∧ Rel K G (some (s, d) :: ρ) (some v :: σ) H F ∧
  ∀ σ' H' F', Same F F' → Dif ws σ σ' → Rel K G ρ' σ' H' F' → Q σ' H'
abbrev PGF (X : Cx) (ws : List Nat) (s : Sh) (tg : Expr) (g : D → Sto → Option Sto) : Prop := PG X tg (tGF X.K ws s g)
section
variable {X : Cx} {e o a b : Expr} {fi fa : Sto → Option D} {pos : Pos} {i : Nat} {s : Sh} {ws : List Nat}
def gF (i : Nat) (s : Sh) : D → Sto → Option Sto := fun d ρ => some (ρ.set i (some (s, d)))
theorem pgf_name {x : Str} (hN : X.N.Nodup) (hi : X.N[i]? = some x) (hx : Loc X.env.scope x) (hf : X.fn x = true ∨ X.env.scope.names.lookup x = some .local := by first | exact .inl rfl | exact .inr rfl | assumption) : PGF X [i] s (.Name x pos) (gF i s) := by
  refine pg_imp (pg_name hN hi hx hf) fun v σ H Q ⟨G, ρ, F, d, ρ', q, R, k⟩ => ?_
  cases q
  exact k _ H F (Same.refl _) Dif.set R.store
theorem PGV.pgf {g : D → Sto → Option Sto} (h : PGV X ws e g) : PGF X ws .z e g := by
  refine pg_imp h.pg fun v σ H Q ⟨G, ρ, F, d, ρ', q, R, k⟩ => ?_
  obtain ⟨fp, r⟩ := R.get0
  exact ⟨G, ρ, F, d, ρ', q, R.drop, r.1, fun σ' H' F' f1 h1 df R1 => k σ' H' F' f1 df R1⟩
def Sh.eqb (a b : Sh) : Bool := @decide (a = b) (Classical.propDecidable _)
theorem Sh.eq_of {a b : Sh} (h : Sh.eqb a b = true) : a = b := @of_decide_eq_true _ (Classical.propDecidable _) h
theorem Sh.eqb_self (a : Sh) : Sh.eqb a a = true := @decide_eq_true _ (Classical.propDecidable _) rfl
/-- slot i's data at a place becomes d -/
def putAt (i : Nat) (ρ : Sto) (ps : List Nat) (d : D) : Sto := match ρ[i]? with
  | some (some (sh, d0)) => ρ.set i (some (sh, putS d0 ps d))
  | _ => ρ
/-- a node is changed, what is new ahead is used up -/
theorem Rel.atNode {K : PySem.W.Frag} {G H F : Hp} {ρ : Sto} {σ : St} {ps : List Nat} {s1 : Sh} {d1 : D} {x : Slot} {y : Option V} {v0 v1 : V} (R : Rel K G (x :: ρ) (y :: σ) H F) (hn : nodeAt i ρ ps = some (s1, d1)) (h0 : σ[i]? = some (some v0)) (at1 : At H ps v0 v1) :
    ∃ G', Rel K G' (some (s1, d1) :: x :: ρ.set i none) (some v1 :: y :: σ) H F ∧ ∀ d' H' F', Same F F' → Rel K G' (some (s1, d') :: ρ.set i none) (some v1 :: σ) H' F' → Rel K G (putAt i ρ ps d') σ H' F' := by
  unfold nodeAt at hn
  split at hn
  · rename_i sh d q
    obtain ⟨u, q1, R1⟩ := R.move (i := i + 1) (by simpa using q)
    simp only [List.getElem?_cons_succ] at q1
    rw [h0] at q1; cases q1
    obtain ⟨v1', G', at2, R2, back⟩ := R1.zoom hn
    cases at1.inj at2
    refine ⟨G', by simpa using R2, fun d' H' F' f q3 => ?_⟩
    have R3 := (back d' _ _ H' F' f q3).store (i := i)
    rw [List.set_set] at R3
    have e : σ.set i (some v0) = σ := by
      obtain ⟨hi, he⟩ := List.getElem?_eq_some_iff.mp h0
      rw [← he]; exact List.set_getElem_self hi
    rw [e] at R3
    unfold putAt
    rw [q]
    exact R3
  · cases hn
/-- o[b] = .., o a list within slot i -/
def gSet (i : Nat) (s : Sh) (fo : Sto → Option (List Nat)) (fi : Sto → Option D) : D → Sto → Option Sto := fun d ρ => (fo ρ).bind fun ps => (fi ρ).bind fun x => match nodeAt i ρ ps with
  | some (.seq s', .lst ds) => if Sh.eqb s' s then (lstIx i ρ ps x).map fun j => putAt i ρ ps (.lst (ds.set j d)) else none
  | _ => none
theorem pgf_set {fo : Sto → Option (List Nat)} (ho : LV X i o fo) (hi : PV X .z b fi)
    (ha : ∀ v, assign (.Subscript o b pos) X.env v = (do
      let ov ← holding [v] (eval o X.env)
      let iv ← holding [v, ov] (eval b X.env)
      standAt pos
      holding [v, ov, iv] (setItem ov iv v)
      release [v, ov, iv] []) := by intro _; rfl) : PGF X [] s (.Subscript o b pos) (gSet i s fo fi) := by
  refine pg_imp (pg_sub ho hi set_list ha) fun v σ H Q ⟨G, ρ, F, d, ρ', q, R, k⟩ => ?_
  unfold gSet at q
  obtain ⟨ps, q1, q⟩ := bind_some' q
  obtain ⟨x, q2, q⟩ := bind_some' q
  obtain ⟨G1, R1, back⟩ := R.frame
  refine ⟨G1, ρ, F, ps, q1, R1, fun o1 H1 F1 f1 h1 R2 ⟨v0, z0, at1⟩ => ?_⟩
  refine ⟨G1, ρ, F1, x, q2, R2, fun y H2 F2 f2 h2 R3 ⟨fp, r2⟩ => ?_⟩
  have R4 := back ρ σ H2 F2 (f1.trans f2) R3
  split at q
  · rename_i s' ds hn
    split at q
    · rename_i hs
      obtain ⟨j, q3, eρ⟩ := map_some' q
      have hs := Sh.eq_of hs
      subst hs
      subst eρ
      obtain ⟨G2, R5, fin⟩ := R4.atNode hn z0 (at1.mono h2)
      unfold lstIx at q3
      rw [hn] at q3
      cases x <;> simp only at q3 <;> try cases q3
      rename_i n _hx
      have hj := (ixN_seq q3).2.1
      have r3 : y = .int n := by simpa only [Rp] using r2.1
      obtain ⟨a, vs, rfl, ha, hl, R6⟩ := R5.setAt hj
      exact ⟨a, vs, n, j, rfl, r3, ha, by rw [hl]; exact q3, k _ _ F2 (f1.trans f2) (Dif.refl _ _) (fin _ _ F2 (Same.refl _) R6)⟩
    · cases q
  · cases q
end
end VL

set_option Elab.async false
set_option linter.all false
set_option maxRecDepth 100000
/-! VLf: statements by value. -/
noncomputable section
namespace VL
open PySem L2

/-- where a statement ends -/
inductive Fl where
  | nx (ρ : Sto) | rt (d : D) (ρ : Sto) | bk (ρ : Sto) | ct (ρ : Sto)
/-- the slots of what is handed back through parameters stay -/
def Pin (io : List Nat) (σ σ' : St) : Prop := ∀ i ∈ io, σ'[i]? = σ[i]?
theorem Pin.refl (io : List Nat) (σ : St) : Pin io σ σ := fun _ _ => rfl
theorem Pin.trans {io : List Nat} {σ σ1 σ2 : St} (a : Pin io σ σ1) (b : Pin io σ1 σ2) : Pin io σ σ2 := fun i m => (b i m).trans (a i m)
theorem Dif.pin {ws io : List Nat} {σ σ' : St} (h : Dif ws σ σ') (hd : (ws.all fun j => !io.contains j) = true) : Pin io σ σ' := fun i m => h.at' i fun z => by
  have := List.all_eq_true.mp hd i z
  simp at this; exact this m
def FlOk (K : PySem.W.Frag) (G : Hp) (rs : Sh) (io : List Nat) (σ : St) (F : Hp) (Z : Ends) : Fl → Prop
  | .nx ρ' => ∀ σ' H' F', Same F F' → Pin io σ σ' → Rel K G ρ' σ' H' F' → Z.nx σ' H'
  | .rt d ρ' => ∀ v σ' H' F', Same F F' → Pin io σ σ' → Rel K G (some (rs, d) :: ρ') (some v :: σ') H' F' → Z.rt v H'
  | .bk ρ' => ∀ σ' H' F', Same F F' → Pin io σ σ' → Rel K G ρ' σ' H' F' → Z.bk σ' H'
  | .ct ρ' => ∀ σ' H' F', Same F F' → Pin io σ σ' → Rel K G ρ' σ' H' F' → Z.ct σ' H'
theorem FlOk.mono {K : PySem.W.Frag} {G : Hp} {rs : Sh} {io : List Nat} {σ σ1 : St} {F F1 : Hp} {Z : Ends} {fl : Fl} (h : FlOk K G rs io σ F Z fl) (e : Same F F1) (p : Pin io σ σ1) : FlOk K G rs io σ1 F1 Z fl := by
  cases fl with
  | nx ρ' => exact fun σ' H' F' f q R => h σ' H' F' (e.trans f) (p.trans q) R
  | rt d ρ' => exact fun v σ' H' F' f q R => h v σ' H' F' (e.trans f) (p.trans q) R
  | bk ρ' => exact fun σ' H' F' f q R => h σ' H' F' (e.trans f) (p.trans q) R
  | ct ρ' => exact fun σ' H' F' f q R => h σ' H' F' (e.trans f) (p.trans q) R
def tS (K : PySem.W.Frag) (rs : Sh) (io : List Nat) (f : Sto → Option Fl) : TS := fun Z σ H => ∃ G ρ F fl, f ρ = some fl ∧ Rel K G ρ σ H F ∧ FlOk K G rs io σ F Z fl
abbrev SV (X : Cx) (rs : Sh) (io : List Nat) (st : Stmt) (f : Sto → Option Fl) : Prop := PS X st (tS X.K rs io f)
abbrev SSV (X : Cx) (rs : Sh) (io : List Nat) (st : List Stmt) (f : Sto → Option Fl) : Prop := PSs X st (tS X.K rs io f)

section
variable {X : Cx} {rs s : Sh} {io ws : List Nat} {st : Stmt} {sts : List Stmt} {f g : Sto → Option Fl} {pos : Pos} {e tg : Expr}
def sNext : Sto → Option Fl := fun ρ => some (.nx ρ)
def sThen (fl : Option Fl) (g : Sto → Option Fl) : Option Fl := match fl with
  | some (.nx ρ) => g ρ
  | o => o
def sSeq (f g : Sto → Option Fl) : Sto → Option Fl := fun ρ => sThen (f ρ) g
theorem ssv_nil : SSV X rs io [] sNext := pss_imp pss_nil fun Z σ H ⟨G, ρ, F, fl, q, R, k⟩ => by
  cases q
  exact k σ H F (Same.refl _) (Pin.refl _ _) R
theorem ssv_cons (h1 : SV X rs io st f) (h2 : SSV X rs io sts g) : SSV X rs io (st :: sts) (sSeq f g) := by
  refine pss_imp (pss_cons h1 h2) fun Z σ H ⟨G, ρ, F, fl, q, R, k⟩ => ?_
  unfold sSeq at q
  cases q1 : f ρ with
  | none => rw [q1] at q; cases q
  | some fl1 =>
    rw [q1] at q
    refine ⟨G, ρ, F, fl1, q1, R, ?_⟩
    cases fl1 with
    | nx ρ1 => exact fun σ1 H1 F1 f1 p1 R1 => ⟨G, ρ1, F1, fl, q, R1, k.mono f1 p1⟩
    | rt d ρ1 => cases q; exact k
    | bk ρ1 => cases q; exact k
    | ct ρ1 => cases q; exact k
theorem ssv_one (h1 : SV X rs io st f) : SSV X rs io [st] f := pss_one h1
/-- not come to -/
def sNever : Sto → Option Fl := fun _ => none
theorem sv_never : SV X rs io st sNever := ps_imp ps_never fun Z σ H ⟨G, ρ, F, fl, q, R, k⟩ => by cases q
theorem ssv_never : SSV X rs io sts sNever := pss_imp pss_never fun Z σ H ⟨G, ρ, F, fl, q, R, k⟩ => by cases q
theorem sv_pass : SV X rs io (.Pass pos) sNext := ps_imp ps_pass fun Z σ H ⟨G, ρ, F, fl, q, R, k⟩ => by
  cases q
  exact k σ H F (Same.refl _) (Pin.refl _ _) R
def sBreak : Sto → Option Fl := fun ρ => some (.bk ρ)
def sCont : Sto → Option Fl := fun ρ => some (.ct ρ)
theorem sv_break : SV X rs io (.Break pos) sBreak := ps_imp ps_break fun Z σ H ⟨G, ρ, F, fl, q, R, k⟩ => by
  cases q
  exact k σ H F (Same.refl _) (Pin.refl _ _) R
theorem sv_cont : SV X rs io (.Continue pos) sCont := ps_imp ps_continue fun Z σ H ⟨G, ρ, F, fl, q, R, k⟩ => by
  cases q
  exact k σ H F (Same.refl _) (Pin.refl _ _) R
/-- a slot is frozen, ahead of a statement (nothing runs) -/
def sFrz (i : Nat) (f : Sto → Option Fl) : Sto → Option Fl := fun ρ => match ρ[i]? with
  | some (some (_, d)) => f (ρ.set i (some (.z, d)))
  | _ => none
theorem sv_frz {i : Nat} (h : SV X rs io st f) (hi : io.contains i = false := by rfl) : SV X rs io st (sFrz i f) := by
  refine ps_imp h fun Z σ H ⟨G, ρ, F, fl, q, R, k⟩ => ?_
  unfold sFrz at q
  split at q
  · rename_i s d q1
    obtain ⟨v, F', _, s1, R2, _⟩ := R.frzAt q1
    exact ⟨G, _, F', fl, q, R2, k.mono s1 (Pin.refl _ _)⟩
  · cases q

/-! ### assignments -/
def sAsg (f : Sto → Option (D × Sto)) (g : D → Sto → Option Sto) : Sto → Option Fl := fun ρ => (f ρ).bind fun x => (g x.1 x.2).map .nx
theorem sv_asg {fe : Sto → Option (D × Sto)} {g : D → Sto → Option Sto} (he : EF X s e fe) (hg : PGF X ws s tg g) (hw : (ws.all fun j => !io.contains j) = true) (hs : swapsWithSole [tg] e pos.line X.env = pure false := by rfl) (hsw : swappedStores [tg] e X.env = pure none := by rfl)
    (h1 : (assignEach [tg] X.env).map (·.2) = [assign tg X.env] := by rfl) : SV X rs io (.Assign [tg] e pos) (sAsg fe g) := by
  refine ps_imp (ps_asg he hg hs hsw h1) fun Z σ H ⟨G, ρ, F, fl, q, R, k⟩ => ?_
  unfold sAsg at q
  obtain ⟨⟨d, ρ1⟩, q1, q⟩ := bind_some' q
  obtain ⟨ρ2, q2, rfl⟩ := map_some' q
  exact ⟨G, ρ, F, d, ρ1, q1, R, fun v H1 F1 f1 R1 => ⟨G, ρ1, F1, d, ρ2, q2, R1, fun σ2 H2 F2 f2 d2 R2 => k σ2 H2 F2 (f1.trans f2) (d2.pin hw) R2⟩⟩
def sSet (i : Nat) (s : Sh) (f : Sto → Option (D × Sto)) : Sto → Option Fl := fun ρ => (f ρ).map fun x => .nx (x.2.set i (some (s, x.1)))
theorem sv_set {i : Nat} {x : Str} {fe : Sto → Option (D × Sto)} {pos' : Pos} (hN : X.N.Nodup) (hi : X.N[i]? = some x) (hx : Loc X.env.scope x) (he : EF X s e fe) (hw : io.contains i = false) (hs : swapsWith e (some (.Name x pos')) pos.line X.env = pure false := by rfl)
    (hf : X.fn x = true ∨ X.env.scope.names.lookup x = some .local := by first | exact .inl rfl | exact .inr rfl | assumption) : SV X rs io (.Assign [.Name x pos'] e pos) (sSet i s fe) := by
  refine ps_imp (ps_set hN hi hx he hs hf) fun Z σ H ⟨G, ρ, F, fl, q, R, k⟩ => ?_
  unfold sSet at q
  obtain ⟨⟨d, ρ1⟩, q1, rfl⟩ := map_some' q
  exact ⟨G, ρ, F, d, ρ1, q1, R, fun v H1 F1 f1 R1 => k _ H1 F1 f1 ((Dif.set (i := i)).pin (by simp at hw ⊢; exact hw)) R1.store⟩
/-- a, b = x, y with plain local names -/
def sPar (i j : Nat) (f : Sto → Option (List D × Sto)) : Sto → Option Fl := fun ρ => (f ρ).bind fun x => match x.1 with
  | [d, e] => some (.nx ((x.2.set i (some (.z, d))).set j (some (.z, e))))
  | _ => none
theorem sv_par {i j : Nat} {x y : Str} {a b : Expr} {fe : Sto → Option (List D × Sto)} {px py pt : Pos} {kt k2 pt2} (hc : X.calm = true) (hN : X.N.Nodup) (hi : X.N[i]? = some x) (hj : X.N[j]? = some y) (hij : i ≠ j)
    (hx : X.env.scope.names.lookup x = some .local) (hy : X.env.scope.names.lookup y = some .local) (ha : EAV X [a, b] fe) (hwi : io.contains i = false) (hwj : io.contains j = false)
    (hw : swappedStores [.Tuple [.Name x px, .Name y py] kt pt] (.Tuple [a, b] k2 pt2) X.env = pure (some [x, y]))
    (hs : swapsWithSole [.Tuple [.Name x px, .Name y py] kt pt] (.Tuple [a, b] k2 pt2) pos.line X.env = pure false := by rfl) :
    SV X rs io (.Assign [.Tuple [.Name x px, .Name y py] kt pt] (.Tuple [a, b] k2 pt2) pos) (sPar i j fe) := by
  refine ps_imp (ps_par hc hN hi hj hij hx hy ha hw hs) fun Z σ H ⟨G, ρ, F, fl, q, R, k⟩ => ?_
  unfold sPar at q
  obtain ⟨⟨ds, ρ1⟩, q1, q⟩ := bind_some' q
  split at q
  · rename_i d e hd
    cases q
    have hd : ds = [d, e] := hd
    subst hd
    refine ⟨G, ρ, F, _, ρ1, q1, R, fun vs H1 F1 f1 R1 r1 => ?_⟩
    obtain ⟨v, r, rfl, r2, r3⟩ := RpL.cons_inv r1
    obtain ⟨w, r', rfl, r4, r5⟩ := RpL.cons_inv r3
    have r5 := RpL.nil_inv r5
    subst r5
    exact ⟨v, w, rfl, k _ H1 F1 f1 (((Dif.set (i := i)).pin (by simp at hwi ⊢; exact hwi)).trans ((Dif.set (i := j)).pin (by simp at hwj ⊢; exact hwj))) ((R1.storez r2).storez r4)⟩
  · cases q
/-- name op= e -/
def OpI (K : PySem.W.Frag) (r : R2) (g : D → D → Option D) : Prop := OpD K .z .z r g
def sAug (i : Nat) (fe : Sto → Option (D × Sto)) (g : D → D → Option D) : Sto → Option Fl := fun ρ => match ρ[i]? with
  | some (some (.z, d)) => (fe ρ).bind fun x => (g d x.1).map fun z => .nx (x.2.set i (some (.z, z)))
  | _ => none
theorem sv_aug {i : Nat} {x : Str} {op : Operator} {r : R2} {g : D → D → Option D} {fe : Sto → Option (D × Sto)} {pos' : Pos} (hN : X.N.Nodup) (hi : X.N[i]? = some x) (hx : Loc X.env.scope x) (he : EV X e fe) (ho : OpR X (inplaceOp op) r) (hg : OpD X.K .z .z r g) (hw : io.contains i = false)
    (hf : X.fn x = true ∨ X.env.scope.names.lookup x = some .local := by first | exact .inl rfl | exact .inr rfl | assumption) : SV X rs io (.AugAssign (.Name x pos') op e pos) (sAug i fe g) := by
  refine ps_imp (ps_aug hN hi hx he (ti := r) (fun pins s σ H x y v u Q I r1 r2 h => ho pins s σ H x y v u Q I r1 r2 h) hf) fun Z σ H ⟨G, ρ, F, fl, q, R, k⟩ => ?_
  unfold sAug at q
  split at q
  · rename_i d q1
    obtain ⟨⟨y, ρ1⟩, q2, q⟩ := bind_some' q
    obtain ⟨z, q3, rfl⟩ := map_some' q
    obtain ⟨v, q4, q5⟩ := R.getz q1
    refine ⟨v, q4, G, ρ, F, y, ρ1, q2, R, fun u H1 F1 f1 R1 r1 => ?_⟩
    exact hg d y z q3 G ρ1 σ H1 F1 v u _ R1 ⟨[], Rp.mono f1 _ _ q5, rfl⟩ ⟨[], r1, rfl⟩ fun w H2 F2 f2 h2 R2 r2 => k _ H2 F2 (f1.trans f2) ((Dif.set (i := i)).pin (by simp at hw ⊢; exact hw)) (R2.storez r2)
  · cases q

/-! ### ends -/
def sRet (fe : Sto → Option (D × Sto)) : Sto → Option Fl := fun ρ => (fe ρ).map fun x => .rt x.1 x.2
theorem sv_ret {fe : Sto → Option (D × Sto)} (he : EF X rs e fe) : SV X rs io (.Return (some e) pos) (sRet fe) := by
  refine ps_imp (ps_ret he) fun Z σ H ⟨G, ρ, F, fl, q, R, k⟩ => ?_
  unfold sRet at q
  obtain ⟨⟨d, ρ1⟩, q1, rfl⟩ := map_some' q
  exact ⟨G, ρ, F, d, ρ1, q1, R, fun v H1 F1 f1 R1 => k v σ H1 F1 f1 (Pin.refl _ _) R1⟩
def sRetN : Sto → Option Fl := fun ρ => some (.rt .non ρ)
theorem sv_retN : SV X .z io (.Return none pos) sRetN := by
  refine ps_imp ps_retN fun Z σ H ⟨G, ρ, F, fl, q, R, k⟩ => ?_
  cases q
  exact k _ σ H F (Same.refl _) (Pin.refl _ _) (R.addz (by simp only [Rp]))
def sDrop (fe : Sto → Option (D × Sto)) : Sto → Option Fl := fun ρ => (fe ρ).map fun x => .nx x.2
theorem sv_expr {fe : Sto → Option (D × Sto)} (he : EV X e fe) (hs : swapsWith e none pos.line X.env = pure false := by rfl) : SV X rs io (.Expr e pos) (sDrop fe) := by
  refine ps_imp (ps_expr he hs) fun Z σ H ⟨G, ρ, F, fl, q, R, k⟩ => ?_
  unfold sDrop at q
  obtain ⟨⟨d, ρ1⟩, q1, rfl⟩ := map_some' q
  exact ⟨G, ρ, F, d, ρ1, q1, R, fun v H1 F1 f1 R1 _ => k σ H1 F1 f1 (Pin.refl _ _) R1⟩
def sIf (t : Sto → Option (Bool × Sto)) (a b : Sto → Option Fl) : Sto → Option Fl := fun ρ => (t ρ).bind fun c => if c.1 then a c.2 else b c.2
theorem sv_if {c : Expr} {a b : List Stmt} {t : Sto → Option (Bool × Sto)} {fa fb : Sto → Option Fl} (hc : ETV X c t) (ha : SSV X rs io a fa) (hb : SSV X rs io b fb) : SV X rs io (.If c a b pos) (sIf t fa fb) := by
  refine ps_imp (ps_if hc ha hb) fun Z σ H ⟨G, ρ, F, fl, q, R, k⟩ => ?_
  unfold sIf at q
  obtain ⟨⟨x, ρ1⟩, q1, q⟩ := bind_some' q
  refine ⟨G, ρ, F, x, ρ1, q1, R, fun H1 F1 f1 R1 => ?_⟩
  cases x with
  | true =>
    simp only [if_true] at q ⊢
    exact ⟨G, ρ1, F1, fl, q, R1, k.mono f1 (Pin.refl _ _)⟩
  | false =>
    simp only [Bool.false_eq_true, if_false] at q ⊢
    exact ⟨G, ρ1, F1, fl, q, R1, k.mono f1 (Pin.refl _ _)⟩

/-! ### loops -/
def forL (g : D → Sto → Option Sto) (b : Sto → Option Fl) : List D → Sto → Option Fl
  | [], ρ => some (.nx ρ)
  | x :: xs, ρ => (g x ρ).bind fun ρ1 => match b ρ1 with
    | some (.nx ρ') => forL g b xs ρ'
    | some (.ct ρ') => forL g b xs ρ'
    | some (.bk ρ') => some (.nx ρ')
    | some (.rt d ρ') => some (.rt d ρ')
    | none => none
def sFor (fi : Sto → Option (List D × Sto)) (g : D → Sto → Option Sto) (b : Sto → Option Fl) : Sto → Option Fl := fun ρ => (fi ρ).bind fun x => forL g b x.1 x.2
theorem sv_for {iter : Expr} {body : List Stmt} {fi : Sto → Option (List D × Sto)} {g : D → Sto → Option Sto} {fb : Sto → Option Fl} (hp : PassesOwn (model X.prog X.w) X.A X.env X.xe) (hc : X.calm = true) (hi : IEV X tg iter fi) (hg : PGV X ws tg g) (hb : SSV X rs io body fb) (hw : (ws.all fun j => !io.contains j) = true)
    (hs : ∀ x, foldedSetIterable iter X.env x = pure x := by intro _; rfl) : SV X rs io (.For tg iter body [] pos) (sFor fi g fb) := by
  refine ps_imp (ps_for hp hc hi hg.pg hb hs) fun Z σ H ⟨G, ρ, F, fl, q, R, k⟩ => ?_
  unfold sFor at q
  obtain ⟨⟨ds, ρ0⟩, q1, q⟩ := bind_some' q
  refine ⟨G, ρ, F, ds, ρ0, q1, R, fun J H1 F1 f1 R1 it => ?_⟩
  refine ⟨fun i m σ' H' => m = ds.length - i ∧ i ≤ ds.length ∧ ∃ ρ' F', Same F1 F' ∧ Pin io σ σ' ∧ Rel X.K G ρ' σ' H' F' ∧ forL g fb (ds.drop i) ρ' = some fl, ⟨ds.length, by simp, Nat.zero_le _, ρ0, F1, Same.refl _, Pin.refl _ _, R1, by simpa using q⟩, ?_⟩
  rintro i m σ2 H2 ⟨rfl, hi, ρ2, F2, f2, p2, R2, l2⟩
  by_cases hlt : i < ds.length
  · rw [List.drop_eq_getElem_cons hlt] at l2
    obtain ⟨ρ3, q3, l3⟩ := bind_some' (show (g ds[i] ρ2).bind _ = some fl from l2)
    refine .inr ⟨it.go i H2 F2 hlt f2 R2.sub, fun σ' H' => i + 1 ≤ ds.length ∧ ∃ ρ' F', Same F1 F' ∧ Pin io σ σ' ∧ Rel X.K G ρ' σ' H' F' ∧ forL g fb (ds.drop (i + 1)) ρ' = some fl, fun σ' H' p => ⟨ds.length - (i + 1), by omega, rfl, p⟩, fun x H3 y3 => ?_⟩
    have hd : ds[i]? = some ds[i] := by simp [hlt]
    obtain ⟨F3, f3, h3, R3, r3⟩ := it.yld i H2 x H3 y3 _ hd G _ _ F2 f2 R2
    refine ⟨G, ρ2, F3, _, ρ3, q3, R3, r3, fun σ4 H4 F4 f4 h4 d4 R4 => ?_⟩
    have p4 := p2.trans (d4.pin hw)
    cases qb : fb ρ3 with
    | none => rw [qb] at l3; cases l3
    | some flb =>
      rw [qb] at l3
      refine ⟨G, ρ3, F4, flb, qb, R4, ?_⟩
      cases flb with
      | nx ρ5 => exact fun σ5 H5 F5 f5 p5 R5 => ⟨hlt, ρ5, F5, f2.trans (f3.trans (f4.trans f5)), p4.trans p5, R5, l3⟩
      | ct ρ5 => exact fun σ5 H5 F5 f5 p5 R5 => ⟨hlt, ρ5, F5, f2.trans (f3.trans (f4.trans f5)), p4.trans p5, R5, l3⟩
      | bk ρ5 => cases l3; exact fun σ5 H5 F5 f5 p5 R5 => k σ5 H5 F5 (f1.trans (f2.trans (f3.trans (f4.trans f5)))) (p4.trans p5) R5
      | rt d ρ5 => cases l3; exact fun v σ5 H5 F5 f5 p5 R5 => k v σ5 H5 F5 (f1.trans (f2.trans (f3.trans (f4.trans f5)))) (p4.trans p5) R5
  · have e : i = ds.length := by omega
    subst e
    rw [List.drop_length] at l2
    cases l2
    exact .inl ⟨it.stop H2 F2 f2 R2.sub, k σ2 H2 F2 (f1.trans f2) p2 R2⟩
def whileL (t : Sto → Option (Bool × Sto)) (b : Sto → Option Fl) : Nat → Sto → Option Fl
  | 0, _ => none
  | n + 1, ρ => (t ρ).bind fun c => if c.1 then (match b c.2 with
    | some (.nx ρ') => whileL t b n ρ'
    | some (.ct ρ') => whileL t b n ρ'
    | some (.bk ρ') => some (.nx ρ')
    | some (.rt d ρ') => some (.rt d ρ')
    | none => none) else some (.nx c.2)
theorem sv_while (n : Nat) {c : Expr} {body : List Stmt} {t : Sto → Option (Bool × Sto)} {fb : Sto → Option Fl} (hp : PassesOwn (model X.prog X.w) X.A X.env X.xe) (hc : ETV X c t) (hb : SSV X rs io body fb) : SV X rs io (.While c body [] pos) (whileL t fb n) := by
  refine ps_imp (ps_while hp hc hb) fun Z σ H ⟨G, ρ, F, fl, q, R, k⟩ => ?_
  refine ⟨fun m σ' H' => ∃ ρ' F', Same F F' ∧ Pin io σ σ' ∧ Rel X.K G ρ' σ' H' F' ∧ whileL t fb m ρ' = some fl, ⟨n, ρ, F, Same.refl _, Pin.refl _ _, R, q⟩, ?_⟩
  rintro m σ1 H1 ⟨ρ1, F1, f1, p1, R1, l1⟩
  cases m with
  | zero => cases l1
  | succ m =>
    obtain ⟨⟨x, ρ2⟩, q2, l2⟩ := bind_some' (show (t ρ1).bind _ = some fl from l1)
    refine ⟨G, ρ1, F1, x, ρ2, q2, R1, fun H2 F2 f2 R2 => ?_⟩
    cases x with
    | false =>
      simp only [Bool.false_eq_true, if_false] at l2 ⊢
      cases l2
      exact k σ1 H2 F2 (f1.trans f2) p1 R2
    | true =>
      simp only [if_true] at l2 ⊢
      refine ⟨fun σ' H' => ∃ ρ' F', Same F F' ∧ Pin io σ σ' ∧ Rel X.K G ρ' σ' H' F' ∧ whileL t fb m ρ' = some fl, fun σ' H' p => ⟨m, Nat.lt_succ_self _, p⟩, ?_⟩
      cases qb : fb ρ2 with
      | none => rw [qb] at l2; cases l2
      | some flb =>
        rw [qb] at l2
        refine ⟨G, ρ2, F2, flb, qb, R2, ?_⟩
        cases flb with
        | nx ρ5 => exact fun σ5 H5 F5 f5 p5 R5 => ⟨ρ5, F5, f1.trans (f2.trans f5), p1.trans p5, R5, l2⟩
        | ct ρ5 => exact fun σ5 H5 F5 f5 p5 R5 => ⟨ρ5, F5, f1.trans (f2.trans f5), p1.trans p5, R5, l2⟩
        | bk ρ5 => cases l2; exact fun σ5 H5 F5 f5 p5 R5 => k σ5 H5 F5 (f1.trans (f2.trans f5)) (p1.trans p5) R5
        | rt d ρ5 => cases l2; exact fun v σ5 H5 F5 f5 p5 R5 => k v σ5 H5 F5 (f1.trans (f2.trans f5)) (p1.trans p5) R5

/-! ### x.append(e), x[i] op= e -/
def sApp (i : Nat) (s : Sh) (fo : Sto → Option (List Nat)) (fe : Sto → Option (D × Sto)) : Sto → Option Fl := fun ρ => (fo ρ).bind fun ps => match nodeAt i ρ ps with
  | some (.seq _, .lst _) => (fe ρ).bind fun x => match nodeAt i x.2 ps with
    | some (.seq s', .lst ds) => if Sh.eqb s' s && decide (ds.length < 1000000) then some (.nx (putAt i x.2 ps (.lst (ds ++ [x.1])))) else none
    | _ => none
  | _ => none
/-- what an owned list's place is, seen again -/
theorem Rel.at_of {K : PySem.W.Frag} {G H F : Hp} {ρ : Sto} {σ : St} {i : Nat} {ps : List Nat} {s1 : Sh} {d1 : D} {v0 : V} (R : Rel K G ρ σ H F) (hn : nodeAt i ρ ps = some (s1, d1)) (h0 : σ[i]? = some (some v0)) : ∃ v1, At H ps v0 v1 := by
  unfold nodeAt at hn
  split at hn
  · rename_i sh d q
    obtain ⟨u, q1, R1⟩ := R.move q
    rw [h0] at q1; cases q1
    obtain ⟨v1, G', at2, _, _⟩ := R1.zoom hn
    exact ⟨v1, at2⟩
  · cases hn
theorem sv_append {i : Nat} {o a : Expr} {apos cpos : Pos} {fo : Sto → Option (List Nat)} {fe : Sto → Option (D × Sto)} (ho : LV X i o fo) (he : EF X s a fe) (h0 : fo = lVar i)
    (hbase : attributeBase o "append" X.env (eval o X.env) = eval o X.env := by rfl)
    (hfew : ((backTo cpos (starEach [a] X.env)).all (fun x => !x.1) && (backToKw cpos (keywordEach [] X.env)).all (fun x => x.1.isSome)
      && decide (([a] : List Expr).length + ([] : List Keyword).length + (if ([] : List Keyword).isEmpty then 0 else 1) < 30)) = true := by rfl)
    (hline : (apos.endLine == cpos.line) = true := by rfl) (hs : starEach [a] X.env = (false, eval a X.env) :: starEach [] X.env := by rfl) (hplain : (backTo cpos (starEach [] X.env)).any (·.1) = false := by rfl)
    (hsw : swapsWith (.Call (.Attribute o "append" apos) [a] [] cpos) none pos.line X.env = pure false := by rfl) :
    SV X rs io (.Expr (.Call (.Attribute o "append" apos) [a] [] cpos) pos) (sApp i s fo fe) := by
  refine ps_imp (ps_expr (pe_bm PySem.F.plainAttrs_list PySem.F.slot_list_append PySem.F.type_list_append mt_append ho (pa_cons he pa_nil hs) hbase hfew hline hs hplain) hsw) fun Z σ H ⟨G, ρ, F, fl, q, R, k⟩ => ?_
  subst h0
  unfold sApp at q
  obtain ⟨ps, q1, q⟩ := bind_some' q
  have hps : ps = [] := by
    unfold lVar at q1
    split at q1 <;> cases q1
    rfl
  subst hps
  refine ⟨G, ρ, F, _, q1, R, fun v H1 F1 f1 h1 R1 ⟨v0, z0, at1⟩ => ?_⟩
  cases at1
  split at q
  · rename_i s0 ds0 hn0
    obtain ⟨a0, vs0, rfl, ha0, _⟩ := R1.node hn0 z0 rfl
    refine ⟨.inl ⟨rfl, vs0, SqL.of ha0⟩, ?_⟩
    obtain ⟨⟨d, ρ1⟩, q2, q⟩ := bind_some' q
    refine ⟨G, ρ, F1, d, ρ1, q2, R1, fun u H2 F2 f2 R2 => ?_⟩
    split at q
    · rename_i s' ds hn
      split at q
      · rename_i hh
        simp only [Bool.and_eq_true, decide_eq_true_eq] at hh
        cases q
        have hs := Sh.eq_of hh.1
        subst hs
        obtain ⟨G', R3, fin⟩ := R2.atNode hn z0 rfl
        obtain ⟨a1, vs1, e1, ha1, hl1, R4⟩ := R3.snoc
        cases e1
        exact ⟨a0, vs1, u, rfl, rfl, ha1, by rw [hl1]; exact Nat.lt_of_lt_of_le hh.2 (by rw [sizeLine_eq]; decide), k σ _ F2 (f1.trans f2) (Pin.refl _ _) (fin _ _ F2 (Same.refl _) R4)⟩
      · cases q
    · cases q
  · cases q
theorem pget_list : PGet X (rIxL X.K) := by
  intro pins s σ H o i ov iv Q I ro ri h
  obtain ⟨p, xs, k, z, rfl, rfl, hq, he, q⟩ := h
  cases ro
  obtain ⟨t, rfl⟩ := ri
  obtain ⟨its, r, pl, hz⟩ := I.list hq
  obtain ⟨j, h1, h2, h3, h4, h5⟩ := atI_get he
  obtain ⟨w, ew, rw'⟩ := r.get h2
  have hl := r.length
  have hn := line63
  have fin : EP X pins σ Q w s := ⟨z, H, I, rw', q⟩
  by_cases h0 : 0 ≤ k
  · have hj : k.toNat = j := by
      rw [seqIndex_of h0 h5] at h1
      exact Option.some.inj h1
    exact wpAny_getItem_list pl.isList h0 (by omega) (by rw [hj]; simpa using ew) fin
  · have hj : (k + (its.toArray.size : Int)).toNat = j := by
      rw [seqIndex_neg (by omega) h4] at h1
      rw [List.size_toArray, ← hl]
      exact Option.some.inj h1
    exact wpAny_getItem_list_neg pl.isList (by omega) (by rw [List.size_toArray] <;> omega) (by omega) (by rw [hj]; simpa using ew) fin
def sAugS (i : Nat) (fo : Sto → Option (List Nat)) (fi fe : Sto → Option D) (g : D → D → Option D) : Sto → Option Fl := fun ρ => (fo ρ).bind fun ps => (fi ρ).bind fun x => match nodeAt i ρ ps with
  | some (.seq .z, .lst ds) => (lstIx i ρ ps x).bind fun j => (ds[j]?).bind fun old => (fe ρ).bind fun y => (g old y).map fun z => .nx (putAt i ρ ps (.lst (ds.set j z)))
  | _ => none
theorem sv_augS {i : Nat} {o b : Expr} {op : Operator} {r : R2} {g : D → D → Option D} {fo : Sto → Option (List Nat)} {fi fe : Sto → Option D} {tpos : Pos} (ho : LV X i o fo) (hi : PV X .z b fi) (he : PV X .z e fe) (hop : OpR X (inplaceOp op) r) (hg : OpD X.K .z .z r g)
    (ha : ∀ ov iv new, augStore b ov iv new = (do holding [new, ov, iv] (setItem ov iv new); release [new, ov, iv] []; pure .next) := by intros; rfl) :
    SV X rs io (.AugAssign (.Subscript o b tpos) op e pos) (sAugS i fo fi fe g) := by
  refine ps_imp (ps_augS ho hi pget_list he (tip := r) (fun pins s σ H x y v u Q I r1 r2 h => hop pins s σ H x y v u Q I r1 r2 h) set_list ha) fun Z σ H ⟨G, ρ, F, fl, q, R, k⟩ => ?_
  unfold sAugS at q
  obtain ⟨ps, q1, q⟩ := bind_some' q
  obtain ⟨x, q2, q⟩ := bind_some' q
  refine ⟨G, ρ, F, ps, q1, R, fun o1 H1 F1 f1 h1 R1 ⟨v0, z0, at1⟩ => ?_⟩
  refine ⟨G, ρ, F1, x, q2, R1, fun y H2 F2 f2 h2 R2 ⟨fp, r2⟩ => ?_⟩
  split at q
  · rename_i ds hn
    obtain ⟨j, q3, q⟩ := bind_some' q
    obtain ⟨old, q4, q⟩ := bind_some' q
    obtain ⟨ye, q5, q⟩ := bind_some' q
    obtain ⟨z, q6, rfl⟩ := map_some' q
    unfold lstIx at q3
    rw [hn] at q3
    cases x <;> simp only at q3 <;> try cases q3
    rename_i n _hx
    have hj := (ixN_seq q3).2.1
    have r3 : y = .int n := by simpa only [Rp] using r2.1
    -- the node, read
    have nd : ∃ a vs w, o1 = .ref a ∧ H2 a = some (.lst vs) ∧ vs.length = ds.length ∧ vs[j]? = some w ∧ Rp X.K F2 old w := by
      have hn' := hn
      unfold nodeAt at hn'
      split at hn'
      · rename_i sh d0 q7
        obtain ⟨u, q8, R3⟩ := R2.move q7
        rw [z0] at q8; cases q8
        obtain ⟨v1, G', at2, R4, _⟩ := R3.zoom hn'
        cases (at1.mono h2).inj at2
        obtain ⟨fp', a, vs, fp'', rfl, ha', ho', _⟩ := R4.get0
        obtain ⟨rl, _⟩ := OwL.unz ho'
        obtain ⟨w, e3, e4⟩ := RpL.get rl q4
        exact ⟨a, vs, w, rfl, ha', (RpL.length rl).symm, e3, e4⟩
      · cases hn'
    obtain ⟨a, vs, w, rfl, ha', hl, hw, rw'⟩ := nd
    refine ⟨a, vs, n, w, rfl, r3, SqL.of ha', ?_, ?_⟩
    · unfold atI
      rw [hl, q3]
      exact hw
    · refine ⟨G, ρ, F2, ye, q5, R2, fun ve H3 F3 f3 h3 R3 ⟨fpe, r4⟩ => ?_⟩
      refine hg old ye z q6 G ρ σ H3 F3 w ve _ R3 ⟨[], Rp.mono f3 _ _ rw', rfl⟩ ⟨[], r4.1, rfl⟩ fun vz H4 F4 f4 h4 R4 r5 => ?_
      have at4 := (at1.mono h2).mono (h3.trans h4)
      obtain ⟨G', R5, fin⟩ := (R4.addz r5).atNode hn z0 at4
      obtain ⟨a1, vs1, e1, ha1, hl1, R6⟩ := R5.setAt hj
      cases e1
      exact ⟨a, vs1, n, j, rfl, r3, ha1, by rw [hl1]; exact q3, k σ _ F4 (f1.trans (f2.trans (f3.trans f4))) (Pin.refl _ _) (fin _ _ F4 (Same.refl _) R6)⟩
  · cases q
end
end VL

set_option Elab.async false
set_option linter.all false
set_option maxRecDepth 100000
/-! VLg: defs and their calls; instances. -/
noncomputable section
namespace VL
open PySem PySem.Spec PyProof.Rows L2

/-! ### promises -/
def argZ (ds : List D) : Sto := ds.map fun d => some (.z, d)
/-- parameters, the i-th owned at shape sh -/
def argS : Nat → Sh → List D → Sto
  | _, _, [] => []
  | 0, sh, d :: ds => some (sh, d) :: argZ ds
  | i + 1, sh, d :: ds => some (.z, d) :: argS i sh ds
/-- a def that is given frozen data ds and hands back m ds, at shape rs -/
def spP (K : PySem.W.Frag) (n : Nat) (rs : Sh) (m : List D → Option D) : Sp := fun vs H Q _ => ∃ ds F G r, ds.length = n ∧ m ds = some r ∧ Rel K G (argZ ds) (vs.map some) H F ∧
  ∀ v H' F', Same F F' → Rel K G [some (rs, r)] [some v] H' F' → Q v H'
/-- a def whose i0-th parameter is owned: m gives the value and what the parameter holds behind it -/
def spIO (K : PySem.W.Frag) (n i0 : Nat) (sh rs : Sh) (m : List D → Option (D × D)) : Sp := fun vs H Q _ => ∃ ds F G r d', ds.length = n ∧ m ds = some (r, d') ∧ Rel K G (argS i0 sh ds) (vs.map some) H F ∧
  ∀ v H' F', Same F F' → Rel K G [some (rs, r), some (sh, d')] [some v, vs[i0]?] H' F' → Q v H'

section
variable {K : PySem.W.Frag} {G H H' F F' : Hp} {ρ : Sto} {σ : L2.St}
theorem argS_len : ∀ {i : Nat} {sh : Sh} {ds : List D}, (argS i sh ds).length = ds.length
  | _, _, [] => by cases ‹Nat› <;> rfl
  | 0, _, _ :: _ => by simp [argS, argZ]
  | i + 1, sh, d :: ds => by simp [argS, argS_len (i := i)]
theorem argZ_get {ds : List D} {i : Nat} {s : Sh} {d : D} (h : (argZ ds)[i]? = some (some (s, d))) : s = .z ∧ ds[i]? = some d := by
  unfold argZ at h
  rw [List.getElem?_map] at h
  cases q : ds[i]? with
  | none => rw [q] at h; cases h
  | some x => rw [q] at h; cases h; exact ⟨rfl, rfl⟩
theorem argS_get : ∀ {i0 : Nat} {sh : Sh} {ds : List D} {i : Nat} {s : Sh} {d : D}, (argS i0 sh ds)[i]? = some (some (s, d)) → ds[i]? = some d ∧ ((i = i0 ∧ s = sh) ∨ (i ≠ i0 ∧ s = .z))
  | i0, _, [], i, s, d, h => by cases i0 <;> simp [argS] at h
  | 0, sh, e :: ds, 0, s, d, h => by simp [argS] at h; obtain ⟨rfl, rfl⟩ := h; exact ⟨rfl, .inl ⟨rfl, rfl⟩⟩
  | 0, sh, e :: ds, i + 1, s, d, h => by
    have := argZ_get (i := i) (by simpa [argS] using h)
    exact ⟨by simpa using this.2, .inr ⟨by omega, this.1⟩⟩
  | i0 + 1, sh, e :: ds, 0, s, d, h => by simp [argS] at h; obtain ⟨rfl, rfl⟩ := h; exact ⟨rfl, .inr ⟨by omega, rfl⟩⟩
  | i0 + 1, sh, e :: ds, i + 1, s, d, h => by
    have := argS_get (i0 := i0) (i := i) (by simpa [argS] using h)
    exact ⟨by simpa using this.1, this.2.imp (fun z => ⟨by omega, z.2⟩) fun z => ⟨by omega, z.2⟩⟩
theorem Rel.sel1 {x : Slot} {y : Option V} (h : Rel K G (x :: ρ) (y :: σ) H F) : Rel K G [x] [y] H F := by
  obtain ⟨fps, w⟩ := h
  refine ⟨fps, fun i s d q => ?_, w.nd, w.dis, w.out, rfl, w.sub, w.gsub, w.fg⟩
  cases i with
  | zero =>
    obtain ⟨v, q1, q2⟩ := w.slot 0 s d (by simpa using q)
    exact ⟨v, by simpa using q1, q2⟩
  | succ i => simp at q
theorem Rel.sel2 {x : Slot} {y : Option V} {i : Nat} {s0 : Sh} {d0 : D} (h : Rel K G (x :: ρ) (y :: σ) H F) (e1 : ρ[i]? = some (some (s0, d0))) : Rel K G [x, some (s0, d0)] [y, (σ[i]?).join] H F := by
  obtain ⟨fps, w⟩ := h
  refine ⟨fun j => if j = 0 then fps 0 else if j = 1 then fps (i + 1) else [], fun j s d q => ?_, fun j => ?_, fun j k a m1 m2 => ?_, fun j a m => ?_, rfl, w.sub, w.gsub, w.fg⟩
  · cases j with
    | zero =>
      obtain ⟨v, q1, q2⟩ := w.slot 0 s d (by simpa using q)
      exact ⟨v, by simpa using q1, q2⟩
    | succ j =>
      cases j with
      | zero =>
        simp at q; obtain ⟨rfl, rfl⟩ := q
        obtain ⟨v, q1, q2⟩ := w.slot (i + 1) s0 d0 (by simpa using e1)
        have q1 : σ[i]? = some (some v) := by simpa using q1
        exact ⟨v, by simp [q1], q2⟩
      | succ j => simp at q
  · show (if j = 0 then fps 0 else if j = 1 then fps (i + 1) else []).Nodup
    split
    · exact w.nd 0
    · split
      · exact w.nd _
      · exact List.nodup_nil
  · have m1 : a ∈ (if j = 0 then fps 0 else if j = 1 then fps (i + 1) else []) := m1
    have m2 : a ∈ (if k = 0 then fps 0 else if k = 1 then fps (i + 1) else []) := m2
    split at m1
    · split at m2
      · omega
      · split at m2
        · have := w.dis _ _ a m1 m2; omega
        · cases m2
    · split at m1
      · split at m2
        · have := w.dis _ _ a m1 m2; omega
        · split at m2
          · omega
          · cases m2
      · cases m1
  · have m : a ∈ (if j = 0 then fps 0 else if j = 1 then fps (i + 1) else []) := m
    split at m
    · exact w.out _ a m
    · split at m
      · exact w.out _ a m
      · cases m
/-- what a callee must keep: all but the frozen part -/
def gP (H F : Hp) : Hp := fun a => if (F a).isSome then none else H a
theorem Rel.argsZ {ds : List D} {vs : List V} (R : Rel K G ρ σ H F) (r : RpL K F ds vs) : Rel K (gP H F) (argZ ds) (vs.map some) H F := by
  have hl := RpL.length r
  refine ⟨fun _ => [], fun i s d q => ?_, fun _ => List.nodup_nil, fun i j a m => (by cases m), fun i a m => (by cases m), by simp [argZ, hl], R.sub, fun a o q => ?_, fun a o q => ?_⟩
  · obtain ⟨e1, e2⟩ := argZ_get q
    subst e1
    obtain ⟨v, q1, q2⟩ := RpL.get r e2
    exact ⟨v, by rw [List.getElem?_map, q1]; rfl, q2, rfl⟩
  · unfold gP at q
    split at q
    · cases q
    · exact q
  · unfold gP; rw [q]; rfl
theorem gP_some {a : Addr} {o : HO} (h : F a = none) (e : H a = some o) : gP H F a = some o := by unfold gP; rw [h]; exact e
theorem Rel.afterP {x : Slot} {y : Option V} (R : Rel K G ρ σ H F) (e : Same F F') (R1 : Rel K (gP H F) [x] [y] H' F') : Rel K G (x :: ρ) (y :: σ) H' F' ∧ Same H H' := by
  have hs : Same H H' := fun a o q => by
    cases q1 : F a with
    | none => exact R1.gsub a o (gP_some q1 q)
    | some u =>
      have := R.sub a u q1
      rw [q] at this; cases this
      exact R1.sub a o (e a o q1)
  refine ⟨?_, hs⟩
  obtain ⟨fps, w⟩ := R
  obtain ⟨gps, w'⟩ := R1
  have ng : ∀ i a, a ∈ fps i → F' a = none := fun i a m => by
    obtain ⟨q1, _, o, q2⟩ := w.out i a m
    cases q3 : F' a with
    | none => rfl
    | some u => have := w'.fg a u q3; rw [gP_some q1 q2] at this; cases this
  have nx : ∀ i j a, a ∈ fps i → a ∈ gps j → False := fun i j a m m2 => by
    obtain ⟨q1, _, o, q2⟩ := w.out i a m
    have := (w'.out j a m2).2.1
    rw [gP_some q1 q2] at this; cases this
  have gg : ∀ a o, G a = some o → gP H F a = some o := fun a o q => gP_some (by
    cases q1 : F a with
    | none => rfl
    | some u => have := w.fg a u q1; rw [q] at this; cases this) (w.gsub a o q)
  refine ⟨shiftF (gps 0) fps, fun i s d q => ?_, fun i => ?_, fun i j a m1 m2 => ?_, fun i a m => ?_, by simp [w.len], w'.sub, fun a o q => w'.gsub a o (gg a o q), fun a o q => ?_⟩
  · cases i with
    | zero => exact w'.slot 0 s d (by simpa using q)
    | succ i =>
      obtain ⟨v, q1, q2⟩ := w.slot i s d (by simpa using q)
      exact ⟨v, by simpa using q1, q2.mono e fun a _ o z => hs a o z⟩
  · cases i with
    | zero => exact w'.nd 0
    | succ i => exact w.nd i
  · cases i with
    | zero =>
      cases j with
      | zero => rfl
      | succ j => exact (nx j 0 a m2 m1).elim
    | succ i =>
      cases j with
      | zero => exact (nx i 0 a m1 m2).elim
      | succ j => exact congrArg _ (w.dis i j a m1 m2)
  · cases i with
    | zero =>
      obtain ⟨q1, q2, q3⟩ := w'.out 0 a m
      refine ⟨q1, ?_, q3⟩
      cases q4 : G a with
      | none => rfl
      | some o => rw [gg a o q4] at q2; cases q2
    | succ i =>
      obtain ⟨_, q2, o, q3⟩ := w.out i a m
      exact ⟨ng i a m, q2, o, hs a o q3⟩
  · cases q4 : G a with
    | none => rfl
    | some u => have := w'.fg a o q; rw [gg a u q4] at this; cases this
/-- the parameters of a call whose i0-th argument is what slot j owns -/
structure ArgOk (K : PySem.W.Frag) (F : Hp) (i0 j : Nat) (σ : L2.St) (ds : List D) (vs : List V) : Prop where
  len : ds.length = vs.length
  rp : ∀ i d v, i ≠ i0 → ds[i]? = some d → vs[i]? = some v → Rp K F d v
  io : ∃ v, vs[i0]? = some v ∧ σ[j]? = some (some v)
theorem Rel.argsIO {ds : List D} {vs : List V} {i0 j : Nat} {sh : Sh} {d0 : D} (R : Rel K G ρ σ H F) (r : ArgOk K F i0 j σ ds vs) (h0 : ρ[j]? = some (some (sh, d0))) (hd : ds[i0]? = some d0) :
    ∃ Gc fpj vj, vs[i0]? = some vj ∧ Ow K H F sh d0 vj fpj ∧ Rel K Gc (argS i0 sh ds) (vs.map some) H F ∧ ∀ x y d' H' F', Same F F' → Rel K Gc [x, some (sh, d')] [y, vs[i0]?] H' F' →
      Rel K G (x :: ρ.set j (some (sh, d'))) (y :: σ) H' F' ∧ ∀ a o, a ∉ fpj → H a = some o → H' a = some o := by
  obtain ⟨fps, w⟩ := R
  obtain ⟨vj, hv, hσ⟩ := r.io
  obtain ⟨u, q1, q2⟩ := w.slot j sh d0 h0
  rw [hσ] at q1; cases q1
  let Gc : Hp := fun a => if a ∈ fps j then none else gP H F a
  have gin : ∀ {a}, a ∈ fps j → Gc a = none := fun {a} m => if_pos m
  have gout : ∀ {a}, a ∉ fps j → Gc a = gP H F a := fun {a} m => if_neg m
  have gsome : ∀ {a o}, a ∉ fps j → F a = none → H a = some o → Gc a = some o := fun {a o} m h e => by rw [gout m]; exact gP_some h e
  refine ⟨Gc, fps j, vj, hv, q2, ⟨fun i => if i = i0 then fps j else [], fun i s d q => ?_, fun i => ?_, fun i k a m1 m2 => ?_, fun i a m => ?_, by simp [argS_len, r.len], w.sub, fun a o q => ?_, fun a o q => ?_⟩, ?_⟩
  · obtain ⟨q3, q4⟩ := argS_get q
    rcases q4 with ⟨rfl, rfl⟩ | ⟨hne, rfl⟩
    · rw [hd] at q3; cases q3
      simp only [if_true]
      exact ⟨vj, by rw [List.getElem?_map, hv]; rfl, q2⟩
    · have hi : i < vs.length := by rw [← r.len]; exact (List.getElem?_eq_some_iff.mp q3).1
      have e : vs[i]? = some vs[i] := by simp [hi]
      simp only [hne, if_false]
      exact ⟨vs[i], by rw [List.getElem?_map, e]; rfl, r.rp i d _ hne q3 e, rfl⟩
  · show (if i = i0 then fps j else []).Nodup
    split
    · exact w.nd j
    · exact List.nodup_nil
  · have m1 : a ∈ (if i = i0 then fps j else []) := m1
    have m2 : a ∈ (if k = i0 then fps j else []) := m2
    split at m1
    · split at m2
      · omega
      · cases m2
    · cases m1
  · have m : a ∈ (if i = i0 then fps j else []) := m
    split at m
    · obtain ⟨q3, _, q4⟩ := w.out j a m
      exact ⟨q3, gin m, q4⟩
    · cases m
  · by_cases m : a ∈ fps j
    · rw [gin m] at q; cases q
    · rw [gout m] at q
      unfold gP at q
      split at q
      · cases q
      · exact q
  · by_cases m : a ∈ fps j
    · exact gin m
    · rw [gout m]; unfold gP; rw [q]; rfl
  · rintro x y d' H' F' e ⟨gps, w'⟩
    have kp : ∀ a o, a ∉ fps j → H a = some o → H' a = some o := fun a o m q => by
      cases q3 : F a with
      | none => exact w'.gsub a o (gsome m q3 q)
      | some u =>
        have := w.sub a u q3
        rw [q] at this; cases this
        exact w'.sub a o (e a o q3)
    have other : ∀ i, i ≠ j → ∀ a, a ∈ fps i → a ∉ fps j := fun i hi a m m2 => hi (w.dis i j a m m2)
    have gl : ∀ i, i ≠ j → ∀ a, a ∈ fps i → ∃ o, Gc a = some o ∧ H a = some o := fun i hi a m => by
      obtain ⟨q3, _, o, q4⟩ := w.out i a m
      exact ⟨o, gsome (other i hi a m) q3 q4, q4⟩
    have gg : ∀ a o, G a = some o → Gc a = some o := fun a o q => by
      refine gsome (fun m => ?_) ?_ (w.gsub a o q)
      · have := (w.out j a m).2.1; rw [q] at this; cases this
      · cases q3 : F a with
        | none => rfl
        | some u => have := w.fg a u q3; rw [q] at this; cases this
    have hj : j < ρ.length := (List.getElem?_eq_some_iff.mp h0).1
    refine ⟨?_, kp⟩
    refine ⟨shiftF (gps 0) (fun i => if i = j then gps 1 else fps i), fun i s d q => ?_, fun i => ?_, fun i k a m1 m2 => ?_, fun i a m => ?_, by simp [w.len], w'.sub, fun a o q => w'.gsub a o (gg a o q), fun a o q => ?_⟩
    · cases i with
      | zero => exact w'.slot 0 s d (by simpa using q)
      | succ i =>
        have q : (ρ.set j (some (sh, d')))[i]? = some (some (s, d)) := by simpa using q
        by_cases hi : i = j
        · subst hi
          rw [List.getElem?_set_self hj] at q; cases q
          obtain ⟨v, q3, q4⟩ := w'.slot 1 sh d' rfl
          refine ⟨vj, by simpa using hσ, ?_⟩
          simp [hv] at q3; subst q3
          show Ow K H' F' sh d' vj (if i = i then gps 1 else fps i)
          rw [if_pos rfl]; exact q4
        · rw [List.getElem?_set_ne (Ne.symm hi)] at q
          obtain ⟨v, q3, q4⟩ := w.slot i s d q
          refine ⟨v, by simpa using q3, ?_⟩
          show Ow K H' F' s d v (if i = j then gps 1 else fps i)
          rw [if_neg hi]
          exact q4.mono e fun a m o z => kp a o (other i hi a m) z
    · cases i with
      | zero => exact w'.nd 0
      | succ i =>
        show (if i = j then gps 1 else fps i).Nodup
        split
        · exact w'.nd 1
        · exact w.nd i
    · have cl : ∀ i b, i ≠ j → b ∈ fps i → ∀ k, b ∈ gps k → False := fun i b hi m k m2 => by
        obtain ⟨o, q3, _⟩ := gl i hi b m
        have := (w'.out k b m2).2.1; rw [q3] at this; cases this
      cases i with
      | zero =>
        cases k with
        | zero => rfl
        | succ k =>
          have m2 : a ∈ (if k = j then gps 1 else fps k) := m2
          split at m2
          · have := w'.dis _ _ a m1 m2; omega
          · exact (cl k a ‹_› m2 0 m1).elim
      | succ i =>
        have m1 : a ∈ (if i = j then gps 1 else fps i) := m1
        cases k with
        | zero =>
          split at m1
          · have := w'.dis _ _ a m1 m2; omega
          · exact (cl i a ‹_› m1 0 m2).elim
        | succ k =>
          have m2 : a ∈ (if k = j then gps 1 else fps k) := m2
          split at m1
          · split at m2
            · omega
            · exact (cl k a ‹_› m2 1 m1).elim
          · split at m2
            · exact (cl i a ‹_› m1 1 m2).elim
            · exact congrArg _ (w.dis i k a m1 m2)
    · have mine : ∀ k, a ∈ gps k → F' a = none ∧ G a = none ∧ ∃ o, H' a = some o := fun k m => by
        obtain ⟨q3, q4, q5⟩ := w'.out k a m
        refine ⟨q3, ?_, q5⟩
        cases q6 : G a with
        | none => rfl
        | some o => rw [gg a o q6] at q4; cases q4
      cases i with
      | zero => exact mine 0 m
      | succ i =>
        have m : a ∈ (if i = j then gps 1 else fps i) := m
        split at m
        · exact mine 1 m
        · rename_i hi
          obtain ⟨_, q4, _⟩ := w.out i a m
          obtain ⟨o, q5, q6⟩ := gl i hi a m
          refine ⟨?_, q4, o, kp a o (other i hi a m) q6⟩
          cases q7 : F' a with
          | none => rfl
          | some u => have := w'.fg a u q7; rw [q5] at this; cases this
    · cases q4 : G a with
      | none => rfl
      | some u => have := w'.fg a o q; rw [gg a u q4] at this; cases this
end

/-! ### a def by its body -/
/-- what the body's end hands back -/
def endP (fl : Option Fl) : Option D := match fl with
  | some (.rt r _) => some r
  | some (.nx _) => some .non
  | _ => none
def endIO (i0 : Nat) (sh : Sh) (fl : Option Fl) : Option (D × D) := match fl with
  | some (.rt r ρ) => (match ρ[i0]? with
    | some (some (s, d)) => if Sh.eqb s sh then some (r, d) else none
    | _ => none)
  | some (.nx ρ) => (match ρ[i0]? with
    | some (some (s, d)) => if Sh.eqb s sh then some (.non, d) else none
    | _ => none)
  | _ => none
theorem Ow.non {K : PySem.W.Frag} {H F : Hp} : ∀ {s : Sh}, Ow K H F s .non .non []
  | .z => ⟨by simp only [Rp], rfl⟩
  | .seq _ => ⟨by simp only [Rp], rfl⟩
  | .obj _ => ⟨by simp only [Rp], rfl⟩
theorem Rel.addNon {K : PySem.W.Frag} {G H F : Hp} {ρ : Sto} {σ : L2.St} {s : Sh} (R : Rel K G ρ σ H F) : Rel K G (some (s, .non) :: ρ) (some .non :: σ) H F := by
  obtain ⟨fps, w⟩ := R
  refine ⟨shiftF [] fps, fun i s' d' q => ?_, fun i => ?_, fun i j a m1 m2 => ?_, fun i a m => ?_, by simp [w.len], w.sub, w.gsub, w.fg⟩
  · cases i with
    | zero => simp at q; obtain ⟨rfl, rfl⟩ := q; exact ⟨.non, rfl, Ow.non⟩
    | succ i => exact w.slot i s' d' (by simpa using q)
  · cases i with
    | zero => exact List.nodup_nil
    | succ i => exact w.nd i
  · cases i with
    | zero => cases m1
    | succ i =>
      cases j with
      | zero => cases m2
      | succ j => exact congrArg _ (w.dis i j a m1 m2)
  · cases i with
    | zero => cases m
    | succ i => exact w.out i a m
theorem Rel.more {K : PySem.W.Frag} {G H F : Hp} {ρ : Sto} {σ : L2.St} (R : Rel K G ρ σ H F) (n : Nat) : Rel K G (ρ ++ List.replicate n none) (σ ++ List.replicate n none) H F := by
  obtain ⟨fps, w⟩ := R
  have hl := w.len
  refine ⟨fps, fun i s d q => ?_, w.nd, w.dis, w.out, by simp [hl], w.sub, w.gsub, w.fg⟩
  by_cases hi : i < ρ.length
  · rw [List.getElem?_append_left hi] at q
    rw [List.getElem?_append_left (by omega)]
    exact w.slot i s d q
  · rw [List.getElem?_append_right (by omega), List.getElem?_replicate] at q
    split at q <;> simp at q
section
variable {P : Program} {w : World} {K : PySem.W.Frag} {mg : Str → Option Value} {base : Heap}
/-- the context of a def's body -/
abbrev BCx (P : Program) (w : World) (K : PySem.W.Frag) (mg : Str → Option Value) (base : Heap) (N : List Str) (qual : Str) (st : Stmt) (f : Addr) (cdv : Value) (A : Around) (outer : List Env) (s : Shared) (H : Hp) (E : XK) : Cx :=
  (cxOf CX0 P w K mg base N qual (defScope st) f cdv A outer s H E).nox
theorem fn_pure {x qual : Str} {st : Stmt} {f : Addr} {fd : FuncData} {N ps : List Str} {k : Nat} {rs : Sh} {fb : Sto → Option Fl} {m : List D → Option D} (Fn : Fun K x qual st f fd) (S : FnScope N ps (defScope st))
    (hb : ∀ (cdv : Value) (A : Around) (outer : List Env) (s : Shared) (H : Hp) (E : XK), Room k (A.deeper (envOfC qual (defScope st) s.heap.objs.size f cdv)) → SSV (BCx P w K mg base N qual st f cdv A outer s H E) rs [] (defBody st) fb)
    (hm : ∀ ds r, ds.length = ps.length → m ds = some r → endP (fb (argZ ds ++ List.replicate (N.length - ps.length) none)) = some r) :
    FnOk P w K mg base CX0 (k + 1) f fd ps (spP K ps.length rs m) := by
  have hlen : ∀ vs H Q E, spP K ps.length rs m vs H Q E → vs.length = ps.length := fun vs H Q E ⟨ds, F, G, r, h1, h2, R, _⟩ => by
    have := R.len; simp [argZ] at this; omega
  refine Fn.ok S hlen fun cdv A outer s H vs Q E hr h => ⟨_, hb cdv A outer s H E hr, ?_⟩
  have hv := hlen _ _ _ _ h
  obtain ⟨ds, F, G, r, h1, h2, R, kq⟩ := h
  have e := hm ds r h1 h2
  have R0 : Rel K G (argZ ds ++ List.replicate (N.length - ps.length) none) (L2.start N vs) H F := by
    unfold L2.start
    rw [hv]
    exact R.more _
  cases q : fb (argZ ds ++ List.replicate (N.length - ps.length) none) with
  | none => rw [q] at e; cases e
  | some fl =>
    rw [q] at e
    refine ⟨G, _, F, fl, q, R0, ?_⟩
    cases fl with
    | nx ρ' => cases e; exact fun σ' H' F' f1 _ R1 => kq .non H' F' f1 R1.addNon.sel1
    | rt d ρ' => cases e; exact fun v σ' H' F' f1 _ R1 => kq v H' F' f1 R1.sel1
    | bk ρ' => cases e
    | ct ρ' => cases e
theorem fn_io {x qual : Str} {st : Stmt} {f : Addr} {fd : FuncData} {N ps : List Str} {k i0 : Nat} {sh rs : Sh} {fb : Sto → Option Fl} {m : List D → Option (D × D)} (Fn : Fun K x qual st f fd) (S : FnScope N ps (defScope st)) (hi0 : i0 < ps.length)
    (hb : ∀ (cdv : Value) (A : Around) (outer : List Env) (s : Shared) (H : Hp) (E : XK), Room k (A.deeper (envOfC qual (defScope st) s.heap.objs.size f cdv)) → SSV (BCx P w K mg base N qual st f cdv A outer s H E) rs [i0] (defBody st) fb)
    (hm : ∀ ds r, ds.length = ps.length → m ds = some r → endIO i0 sh (fb (argS i0 sh ds ++ List.replicate (N.length - ps.length) none)) = some r) :
    FnOk P w K mg base CX0 (k + 1) f fd ps (spIO K ps.length i0 sh rs m) := by
  have hlen : ∀ vs H Q E, spIO K ps.length i0 sh rs m vs H Q E → vs.length = ps.length := fun vs H Q E ⟨ds, F, G, r, d', h1, h2, R, _⟩ => by
    have := R.len; simp [argS_len] at this; omega
  refine Fn.ok S hlen fun cdv A outer s H vs Q E hr h => ⟨_, hb cdv A outer s H E hr, ?_⟩
  have hv := hlen _ _ _ _ h
  obtain ⟨ds, F, G, r, d', h1, h2, R, kq⟩ := h
  have e := hm ds (r, d') h1 h2
  have R0 : Rel K G (argS i0 sh ds ++ List.replicate (N.length - ps.length) none) (L2.start N vs) H F := by
    unfold L2.start
    rw [hv]
    exact R.more _
  have e0 : (L2.start N vs)[i0]? = some (vs[i0]?) := by
    unfold L2.start
    rw [List.getElem?_append_left (by simp; omega), List.getElem?_map, List.getElem?_eq_getElem (by omega)]
    rfl
  cases q : fb (argS i0 sh ds ++ List.replicate (N.length - ps.length) none) with
  | none => rw [q] at e; cases e
  | some fl =>
    rw [q] at e
    refine ⟨G, _, F, fl, q, R0, ?_⟩
    cases fl with
    | nx ρ' =>
      simp only [endIO] at e
      split at e
      · rename_i s0 d0 q1
        split at e
        · rename_i hs
          cases e
          have hs := Sh.eq_of hs; subst hs
          intro σ' H' F' f1 p1 R1
          have := R1.addNon (s := rs) |>.sel2 q1
          rw [p1 i0 (by simp), e0] at this
          exact kq .non H' F' f1 this
        · cases e
      · cases e
    | rt d ρ' =>
      simp only [endIO] at e
      split at e
      · rename_i s0 d0 q1
        split at e
        · rename_i hs
          cases e
          have hs := Sh.eq_of hs; subst hs
          intro v σ' H' F' f1 p1 R1
          have := R1.sel2 q1
          rw [p1 i0 (by simp), e0] at this
          exact kq v H' F' f1 this
        · cases e
      · cases e
    | bk ρ' => cases e
    | ct ρ' => cases e
end

/-! ### calls -/
section
variable {X : Cx} {k : Nat} {f : Addr} {fd : FuncData} {ps : List Str} {n : Nat} {rs : Sh} {m : List D → Option D} {mi : List D → Option (D × D)} {x : Str} {p pos : Pos} {e : Expr} {es : List Expr}
def vCall (m : List D → Option D) (fs : Sto → Option (List D)) : Sto → Option D := fun ρ => (fs ρ).bind fun ds => if ds.length = n then m ds else none
theorem fp_call {fs : Sto → Option (List D)} (Fn : FnOk X.prog X.w X.K X.mg X.base CX0 k f fd ps (spP X.K n rs m)) (hr : Room k X.A) (hg : Gl X x) (hm : X.mg x = some (.ref f)) (hk : PySem.W.keepIn X.K (.ref f) = true) (hb : Binds X.K fd ps [])
    (ha : PAV X (e :: es) fs) (hdb : (x == ("__debug__" : Str)) = false := by decide) (he : starEach (e :: es) X.env = (false, eval e X.env) :: starEach es X.env := by rfl) (hpl : (backTo pos (starEach es X.env)).any (·.1) = false := by rfl) :
    FP X rs (.Call (.Name x p) (e :: es) [] pos) (vCall (n := n) m fs) := by
  refine pe_imp (pe_call Fn hr hg hm hk hb .nil pass0 ha hdb he hpl) fun σ H Q ⟨G, ρ, F, d, q, R, kq⟩ => ?_
  unfold vCall at q
  obtain ⟨ds, q1, q⟩ := bind_some' q
  split at q
  · rename_i hl
    refine ⟨G, ρ, F, ds, q1, R, fun vs H1 F1 f1 h1 R1 r1 => ?_⟩
    refine ⟨ds, F1, gP H1 F1, d, hl, q, by rw [List.append_nil]; exact R1.argsZ r1, fun v H2 F2 f2 R2 => ?_⟩
    obtain ⟨R3, h2⟩ := R1.afterP f2 R2
    exact kq v H2 F2 (f1.trans f2) (h1.trans h2) R3
  · cases q
def eCall (n : Nat) (m : List D → Option D) (fs : Sto → Option (List D × Sto)) : Sto → Option (D × Sto) := fun ρ => (fs ρ).bind fun ds => if ds.1.length = n then (m ds.1).map fun d => (d, ds.2) else none
theorem ef_call {fs : Sto → Option (List D × Sto)} (Fn : FnOk X.prog X.w X.K X.mg X.base CX0 k f fd ps (spP X.K n rs m)) (hr : Room k X.A) (hg : Gl X x) (hm : X.mg x = some (.ref f)) (hk : PySem.W.keepIn X.K (.ref f) = true) (hb : Binds X.K fd ps [])
    (ha : EAV X (e :: es) fs) (hdb : (x == ("__debug__" : Str)) = false := by decide) (he : starEach (e :: es) X.env = (false, eval e X.env) :: starEach es X.env := by rfl) (hpl : (backTo pos (starEach es X.env)).any (·.1) = false := by rfl) :
    EF X rs (.Call (.Name x p) (e :: es) [] pos) (eCall n m fs) := by
  refine pe_imp (pe_call Fn hr hg hm hk hb .nil pass0 ha hdb he hpl) fun σ H Q ⟨G, ρ, F, d, ρ', q, R, kq⟩ => ?_
  unfold eCall at q
  obtain ⟨⟨ds, ρ1⟩, q1, q⟩ := bind_some' q
  split at q
  · rename_i hl
    obtain ⟨d1, q2, q3⟩ := map_some' q
    cases q3
    refine ⟨G, ρ, F, ds, _, q1, R, fun vs H1 F1 f1 R1 r1 => ?_⟩
    refine ⟨ds, F1, gP H1 F1, _, hl, q2, by rw [List.append_nil]; exact R1.argsZ r1, fun v H2 F2 f2 R2 => ?_⟩
    obtain ⟨R3, h2⟩ := R1.afterP f2 R2
    exact kq v H2 F2 (f1.trans f2) R3
  · cases q
/-- arguments of which the i0-th is the name of slot j -/
def tQA (K : PySem.W.Frag) (i0 j : Nat) (f : Sto → Option (List D)) : TA := fun σ H Q => ∃ G ρ F ds, f ρ = some ds ∧ Rel K G ρ σ H F ∧
  ∀ vs H' F', Same F F' → Same H H' → Rel K G ρ σ H' F' → ArgOk K F' i0 j σ ds vs → Q vs H'
abbrev QAV (X : Cx) (i0 j : Nat) (es : List Expr) (f : Sto → Option (List D)) : Prop := PA X es (tQA X.K i0 j f)
theorem qa_here {j : Nat} {y : Str} {py : Pos} {fs : Sto → Option (List D)} (hN : X.N[j]? = some y) (hv : Vis X.env.scope y) (ha : PAV X es fs) (hd : (y == ("__debug__" : Str)) = false := by decide) (hcd : (y == ("__classdict__" : Str)) = false := by decide)
    (hs : starEach (.Name y py :: es) X.env = (false, eval (.Name y py) X.env) :: starEach es X.env := by rfl) : QAV X 0 j (.Name y py :: es) (aCons (vVar j) fs) := by
  refine pa_imp (pa_cons (pe_var hN hv hd hcd) ha hs) fun σ H Q ⟨G, ρ, F, ds, q, R, k⟩ => ?_
  unfold aCons at q
  obtain ⟨d, q1, q⟩ := bind_some' q
  obtain ⟨xs, q2, rfl⟩ := map_some' q
  unfold vVar at q1
  split at q1
  · rename_i s d0 q3
    cases q1
    obtain ⟨v, fp, q4, q5⟩ := R.get q3
    refine ⟨v, q4, G, ρ, F, xs, q2, R, fun vs H1 F1 f1 h1 R1 r1 => k _ H1 F1 f1 h1 R1 ⟨by simp [RpL.length r1], fun i x u hi e1 e2 => ?_, v, rfl, q4⟩⟩
    cases i with
    | zero => exact (hi rfl).elim
    | succ i => exact RpL.get2 r1 i x u (by simpa using e1) (by simpa using e2)
  · cases q1
theorem qa_next {i0 j : Nat} {fa : Sto → Option D} {fs : Sto → Option (List D)} (ha : PV X .z e fa) (hr : QAV X i0 j es fs) (hs : starEach (e :: es) X.env = (false, eval e X.env) :: starEach es X.env := by rfl) : QAV X (i0 + 1) j (e :: es) (aCons fa fs) := by
  refine pa_imp (pa_cons ha hr hs) fun σ H Q ⟨G, ρ, F, ds, q, R, k⟩ => ?_
  unfold aCons at q
  obtain ⟨d, q1, q⟩ := bind_some' q
  obtain ⟨xs, q2, rfl⟩ := map_some' q
  refine ⟨G, ρ, F, d, q1, R, fun v H1 F1 f1 h1 R1 ⟨fp, r1⟩ => ?_⟩
  refine ⟨G, ρ, F1, xs, q2, R1, fun vs H2 F2 f2 h2 R2 r2 => k _ H2 F2 (f1.trans f2) (h1.trans h2) R2 ⟨by simp [r2.len], fun i x u hi e1 e2 => ?_, ?_⟩⟩
  · cases i with
    | zero => simp at e1 e2; subst e1; subst e2; exact Rp.mono f2 _ _ r1.1
    | succ i => exact r2.rp i x u (by omega) (by simpa using e1) (by simpa using e2)
  · obtain ⟨u, e1, e2⟩ := r2.io
    exact ⟨u, by simpa using e1, e2⟩
/-- a call that changes what slot j owns -/
def eCallIO (n i0 j : Nat) (sh : Sh) (m : List D → Option (D × D)) (fs : Sto → Option (List D)) : Sto → Option (D × Sto) := fun ρ => match ρ[j]? with
  | some (some (s, d0)) => if Sh.eqb s sh then (fs ρ).bind fun ds => match ds[i0]? with
    | some d => if ds.length = n then (m ds).map fun r => (r.1, ρ.set j (some (sh, r.2))) else none
    | none => none else none
  | _ => none
theorem qa_data {i0 j : Nat} {es : List Expr} {fs : Sto → Option (List D)} : True := trivial
theorem ef_callIO {i0 j : Nat} {sh : Sh} {fs : Sto → Option (List D)} (Fn : FnOk X.prog X.w X.K X.mg X.base CX0 k f fd ps (spIO X.K n i0 sh rs mi)) (hr : Room k X.A) (hg : Gl X x) (hm : X.mg x = some (.ref f)) (hk : PySem.W.keepIn X.K (.ref f) = true) (hb : Binds X.K fd ps [])
    (ha : QAV X i0 j (e :: es) fs) (hfs : ∀ ρ ds s d, fs ρ = some ds → ρ[j]? = some (some (s, d)) → ds[i0]? = some d) (hdb : (x == ("__debug__" : Str)) = false := by decide) (he : starEach (e :: es) X.env = (false, eval e X.env) :: starEach es X.env := by rfl) (hpl : (backTo pos (starEach es X.env)).any (·.1) = false := by rfl) :
    EF X rs (.Call (.Name x p) (e :: es) [] pos) (eCallIO n i0 j sh mi fs) := by
  refine pe_imp (pe_call Fn hr hg hm hk hb .nil pass0 ha hdb he hpl) fun σ H Q ⟨G, ρ, F, d, ρ', q, R, kq⟩ => ?_
  unfold eCallIO at q
  split at q
  · rename_i s d0 hj
    split at q
    · rename_i hs
      have hs := Sh.eq_of hs
      subst hs
      obtain ⟨ds, q1, q⟩ := bind_some' q
      have hd := hfs ρ ds s d0 q1 hj
      rw [hd] at q
      simp only at q
      split at q
      · rename_i hl
        obtain ⟨⟨r, d'⟩, q2, q3⟩ := map_some' q
        cases q3
        refine ⟨G, ρ, F, ds, q1, R, fun vs H1 F1 f1 h1 R1 r1 => ?_⟩
        obtain ⟨Gc, _, _, _, _, R2, back⟩ := R1.argsIO r1 hj hd
        refine ⟨ds, F1, Gc, _, _, hl, q2, by rw [List.append_nil]; exact R2, fun v H2 F2 f2 R3 => ?_⟩
        rw [List.append_nil] at R3
        exact kq v H2 F2 (f1.trans f2) (back _ _ _ H2 F2 f2 R3).1
      · cases q
    · cases q
  · cases q
end
end VL

set_option Elab.async false
set_option linter.all false
set_option maxRecDepth 100000
/-! VLh: instances, built-ins, operators on data. -/
noncomputable section
namespace VL
open PySem PySem.Spec PyProof.Rows L2

/-! ### instances -/
def fldIx (ns : List Str) (ds : List D) (f : Str) : Option D := (ns.zip ds).lookup f
section
variable {K : PySem.W.Frag} {G H H' F F' : Hp} {ρ : Sto} {σ : L2.St}
theorem RpL.lookup {f : Str} : ∀ {ns : List Str} {ds : List D} {vs : List V} {d : D}, RpL K F ds vs → (ns.zip ds).lookup f = some d → ∃ v, (ns.zip vs).lookup f = some v ∧ Rp K F d v
  | [], ds, vs, d, _, e => by simp at e
  | n :: ns, [], vs, d, _, e => by simp at e
  | n :: ns, x :: ds, vs, d, h, e => by
    obtain ⟨v, r, rfl, h1, h2⟩ := RpL.cons_inv h
    simp only [List.zip_cons_cons, List.lookup_cons] at e ⊢
    cases hb : f == n with
    | true => rw [hb] at e; cases e; exact ⟨v, rfl, h1⟩
    | false => rw [hb] at e; exact RpL.lookup h2 e
theorem zip_none {f : Str} {β : Type} : ∀ {ns : List Str} {vs : List β}, f ∉ ns → (ns.zip vs).lookup f = none
  | [], _, _ => by simp
  | _ :: _, [], _ => by simp
  | n :: ns, v :: vs, h => by
    simp only [List.zip_cons_cons, List.lookup_cons]
    have : (f == n) = false := by simp; exact fun e => h (by simp [e])
    rw [this]
    exact zip_none fun m => h (List.mem_cons_of_mem _ m)
theorem OwF.lookup {R : Str → D → V → List Addr → Prop} {f : Str} : ∀ {ns : List Str} {ds : List D} {vs : List V} {fp : List Addr} {d : D}, OwF R ns ds vs fp → (ns.zip ds).lookup f = some d → ∃ v g, (ns.zip vs).lookup f = some v ∧ R f d v g
  | [], ds, vs, fp, d, _, e => by simp at e
  | n :: ns, ds, vs, fp, d, h, e => by
    obtain ⟨x, dr, v, r, f1, f2, rfl, rfl, h1, h2, rfl⟩ := h
    simp only [List.zip_cons_cons, List.lookup_cons] at e ⊢
    cases hb : f == n with
    | true =>
      rw [hb] at e; cases e
      have : f = n := by simpa using hb
      subst this
      exact ⟨v, f1, rfl, h1⟩
    | false => rw [hb] at e; exact OwF.lookup h2 e
theorem OwF.snoc {R : Str → D → V → List Addr → Prop} {f : Str} {d : D} {v : V} {g : List Addr} (r : R f d v g) : ∀ {ns : List Str} {ds : List D} {vs : List V} {fp : List Addr}, OwF R ns ds vs fp → OwF R (ns ++ [f]) (ds ++ [d]) (vs ++ [v]) (fp ++ g)
  | [], ds, vs, fp, h => by
    obtain ⟨rfl, rfl, rfl⟩ := h
    exact ⟨d, [], v, [], g, [], rfl, rfl, r, ⟨rfl, rfl, rfl⟩, by simp⟩
  | n :: ns, ds, vs, fp, h => by
    obtain ⟨x, dr, u, t, f1, f2, rfl, rfl, h1, h2, rfl⟩ := h
    exact ⟨x, dr ++ [d], u, t ++ [v], f1, f2 ++ g, rfl, rfl, h1, OwF.snoc r h2, by simp⟩
theorem putF_new {f : Str} {v : V} : ∀ {fs : List (Str × V)}, f ∉ fs.map (·.1) → putF f v fs = fs ++ [(f, v)]
  | [], _ => rfl
  | (n, u) :: fs, h => by
    have hn : n ≠ f := fun e => h (by simp [e])
    unfold putF
    rw [if_neg hn, putF_new fun m => h (by simp at m ⊢; exact .inr m)]
    rfl
end
/-- what is known of a class whose instances' field f is read -/
structure FldC (K : PySem.W.Frag) (C : Addr) (f : Str) : Prop where
  cl : Cls K C
  na : NoAttr K C f
def vFld (C : Addr) (f : Str) (fo : Sto → Option D) : Sto → Option D := fun ρ => match fo ρ with
  | some (.obj C' ns ds) => if C' = C then fldIx ns ds f else none
  | _ => none
section
variable {X : Cx} {e o : Expr} {C : Addr} {f : Str} {pos pos' : Pos} {fo : Sto → Option D} {s : Sh}
theorem pv_fld (c : FldC X.K C f) (he : PV X .z e fo) (hb : attributeBase e f X.env (eval e X.env) = eval e X.env := by rfl) : PV X .z (.Attribute e f pos) (vFld C f fo) := by
  refine pe_imp (pe_fld he hb) fun σ H Q ⟨G, ρ, F, d, q, R, k⟩ => ?_
  unfold vFld at q
  split at q
  · rename_i C' ns ds q1
    split at q
    · rename_i hC
      subst hC
      refine ⟨G, ρ, F, _, q1, R, fun v H1 F1 f1 h1 R1 ⟨fp, r1⟩ => ?_⟩
      have r2 := r1.1
      simp only [Rp] at r2
      obtain ⟨a, dx, vs, rfl, ha, hl, hr⟩ := r2
      obtain ⟨u, e1, e2⟩ := RpL.lookup hr q
      exact ⟨a, _, dx, _, u, rfl, R1.sub _ _ ha, c.cl, c.na, e1, k u H1 F1 f1 h1 R1 ⟨[], e2, rfl⟩⟩
    · cases q
  · cases q
theorem pv_fldO {g : Str → Sh} (c : FldC X.K C f) (he : PV X (.obj g) e fo) (hb : attributeBase e f X.env (eval e X.env) = eval e X.env := by rfl) : PV X (g f) (.Attribute e f pos) (vFld C f fo) := by
  refine pe_imp (pe_fld he hb) fun σ H Q ⟨G, ρ, F, d, q, R, k⟩ => ?_
  unfold vFld at q
  split at q
  · rename_i C' ns ds q1
    split at q
    · rename_i hC
      subst hC
      refine ⟨G, ρ, F, _, q1, R, fun v H1 F1 f1 h1 R1 ⟨fp, r1⟩ => ?_⟩
      obtain ⟨a, dx, vs, fp', rfl, ha, ho, _⟩ := r1
      obtain ⟨u, gf, e1, e2⟩ := ho.lookup q
      exact ⟨a, _, dx, _, u, rfl, ha, c.cl, c.na, e1, k u H1 F1 f1 h1 R1 ⟨gf, e2⟩⟩
    · cases q
  · cases q
def Sh.zb : Sh → Bool
  | .z => true
  | _ => false
/-- self.f = e, a new field of an owned instance in slot i -/
def sFld (i : Nat) (C : Addr) (f : Str) (fe : Sto → Option (D × Sto)) : Sto → Option Fl := fun ρ => (fe ρ).bind fun x => match x.2[i]? with
  | some (some (.obj g, .obj C' ns ds)) => if C' = C ∧ f ∉ ns ∧ ns.length < 50 ∧ (g f).zb = true then some (.nx (x.2.set i (some (.obj g, .obj C (ns ++ [f]) (ds ++ [x.1]))))) else none
  | _ => none
theorem sv_fldN {i : Nat} {x : Str} {px : Pos} {rs : Sh} {io : List Nat} {fe : Sto → Option (D × Sto)} (hN : X.N[i]? = some x) (hv : Vis X.env.scope x) (c : FldC X.K C f) (he : EV X e fe) (hs : swapsWith e (some (.Attribute (.Name x px) f pos')) pos.line X.env = pure false := by rfl)
    (hd : (x == ("__debug__" : Str)) = false := by decide) (hcd : (x == ("__classdict__" : Str)) = false := by decide) :
    SV X rs io (.Assign [.Attribute (.Name x px) f pos'] e pos) (sFld i C f fe) := by
  refine ps_imp (ps_fld (pe_var hN hv hd hcd) he hs) fun Z σ H ⟨G, ρ, F, fl, q, R, k⟩ => ?_
  unfold sFld at q
  obtain ⟨⟨d, ρ1⟩, q1, q⟩ := bind_some' q
  split at q
  · rename_i g C' ns ds q2
    split at q
    · rename_i hh
      obtain ⟨rfl, hf, hn, hgz⟩ := hh
      cases q
      have hgf : g f = .z := by
        cases hq : g f <;> rw [hq] at hgz <;> first | rfl | cases hgz
      refine ⟨G, ρ, F, d, ρ1, q1, R, fun v H1 F1 f1 R1 r1 => ?_⟩
      obtain ⟨u, q3, R2⟩ := R1.move q2
      obtain ⟨fps, w⟩ := R2
      obtain ⟨u', p1, p2⟩ := w.slot 0 _ _ rfl
      simp at p1; subst p1
      obtain ⟨a, dx, vs, fp', rfl, ha, ho, hfp⟩ := p2
      have hl := ho.length
      have hz : (ns.zip vs).map (·.1) = ns := by rw [List.map_fst_zip]; omega
      refine ⟨.ref a, q3, a, _, dx, _, rfl, ha, c.cl, c.na, ?_, ?_⟩
      · rw [List.length_zip]; omega
      · have hput : putF f v (ns.zip vs) = (ns ++ [f]).zip (vs ++ [v]) := by
          rw [putF_new (by rw [hz]; exact hf), List.zip_append hl.2]; rfl
        rw [hput]
        have n0 := w.nd 0
        rw [hfp] at n0
        have a0 : a ∈ fps 0 := by rw [hfp]; exact List.mem_cons_self
        have R3 : Rel X.K G (some (.obj g, .obj C' (ns ++ [f]) (ds ++ [d])) :: ρ1.set i none) (some (.ref a) :: σ) (L2.upd H1 a (.ins C' dx ((ns ++ [f]).zip (vs ++ [v])))) F1 := by
          refine w.front (xs := [_]) (ys := [_]) (xs' := [_]) (ys' := [_]) rfl rfl (fun _ => a :: fp') (fun j s' d' q => ?_) (fun j _ => n0) (fun j k b hj hk _ _ => by simp at hj hk; omega) (fun j b hj m => ⟨0, by simp, by rw [hfp]; exact m⟩) (fun b o hb e => ?_) (fun j b hj m => ?_)
          · cases j with
            | zero =>
              simp at q; obtain ⟨rfl, rfl⟩ := q
              refine ⟨_, rfl, a, dx, vs ++ [v], fp', rfl, upd_same, ?_, rfl⟩
              have := OwF.snoc (R := fun n => Ow X.K (L2.upd H1 a (.ins C' dx ((ns ++ [f]).zip (vs ++ [v])))) F1 (g n)) (f := f) (d := d) (v := v) (g := []) (by show Ow _ _ _ (g f) d v []; rw [hgf]; exact ⟨r1, rfl⟩)
                (OwF.mono ho fun n d v f m r => Ow.upd r fun z => (List.nodup_cons.mp n0).1 (m a z))
              simpa using this
            | succ j => simp at q
          · rw [upd_ne]
            · exact e
            · rintro rfl; exact hb 0 (by simp) a0
          · by_cases hb : b = a
            · subst hb; exact ⟨_, upd_same⟩
            · rw [upd_ne hb]
              exact (w.out 0 b (by rw [hfp]; exact m)).2.2
        have R4 := R3.store (i := i)
        rw [List.set_set] at R4
        have e0 : σ.set i (some (.ref a)) = σ := by
          obtain ⟨hi, he⟩ := List.getElem?_eq_some_iff.mp q3
          rw [← he]; exact List.set_getElem_self hi
        rw [e0] at R4
        exact k σ _ F1 f1 (Pin.refl _ _) R4
    · cases q
  · cases q

/-! ### instances made, methods -/
variable {k n : Nat} {fa : Addr} {fd : FuncData} {ps : List Str} {rs : Sh} {m : List D → Option D} {mi : List D → Option (D × D)} {x : Str} {p : Pos} {es : List Expr} {apos : Pos}
abbrev shI : Sh := .obj fun _ => .z
def dMake (n : Nat) (C : Addr) (mi : List D → Option (D × D)) (ds : List D) : Option D := if ds.length + 1 = n then (match mi (.obj C [] [] :: ds) with
  | some (.non, d) => some d
  | _ => none) else none
theorem Rel.make {K : PySem.W.Frag} {G H F : Hp} {ρ : Sto} {σ : L2.St} {ds : List D} {vs : List V} {x dx : Addr} {g : Str → Sh} (R : Rel K G ρ σ H F) (r : RpL K F ds vs) (hx : H x = none) (hdx : H dx = none) (ne : dx ≠ x) :
    ∃ Gc, Rel K Gc (argS 0 (.obj g) (.obj C [] [] :: ds)) ((V.ref x :: vs).map some) (L2.upd (L2.upd H dx (.own x)) x (.ins C dx [])) F ∧
      ∀ v d' H' F', Same F F' → Rel K Gc [some (.z, .non), some (.obj g, d')] [v, some (.ref x)] H' F' → Rel K G (some (.obj g, d') :: ρ) (some (.ref x) :: σ) H' F' ∧ Same H H' := by
  have hx1 : L2.upd H dx (.own x) x = none := by rw [upd_ne ne.symm]; exact hx
  have R1 : Rel K G ρ σ (L2.upd H dx (.own x)) F := R.grow (Same.upd hdx)
  have R2 : Rel K G (some (.obj g, .obj C [] []) :: ρ) (some (.ref x) :: σ) (L2.upd (L2.upd H dx (.own x)) x (.ins C dx [])) F := R1.addNew hx1 ⟨x, dx, [], [], rfl, upd_same, ⟨rfl, rfl, rfl⟩, rfl⟩
  have ok : ArgOk K F 0 0 (some (.ref x) :: σ) (.obj C [] [] :: ds) (.ref x :: vs) := ⟨by simp [RpL.length r], fun i d v hi e1 e2 => by
    cases i with
    | zero => exact (hi rfl).elim
    | succ i => exact RpL.get2 r i d v (by simpa using e1) (by simpa using e2), .ref x, rfl, rfl⟩
  obtain ⟨Gc, fpj, vj, ev, ow, R3, back⟩ := R2.argsIO ok rfl rfl
  simp at ev; subst ev
  obtain ⟨a, dy, us, fp', ea, _, ho, hfp⟩ := ow
  cases ea
  obtain ⟨_, _, rfl⟩ := ho
  refine ⟨Gc, R3, fun v d' H' F' f R4 => ?_⟩
  obtain ⟨R5, kp⟩ := back _ v d' H' F' f R4
  refine ⟨R5.drop, fun b o q => kp b o (by rw [hfp]; simp; exact ne_of_none q hx) ?_⟩
  rw [upd_ne (ne_of_none q hx), upd_ne (ne_of_none q hdx)]
  exact q
def vMake (n : Nat) (C : Addr) (mi : List D → Option (D × D)) (fs : Sto → Option (List D)) : Sto → Option D := fun ρ => (fs ρ).bind (dMake n C mi)
def eMake (n : Nat) (C : Addr) (mi : List D → Option (D × D)) (fs : Sto → Option (List D × Sto)) : Sto → Option (D × Sto) := fun ρ => (fs ρ).bind fun x => (dMake n C mi x.1).map fun d => (d, x.2)
theorem dMake_some {ds : List D} {d : D} (h : dMake n C mi ds = some d) : ds.length + 1 = n ∧ mi (.obj C [] [] :: ds) = some (.non, d) := by
  unfold dMake at h
  split at h
  · rename_i hn
    split at h
    · rename_i d' q; cases h; exact ⟨hn, q⟩
    · cases h
  · cases h
theorem Rel.isNon {K : PySem.W.Frag} {G H F : Hp} {ρ : Sto} {σ : L2.St} {v : V} (R : Rel K G (some (.z, .non) :: ρ) (some v :: σ) H F) : v = .non := by
  obtain ⟨fp, r⟩ := R.get0
  simpa only [Rp] using r.1
theorem fp_make {fs : Sto → Option (List D)} {g : Str → Sh} (M : Mk X.K C fa) (Fn : FnOk X.prog X.w X.K X.mg X.base CX0 k fa fd ps (spIO X.K n 0 (.obj g) .z mi)) (hr : Room (k + 1) X.A) (hg : Gl X x) (hm : X.mg x = some (.ref C)) (hb : Binds X.K fd ps [])
    (ha : PAV X (e :: es) fs) (hdb : (x == ("__debug__" : Str)) = false := by decide) (he : starEach (e :: es) X.env = (false, eval e X.env) :: starEach es X.env := by rfl) (hpl : (backTo pos (starEach es X.env)).any (·.1) = false := by rfl) :
    FP X (.obj g) (.Call (.Name x p) (e :: es) [] pos) (vMake n C mi fs) := by
  refine pe_imp (pe_make M Fn hr hg hm hb .nil pass0 ha hdb he hpl) fun σ H Q ⟨G, ρ, F, d, q, R, kq⟩ => ?_
  unfold vMake at q
  obtain ⟨ds, q1, q⟩ := bind_some' q
  obtain ⟨hn, q2⟩ := dMake_some q
  refine ⟨G, ρ, F, ds, q1, R, fun vs H1 F1 f1 h1 R1 r1 y dy hy hdy ne => ?_⟩
  obtain ⟨Gc, R2, back⟩ := R1.make (g := g) (C := C) r1 hy hdy ne
  refine ⟨.obj C [] [] :: ds, F1, Gc, .non, d, by simpa using hn, q2, by rw [List.append_nil]; exact R2, fun v H2 F2 f2 R3 => ⟨R3.isNon, ?_⟩⟩
  obtain ⟨R4, h2⟩ := back _ d H2 F2 f2 R3
  exact kq _ H2 F2 (f1.trans f2) (h1.trans h2) R4
theorem ef_make {fs : Sto → Option (List D × Sto)} {g : Str → Sh} (M : Mk X.K C fa) (Fn : FnOk X.prog X.w X.K X.mg X.base CX0 k fa fd ps (spIO X.K n 0 (.obj g) .z mi)) (hr : Room (k + 1) X.A) (hg : Gl X x) (hm : X.mg x = some (.ref C)) (hb : Binds X.K fd ps [])
    (ha : EAV X (e :: es) fs) (hdb : (x == ("__debug__" : Str)) = false := by decide) (he : starEach (e :: es) X.env = (false, eval e X.env) :: starEach es X.env := by rfl) (hpl : (backTo pos (starEach es X.env)).any (·.1) = false := by rfl) :
    EF X (.obj g) (.Call (.Name x p) (e :: es) [] pos) (eMake n C mi fs) := by
  refine pe_imp (pe_make M Fn hr hg hm hb .nil pass0 ha hdb he hpl) fun σ H Q ⟨G, ρ, F, d, ρ', q, R, kq⟩ => ?_
  unfold eMake at q
  obtain ⟨⟨ds, ρ1⟩, q1, q⟩ := bind_some' q
  obtain ⟨d1, q3, q4⟩ := map_some' q
  cases q4
  obtain ⟨hn, q2⟩ := dMake_some q3
  refine ⟨G, ρ, F, ds, _, q1, R, fun vs H1 F1 f1 R1 r1 y dy hy hdy ne => ?_⟩
  obtain ⟨Gc, R2, back⟩ := R1.make (g := g) (C := C) r1 hy hdy ne
  refine ⟨.obj C [] [] :: ds, F1, Gc, .non, _, by simpa using hn, q2, by rw [List.append_nil]; exact R2, fun v H2 F2 f2 R3 => ⟨R3.isNon, ?_⟩⟩
  obtain ⟨R4, h2⟩ := back _ _ H2 F2 f2 R3
  exact kq _ H2 F2 (f1.trans f2) R4
/-- o.m(..), o a frozen instance -/
def vMeth (n : Nat) (C : Addr) (mn : Str) (m : List D → Option D) (fo : Sto → Option D) (fs : Sto → Option (List D)) : Sto → Option D := fun ρ => match fo ρ with
  | some (.obj C' ns ds) => if C' = C ∧ mn ∉ ns then (fs ρ).bind fun xs => if xs.length + 1 = n then m (.obj C' ns ds :: xs) else none else none
  | _ => none
theorem fp_meth {mn : Str} {fs : Sto → Option (List D)} {pl : Sem Bool} (he : PV X .z o fo) (c : Cls X.K C) (hm : Meth X.K C mn fa) (Fn : FnOk X.prog X.w X.K X.mg X.base CX0 k fa fd ps (spP X.K n rs m)) (hr : Room k X.A) (hb : Binds X.K fd ps [])
    (ha : PAV X (e :: es) fs) (hst : starEach (e :: es) X.env = (false, eval e X.env) :: starEach es X.env := by rfl) (hpl : (backTo pos (starEach es X.env)).any (·.1) = false := by rfl)
    (ht : eval (.Call (.Attribute o mn apos) (e :: es) [] pos) X.env = (do
      let ov ← eval o X.env
      standAt apos.atName
      let (f, first) ← holding [ov] (getMethod ov mn pl)
      callWith pos f first (backTo pos (starEach (e :: es) X.env)) (backToKw pos (keywordEach [] X.env))) := by rfl) :
    FP X rs (.Call (.Attribute o mn apos) (e :: es) [] pos) (vMeth n C mn m fo fs) := by
  refine pe_imp (pe_meth he c hm Fn hr hb .nil pass0 ha hst hpl ht) fun σ H Q ⟨G, ρ, F, d, q, R, kq⟩ => ?_
  unfold vMeth at q
  split at q
  · rename_i C' ns ds q1
    split at q
    · rename_i hh
      obtain ⟨hC, hns⟩ := hh
      obtain ⟨xs, q2, q⟩ := bind_some' q
      split at q
      · rename_i hl
        subst hC
        refine ⟨G, ρ, F, _, q1, R, fun v H1 F1 f1 h1 R1 ⟨fp, r1⟩ => ?_⟩
        have r2 := r1.1
        have r3 := r2
        simp only [Rp] at r3
        obtain ⟨a, dx, vs, rfl, ha', hl', hr'⟩ := r3
        refine ⟨a, dx, _, rfl, R1.sub _ _ ha', zip_none hns, G, ρ, F1, xs, q2, R1, fun us H2 F2 f2 h2 R2 r4 => ?_⟩
        refine ⟨.obj C' ns ds :: xs, F2, gP H2 F2, d, by simpa using hl, q, ?_, fun w H3 F3 f3 R3 => ?_⟩
        · rw [List.append_nil]
          exact R2.argsZ (RpL.cons (Rp.mono f2 _ _ r2) r4)
        · obtain ⟨R4, h3⟩ := R2.afterP f3 R3
          exact kq w H3 F3 (f1.trans (f2.trans f3)) (h1.trans (h2.trans h3)) R4
      · cases q
    · cases q
  · cases q
theorem fp_meth0 {mn : Str} {pl : Sem Bool} (he : PV X .z o fo) (c : Cls X.K C) (hm : Meth X.K C mn fa) (Fn : FnOk X.prog X.w X.K X.mg X.base CX0 k fa fd ps (spP X.K n rs m)) (hr : Room k X.A) (hb : Binds X.K fd ps [])
    (ht : eval (.Call (.Attribute o mn apos) [] [] pos) X.env = (do
      let ov ← eval o X.env
      standAt apos.atName
      let (f, first) ← holding [ov] (getMethod ov mn pl)
      callWith pos f first (backTo pos (starEach [] X.env)) (backToKw pos (keywordEach [] X.env))) := by rfl) :
    FP X rs (.Call (.Attribute o mn apos) [] [] pos) (vMeth n C mn m fo aNil) := by
  refine pe_imp (pe_meth0 he c hm Fn hr hb .nil pass0 ht) fun σ H Q ⟨G, ρ, F, d, q, R, kq⟩ => ?_
  unfold vMeth at q
  split at q
  · rename_i C' ns ds q1
    split at q
    · rename_i hh
      obtain ⟨hC, hns⟩ := hh
      obtain ⟨xs, q2, q⟩ := bind_some' q
      cases q2
      split at q
      · rename_i hl
        subst hC
        refine ⟨G, ρ, F, _, q1, R, fun v H1 F1 f1 h1 R1 ⟨fp, r1⟩ => ?_⟩
        have r2 := r1.1
        have r3 := r2
        simp only [Rp] at r3
        obtain ⟨a, dx, vs, rfl, ha', hl', hr'⟩ := r3
        refine ⟨a, dx, _, rfl, R1.sub _ _ ha', zip_none hns, ?_⟩
        refine ⟨[.obj C' ns ds], F1, gP H1 F1, d, by simpa using hl, q, ?_, fun w H3 F3 f3 R3 => ?_⟩
        · exact R1.argsZ (RpL.cons r2 RpL.nil)
        · obtain ⟨R4, h3⟩ := R1.afterP f3 R3
          exact kq w H3 F3 (f1.trans f3) (h1.trans h3) R4
      · cases q
    · cases q
  · cases q
end
end VL

set_option Elab.async false
set_option linter.all false
set_option maxRecDepth 100000
/-! VLi: built-ins and operators on data. -/
noncomputable section
namespace VL
open PySem PySem.Spec PyProof.Rows L2

def dInts : List D → Option (List Int)
  | [] => some []
  | .int i :: ds => (dInts ds).map fun r => i :: r
  | _ :: _ => none
def dBls : List D → Option (List Bool)
  | [] => some []
  | .bl i :: ds => (dBls ds).map fun r => i :: r
  | _ :: _ => none
theorem dInts_some : ∀ {ds : List D} {ns : List Int}, dInts ds = some ns → ds = ns.map D.int
  | [], ns, h => by cases h; rfl
  | d :: ds, ns, h => by
    cases d with
    | int i =>
      obtain ⟨r, h1, rfl⟩ := map_some' (show (dInts ds).map _ = some ns from h)
      rw [dInts_some h1]; rfl
    | _ => cases h
theorem dBls_some : ∀ {ds : List D} {ns : List Bool}, dBls ds = some ns → ds = ns.map D.bl
  | [], ns, h => by cases h; rfl
  | d :: ds, ns, h => by
    cases d with
    | bl i =>
      obtain ⟨r, h1, rfl⟩ := map_some' (show (dBls ds).map _ = some ns from h)
      rw [dBls_some h1]; rfl
    | _ => cases h
theorem dInts_map (ns : List Int) : dInts (ns.map D.int) = some ns := by
  induction ns with
  | nil => rfl
  | cons n ns ih => show (dInts (ns.map D.int)).map _ = _; rw [ih]; rfl
theorem dBls_map (ns : List Bool) : dBls (ns.map D.bl) = some ns := by
  induction ns with
  | nil => rfl
  | cons n ns ih => show (dBls (ns.map D.bl)).map _ = _; rw [ih]; rfl

section
variable {K : PySem.W.Frag} {G H F : Hp} {ρ : Sto} {σ : L2.St} {s : Sh} {v : V}
/-- whatever is told is read in the whole heap -/
theorem Ow.whole {d : D} (R : Rel K G ρ σ H F) (h : ∃ fp, Ow K H F s d v fp) : Rp K H d v := let ⟨_, q⟩ := h; q.rp R.sub fun _ _ _ e => e
theorem Rp.lst {ds : List D} (h : Rp K F (.lst ds) v) : ∃ a vs, v = .ref a ∧ SqL K F a vs ∧ RpL K F ds vs := by
  obtain ⟨a, vs, e, h1, h2⟩ := (show ∃ a vs, v = .ref a ∧ F a = some (.lst vs) ∧ RpL K F ds vs by simpa only [Rp] using h)
  exact ⟨a, vs, e, SqL.of h1, h2⟩
theorem Rp.tup {ds : List D} (h : Rp K F (.tup ds) v) : ∃ a vs, v = .ref a ∧ SqT K F a vs ∧ RpL K F ds vs := by simpa only [Rp] using h
theorem Rp.int {i : Int} (h : Rp K F (.int i) v) : v = .int i := by simpa only [Rp] using h
theorem Rp.bl {i : Bool} (h : Rp K F (.bl i) v) : v = .bl i := by simpa only [Rp] using h
theorem Rp.str {i : Str} (h : Rp K F (.str i) v) : v = .str i := by simpa only [Rp] using h
theorem Rp.non (h : Rp K F .non v) : v = .non := by simpa only [Rp] using h
theorem Rp.mkint {i : Int} : Rp K F (.int i) (.int i) := by simp only [Rp]
theorem Rp.mkbl {i : Bool} : Rp K F (.bl i) (.bl i) := by simp only [Rp]
theorem Rp.mkstr {i : Str} : Rp K F (.str i) (.str i) := by simp only [Rp]
/-- frozen, or an owned list of what is frozen -/
def flat1 : Sh → Bool
  | .z => true
  | .seq .z => true
  | _ => false
theorem Ow.elems {ds : List D} (hs : flat1 s = true) (e : Same F H) (h : ∃ fp, Ow K H F s (.lst ds) v fp) : ∃ a vs, v = .ref a ∧ SqL K H a vs ∧ RpL K F ds vs := by
  obtain ⟨fp, h⟩ := h
  cases s with
  | z =>
    obtain ⟨a, vs, rfl, h1, h2⟩ := h.1.lst
    exact ⟨a, vs, rfl, Same.seq e h1, h2⟩
  | seq s =>
    cases s with
    | z =>
      obtain ⟨a, vs, fp', rfl, ha, ho, _⟩ := h
      exact ⟨a, vs, rfl, SqL.of ha, (OwL.unz ho).1⟩
    | _ => cases hs
  | _ => cases hs
theorem Ow.tupz {ds : List D} (h : ∃ fp, Ow K H F s (.tup ds) v fp) : Rp K F (.tup ds) v := by
  obtain ⟨fp, h⟩ := h
  cases s with
  | z => exact h.1
  | seq s => exact h.1
  | obj g => exact h.1
end

/-! ### one argument -/
def CallD (K : PySem.W.Frag) (s : Sh) (r : List V → Hp → VK → Prop) (g : D → Option D) : Prop :=
  ∀ x d, g x = some d → ∀ G ρ σ H F v Q, Rel K G ρ σ H F → (∃ fp, Ow K H F s x v fp) →
    (∀ w H' F', Same F F' → Same H H' → Rel K G ρ σ H' F' → Rp K F' d w → Q w H') → r [v] H Q
def CallF (K : PySem.W.Frag) (s s' : Sh) (r : List V → Hp → VK → Prop) (g : D → Option D) : Prop :=
  ∀ x d, g x = some d → ∀ G ρ σ H F v Q, Rel K G ρ σ H F → (∃ fp, Ow K H F s x v fp) →
    (∀ w H' F', Same F F' → Same H H' → Rel K G (some (s', d) :: ρ) (some w :: σ) H' F' → Q w H') → r [v] H Q
section
variable {X : Cx} {e : Expr} {s s' : Sh} {f : Sto → Option D} {fe : Sto → Option (D × Sto)} {r : List V → Hp → VK → Prop} {g : D → Option D} {x : Str} {p pos : Pos} {id T : String}
theorem tCB_pv (hg : CallD X.K s r g) (σ : L2.St) (H : Hp) (Q : VK) (h : tP X.K .z (v1 g f) σ H Q) : tCB r (tCons (tP X.K s f) tNil) σ H Q := by
  obtain ⟨G, ρ, F, d, q, R, k⟩ := h
  obtain ⟨y, q1, q2⟩ := v1_some q
  exact ⟨G, ρ, F, y, q1, R, fun v H1 F1 f1 h1 R1 r1 => hg y d q2 G ρ σ H1 F1 v Q R1 r1 fun w H2 F2 f2 h2 R2 r2 => k w H2 F2 (f1.trans f2) (h1.trans h2) R2 ⟨[], r2, rfl⟩⟩
theorem tCB_fp (hg : CallF X.K s s' r g) (σ : L2.St) (H : Hp) (Q : VK) (h : tPF X.K s' (v1 g f) σ H Q) : tCB r (tCons (tP X.K s f) tNil) σ H Q := by
  obtain ⟨G, ρ, F, d, q, R, k⟩ := h
  obtain ⟨y, q1, q2⟩ := v1_some q
  exact ⟨G, ρ, F, y, q1, R, fun v H1 F1 f1 h1 R1 r1 => hg y d q2 G ρ σ H1 F1 v Q R1 r1 fun w H2 F2 f2 h2 R2 => k w H2 F2 (f1.trans f2) (h1.trans h2) R2⟩
theorem tCB_ev (hg : CallD X.K .z r g) (σ : L2.St) (H : Hp) (Q : VK) (h : tE X.K (e1 g fe) σ H Q) : tCB r (tCons (tE X.K fe) tNil) σ H Q := by
  obtain ⟨G, ρ, F, d, ρ', q, R, k⟩ := h
  obtain ⟨y, q1, q2⟩ := e1_some q
  exact ⟨G, ρ, F, y, ρ', q1, R, fun v H1 F1 f1 R1 r1 => hg y d q2 G ρ' σ H1 F1 v Q R1 ⟨[], r1, rfl⟩ fun w H2 F2 f2 h2 R2 r2 => k w H2 F2 (f1.trans f2) R2 r2⟩
theorem tCB_ef (hg : CallF X.K .z s' r g) (σ : L2.St) (H : Hp) (Q : VK) (h : tEF X.K s' (e1 g fe) σ H Q) : tCB r (tCons (tE X.K fe) tNil) σ H Q := by
  obtain ⟨G, ρ, F, d, ρ', q, R, k⟩ := h
  obtain ⟨y, q1, q2⟩ := e1_some q
  exact ⟨G, ρ, F, y, ρ', q1, R, fun v H1 F1 f1 R1 r1 => hg y d q2 G ρ' σ H1 F1 v Q R1 ⟨[], r1, rfl⟩ fun w H2 F2 f2 h2 R2 => k w H2 F2 (f1.trans f2) R2⟩
theorem pa1 {t : TE} (h : PE X e t) (hs : starEach (e :: []) X.env = (false, eval e X.env) :: starEach [] X.env) : PA X [e] (tCons t tNil) := pa_cons h pa_nil hs
section
variable (hG : Gl X x) (hm : X.mg x = none) (hn : x ≠ "__name__") (hdb : (x == ("__debug__" : Str)) = false) (he : starEach (e :: []) X.env = (false, eval e X.env) :: starEach [] X.env) (hpl : (backTo pos (starEach [] X.env)).any (·.1) = false)
include hG hm hn hdb he hpl
theorem pv_b1 (hc : CallR X (.builtin id) r) (hv : bootBuiltins x = some (.builtin id)) (hg : CallD X.K s r g) (ha : PV X s e f) : PV X .z (.Call (.Name x p) [e] [] pos) (v1 g f) := pe_imp (pe_callB hc hG hm hv (pa1 ha he) hn hdb he hpl) (tCB_pv hg)
theorem fp_b1 (hc : CallR X (.builtin id) r) (hv : bootBuiltins x = some (.builtin id)) (hg : CallF X.K s s' r g) (ha : PV X s e f) : FP X s' (.Call (.Name x p) [e] [] pos) (v1 g f) := pe_imp (pe_callB hc hG hm hv (pa1 ha he) hn hdb he hpl) (tCB_fp hg)
theorem ev_b1 (hc : CallR X (.builtin id) r) (hv : bootBuiltins x = some (.builtin id)) (hg : CallD X.K .z r g) (ha : EV X e fe) : EV X (.Call (.Name x p) [e] [] pos) (e1 g fe) := pe_imp (pe_callB hc hG hm hv (pa1 ha he) hn hdb he hpl) (tCB_ev hg)
theorem ef_b1 (hc : CallR X (.builtin id) r) (hv : bootBuiltins x = some (.builtin id)) (hg : CallF X.K .z s' r g) (ha : EV X e fe) : EF X s' (.Call (.Name x p) [e] [] pos) (e1 g fe) := pe_imp (pe_callB hc hG hm hv (pa1 ha he) hn hdb he hpl) (tCB_ef hg)
theorem pv_t1 (hc : CallR X (.type T) r) (hv : bootBuiltins x = some (.type T)) (hg : CallD X.K s r g) (ha : PV X s e f) : PV X .z (.Call (.Name x p) [e] [] pos) (v1 g f) := pe_imp (pe_callTy hc hG hm hv (pa1 ha he) hn hdb he hpl) (tCB_pv hg)
theorem fp_t1 (hc : CallR X (.type T) r) (hv : bootBuiltins x = some (.type T)) (hg : CallF X.K s s' r g) (ha : PV X s e f) : FP X s' (.Call (.Name x p) [e] [] pos) (v1 g f) := pe_imp (pe_callTy hc hG hm hv (pa1 ha he) hn hdb he hpl) (tCB_fp hg)
theorem ev_t1 (hc : CallR X (.type T) r) (hv : bootBuiltins x = some (.type T)) (hg : CallD X.K .z r g) (ha : EV X e fe) : EV X (.Call (.Name x p) [e] [] pos) (e1 g fe) := pe_imp (pe_callTy hc hG hm hv (pa1 ha he) hn hdb he hpl) (tCB_ev hg)
theorem ef_t1 (hc : CallR X (.type T) r) (hv : bootBuiltins x = some (.type T)) (hg : CallF X.K .z s' r g) (ha : EV X e fe) : EF X s' (.Call (.Name x p) [e] [] pos) (e1 g fe) := pe_imp (pe_callTy hc hG hm hv (pa1 ha he) hn hdb he hpl) (tCB_ef hg)
end
end

/-! ### what the built-ins give -/
section
variable {K : PySem.W.Frag} {s : Sh}
def dLen : D → Option D
  | .lst ds => some (.int ds.length)
  | .tup ds => some (.int ds.length)
  | _ => none
def rLen (K : PySem.W.Frag) : List V → Hp → VK → Prop := fun xs H Q => ∃ p ys, xs = [.ref p] ∧ (SqL K H p ys ∨ SqT K H p ys) ∧ Q (.int ys.length) H
theorem cd_len : CallD K s (rLen K) dLen := by
  intro x d q G ρ σ H F v Q R h k
  have h2 := Ow.whole R h
  cases x <;> simp only [dLen] at q <;> cases q
  · obtain ⟨a, vs, rfl, h3, h4⟩ := h2.tup
    refine ⟨a, vs, rfl, .inr h3, ?_⟩
    rw [← RpL.length h4]
    exact k _ H F (Same.refl _) (Same.refl _) R Rp.mkint
  · obtain ⟨a, vs, rfl, h3, h4⟩ := h2.lst
    refine ⟨a, vs, rfl, .inl h3, ?_⟩
    rw [← RpL.length h4]
    exact k _ H F (Same.refl _) (Same.refl _) R Rp.mkint
def dSum : D → Option D
  | .lst ds => (dInts ds).map fun ns => .int ns.sum
  | _ => none
theorem cd_sum : CallD K s (rSum K) dSum := by
  intro x d q G ρ σ H F v Q R h k
  cases x <;> simp only [dSum] at q <;> try cases q
  obtain ⟨ns, q1, rfl⟩ := map_some' q
  obtain ⟨a, vs, rfl, h3, h4⟩ := (Ow.whole R h).lst
  rw [dInts_some q1] at h4
  rw [RpL.ints_inv h4] at h3
  exact ⟨a, ns, rfl, h3, k _ H F (Same.refl _) (Same.refl _) R Rp.mkint⟩
def dAll : D → Option D
  | .lst ds => (dBls ds).map fun ns => .bl (ns.all id)
  | _ => none
def dAny : D → Option D
  | .lst ds => (dBls ds).map fun ns => .bl (ns.any id)
  | _ => none
theorem cd_all : CallD K s (rAll K) dAll := by
  intro x d q G ρ σ H F v Q R h k
  cases x <;> simp only [dAll] at q <;> try cases q
  obtain ⟨ns, q1, rfl⟩ := map_some' q
  obtain ⟨a, vs, rfl, h3, h4⟩ := (Ow.whole R h).lst
  rw [dBls_some q1] at h4
  rw [RpL.bls_inv h4] at h3
  exact ⟨a, ns, rfl, h3, k _ H F (Same.refl _) (Same.refl _) R Rp.mkbl⟩
theorem cd_any : CallD K s (rAny K) dAny := by
  intro x d q G ρ σ H F v Q R h k
  cases x <;> simp only [dAny] at q <;> try cases q
  obtain ⟨ns, q1, rfl⟩ := map_some' q
  obtain ⟨a, vs, rfl, h3, h4⟩ := (Ow.whole R h).lst
  rw [dBls_some q1] at h4
  rw [RpL.bls_inv h4] at h3
  exact ⟨a, ns, rfl, h3, k _ H F (Same.refl _) (Same.refl _) R Rp.mkbl⟩
def rTuple (K : PySem.W.Frag) : List V → Hp → VK → Prop := fun xs H Q => ∃ p ys, xs = [.ref p] ∧ ((SqL K H p ys ∧ ∀ l, H l = none → Q (.ref l) (L2.upd H l (.tup ys))) ∨ (SqT K H p ys ∧ Q (.ref p) H))
def dTuple : D → Option D
  | .lst ds => some (.tup ds)
  | .tup ds => some (.tup ds)
  | _ => none
theorem cd_tuple (hs : flat1 s = true) : CallD K s (rTuple K) dTuple := by
  intro x d q G ρ σ H F v Q R h k
  cases x <;> simp only [dTuple] at q <;> cases q
  · have h2 := Ow.tupz h
    have h5 := h2
    obtain ⟨a, vs, rfl, h3, h4⟩ := h2.tup
    exact ⟨a, vs, rfl, .inr ⟨Same.tupT R.sub h3, k _ H F (Same.refl _) (Same.refl _) R h5⟩⟩
  · obtain ⟨a, vs, rfl, h3, h4⟩ := Ow.elems hs R.sub h
    refine ⟨a, vs, rfl, .inl ⟨h3, fun l hl => ?_⟩⟩
    obtain ⟨R2, f2, h6, r2⟩ := R.putTup h4 hl
    exact k _ _ _ f2 h6 R2 r2
def rList (K : PySem.W.Frag) : List V → Hp → VK → Prop := fun xs H Q => ∃ p ys, xs = [.ref p] ∧ (SqL K H p ys ∨ SqT K H p ys) ∧ ∀ l, H l = none → Q (.ref l) (L2.upd H l (.lst ys))
def dList : D → Option D
  | .lst ds => some (.lst ds)
  | .tup ds => some (.lst ds)
  | .lstK ds => some (.lst ds)
  | _ => none
theorem cf_list (hs : flat1 s = true) : CallF K s (.seq .z) (rList K) dList := by
  intro x d q G ρ σ H F v Q R h k
  cases x <;> simp only [dList] at q <;> cases q
  · obtain ⟨a, vs, rfl, h3, h4⟩ := (Ow.tupz h).tup
    exact ⟨a, vs, rfl, .inr (Same.tupT R.sub h3), fun l hl => k _ _ F (Same.refl _) (Same.upd hl) (R.addLst h4 hl)⟩
  · obtain ⟨a, vs, rfl, h3, h4⟩ := Ow.elems hs R.sub h
    exact ⟨a, vs, rfl, .inl h3, fun l hl => k _ _ F (Same.refl _) (Same.upd hl) (R.addLst h4 hl)⟩
  · obtain ⟨fp, h⟩ := h
    rename_i ds
    have r : Rp K F (.lstK ds) v := by cases s <;> exact h.1
    obtain ⟨a, vs, rfl, h3, h4⟩ := (show ∃ a vs, v = .ref a ∧ SqL K F a vs ∧ RpL K F ds vs by simpa only [Rp] using r)
    exact ⟨a, vs, rfl, .inl (Same.seq R.sub h3), fun l hl => k _ _ F (Same.refl _) (Same.upd hl) (R.addLst h4 hl)⟩
/-- the ints in order -/
def isort (ns : List Int) : List Int := ns.mergeSort fun a b => decide (a ≤ b)
theorem isort_perm (ns : List Int) : (isort ns).Perm ns := List.mergeSort_perm _ _
theorem isort_le (ns : List Int) : (isort ns).Pairwise (· ≤ ·) := by
  have := List.pairwise_mergeSort (le := fun a b : Int => decide (a ≤ b)) (fun a b c h1 h2 => by simp at *; omega) (fun a b => by simp; omega) ns
  exact this.imp fun h => by simpa using h
theorem isort_of {ns ms : List Int} (h : ms.Perm ns) (hs : ms.Pairwise (· ≤ ·)) : ms = isort ns :=
  List.Perm.eq_of_pairwise (fun x y _ _ h1 h2 => Int.le_antisymm h1 h2) hs (isort_le ns) (h.trans (isort_perm ns).symm)
def dSorted : D → Option D
  | .lst ds => (dInts ds).map fun ns => .lst ((isort ns).map .int)
  | _ => none
theorem cf_sorted : CallF K s (.seq .z) (rSortedI K) dSorted := by
  intro x d q G ρ σ H F v Q R h k
  cases x <;> simp only [dSorted] at q <;> try cases q
  obtain ⟨ns, q1, rfl⟩ := map_some' q
  obtain ⟨a, vs, rfl, h3, h4⟩ := (Ow.whole R h).lst
  rw [dInts_some q1] at h4
  rw [RpL.ints_inv h4] at h3
  refine ⟨a, ns, rfl, h3, fun ns' l hp hs hl => ?_⟩
  rw [isort_of hp hs]
  exact k _ _ F (Same.refl _) (Same.upd hl) (R.addLst (RpL.ints _) hl)
def rIntC : List V → Hp → VK → Prop := fun xs H Q => (∃ i, xs = [.int i] ∧ Q (.int i) H) ∨ ∃ k, xs = [.bl k] ∧ Q (.int (if k then 1 else 0)) H
def dInt : D → Option D
  | .int i => some (.int i)
  | .bl b => some (.int (if b then 1 else 0))
  | _ => none
theorem cd_int : CallD K .z rIntC dInt := by
  intro x d q G ρ σ H F v Q R h k
  obtain ⟨fp, h, _⟩ := h
  cases x <;> simp only [dInt] at q <;> cases q
  · rw [Rp.bl h]; exact .inr ⟨_, rfl, k _ H F (Same.refl _) (Same.refl _) R Rp.mkint⟩
  · rw [Rp.int h]; exact .inl ⟨_, rfl, k _ H F (Same.refl _) (Same.refl _) R Rp.mkint⟩
def rAbs : List V → Hp → VK → Prop := fun xs H Q => ∃ i, xs = [.int i] ∧ Q (.int (if i < 0 then -i else i)) H
def dAbs : D → Option D
  | .int i => some (.int (if i < 0 then -i else i))
  | _ => none
theorem cd_abs : CallD K .z rAbs dAbs := by
  intro x d q G ρ σ H F v Q R h k
  obtain ⟨fp, h, _⟩ := h
  cases x <;> simp only [dAbs] at q <;> cases q
  rw [Rp.int h]; exact ⟨_, rfl, k _ H F (Same.refl _) (Same.refl _) R Rp.mkint⟩
/-- the greatest, the least of ints -/
def imax : List Int → Option Int
  | [] => none
  | n :: ns => some (ns.foldl max n)
def imin : List Int → Option Int
  | [] => none
  | n :: ns => some (ns.foldl min n)
theorem foldl_max : ∀ (ns : List Int) (n : Int), ns.foldl max n ∈ n :: ns ∧ ∀ y ∈ n :: ns, y ≤ ns.foldl max n
  | [], n => by simp
  | m :: ns, n => by
    obtain ⟨h1, h2⟩ := foldl_max ns (max n m)
    refine ⟨?_, fun y hy => ?_⟩
    · rcases List.mem_cons.mp h1 with e | e
      · show ns.foldl max (max n m) ∈ _
        rw [e]
        rcases Int.le_total n m with z | z
        · rw [Int.max_eq_right z]; simp
        · rw [Int.max_eq_left z]; simp
      · exact List.mem_cons_of_mem _ (List.mem_cons_of_mem _ e)
    · have h3 := h2 (max n m) List.mem_cons_self
      rcases List.mem_cons.mp hy with rfl | hy
      · exact Int.le_trans (Int.le_max_left _ _) h3
      · rcases List.mem_cons.mp hy with rfl | hy
        · exact Int.le_trans (Int.le_max_right _ _) h3
        · exact h2 y (List.mem_cons_of_mem _ hy)
theorem foldl_min : ∀ (ns : List Int) (n : Int), ns.foldl min n ∈ n :: ns ∧ ∀ y ∈ n :: ns, ns.foldl min n ≤ y
  | [], n => by simp
  | m :: ns, n => by
    obtain ⟨h1, h2⟩ := foldl_min ns (min n m)
    refine ⟨?_, fun y hy => ?_⟩
    · rcases List.mem_cons.mp h1 with e | e
      · show ns.foldl min (min n m) ∈ _
        rw [e]
        rcases Int.le_total n m with z | z
        · rw [Int.min_eq_left z]; simp
        · rw [Int.min_eq_right z]; simp
      · exact List.mem_cons_of_mem _ (List.mem_cons_of_mem _ e)
    · have h3 := h2 (min n m) List.mem_cons_self
      rcases List.mem_cons.mp hy with rfl | hy
      · exact Int.le_trans h3 (Int.min_le_left _ _)
      · rcases List.mem_cons.mp hy with rfl | hy
        · exact Int.le_trans h3 (Int.min_le_right _ _)
        · exact h2 y (List.mem_cons_of_mem _ hy)
def dMax : D → Option D
  | .lst ds => (dInts ds).bind fun ns => (imax ns).map .int
  | _ => none
def dMin : D → Option D
  | .lst ds => (dInts ds).bind fun ns => (imin ns).map .int
  | _ => none
theorem cd_max : CallD K s (rMax K) dMax := by
  intro x d q G ρ σ H F v Q R h k
  cases x <;> simp only [dMax] at q <;> try cases q
  obtain ⟨ns, q1, q⟩ := bind_some' q
  obtain ⟨m, q2, rfl⟩ := map_some' q
  obtain ⟨a, vs, rfl, h3, h4⟩ := (Ow.whole R h).lst
  rw [dInts_some q1] at h4
  rw [RpL.ints_inv h4] at h3
  cases ns with
  | nil => cases q2
  | cons n ns =>
    cases q2
    obtain ⟨e1, e2⟩ := foldl_max ns n
    refine ⟨a, n :: ns, rfl, h3, by simp, fun m hm hle => ?_⟩
    have : m = ns.foldl max n := Int.le_antisymm (e2 m hm) (hle _ e1)
    rw [this]
    exact k _ H F (Same.refl _) (Same.refl _) R Rp.mkint
theorem cd_min : CallD K s (rMin K) dMin := by
  intro x d q G ρ σ H F v Q R h k
  cases x <;> simp only [dMin] at q <;> try cases q
  obtain ⟨ns, q1, q⟩ := bind_some' q
  obtain ⟨m, q2, rfl⟩ := map_some' q
  obtain ⟨a, vs, rfl, h3, h4⟩ := (Ow.whole R h).lst
  rw [dInts_some q1] at h4
  rw [RpL.ints_inv h4] at h3
  cases ns with
  | nil => cases q2
  | cons n ns =>
    cases q2
    obtain ⟨e1, e2⟩ := foldl_min ns n
    refine ⟨a, n :: ns, rfl, h3, by simp, fun m hm hle => ?_⟩
    have : m = ns.foldl min n := Int.le_antisymm (hle _ e1) (e2 m hm)
    rw [this]
    exact k _ H F (Same.refl _) (Same.refl _) R Rp.mkint
/-- the int keys of a dict, in order -/
def keyInts : List Key → Option (List Int)
  | [] => some []
  | .inl i :: ks => (keyInts ks).map fun r => i :: r
  | .inr _ :: _ => none
theorem keyInts_some : ∀ {ks : List Key} {ns : List Int}, keyInts ks = some ns → ks = ns.map Sum.inl
  | [], ns, h => by cases h; rfl
  | .inl i :: ks, ns, h => by
    obtain ⟨r, h1, rfl⟩ := map_some' (show (keyInts ks).map _ = some ns from h)
    rw [keyInts_some h1]; rfl
  | .inr _ :: _, ns, h => by cases h
def dSortedDK : D → Option D
  | .dicK ks ds => (keyInts ks).bind fun ns => if ns.length < 64 then some (.lst ((isort ns).map .int)) else none
  | _ => none
def rSortedDI : List V → Hp → VK → Prop := fun xs H Q => ∃ (a : Addr) (kvs : List (Key × V)) (ks : List Int), xs = [.ref a] ∧ Rd H a (.dK kvs) ∧ kvs.map (·.1) = ks.map Sum.inl ∧ ks.length < 64 ∧
  ∀ (ys : List Int) (p : Addr), ys.Perm ks → ys.Pairwise (· ≤ ·) → H p = none → Q (.ref p) (L2.upd H p (.lst (ys.map V.int)))
theorem cf_sortedDK : CallF K s (.seq .z) rSortedDI dSortedDK := by
  intro x d q G ρ σ H F v Q R h k
  cases x <;> simp only [dSortedDK] at q <;> try cases q
  obtain ⟨ns, q1, q⟩ := bind_some' q
  split at q
  · rename_i hl
    cases q
    have h2 := Ow.whole R h
    simp only [Rp] at h2
    obtain ⟨a, vs, rfl, h3, h5, h4⟩ := h2
    have e1 := RpL.length h4
    refine ⟨a, _, ns, rfl, h3, ?_, hl, fun ys l hp hs hl => ?_⟩
    · rw [List.map_fst_zip (by omega)]
      exact keyInts_some q1
    · rw [isort_of hp hs]
      exact k _ _ F (Same.refl _) (Same.upd hl) (R.addLst (RpL.ints _) hl)
  · cases q
end

/-! ### operators -/
section
variable {K : PySem.W.Frag} {s1 s2 : Sh}
def dII (k : Int → Int → D) : D → D → Option D
  | .int i, .int j => some (k i j)
  | _, _ => none
def dIIc (C : Int → Int → Bool) (k : Int → Int → D) : D → D → Option D
  | .int i, .int j => if C i j then some (k i j) else none
  | _, _ => none
theorem Ow.int {H F : Hp} {s : Sh} {i : Int} {v : V} (h : ∃ fp, Ow K H F s (.int i) v fp) : v = .int i := let ⟨_, q⟩ := h; Rp.int (q.sc rfl)
theorem od_II {h : Int → Int → V} {k : Int → Int → D} (hk : ∀ i j F, Rp K F (k i j) (h i j)) : OpD K s1 s2 (rI0 h) (dII k) := by
  intro x y d q G ρ σ H F v u Q R hx hy kk
  cases x <;> cases y <;> simp only [dII] at q <;> cases q
  exact ⟨_, _, Ow.int hx, Ow.int hy, kk _ H F (Same.refl _) (Same.refl _) R (hk _ _ F)⟩
theorem od_IIc {P : Int → Int → Prop} {C : Int → Int → Bool} {h : Int → Int → V} {k : Int → Int → D} (hC : ∀ i j, C i j = true → P i j) (hk : ∀ i j F, Rp K F (k i j) (h i j)) : OpD K s1 s2 (rI P h) (dIIc C k) := by
  intro x y d q G ρ σ H F v u Q R hx hy kk
  cases x <;> cases y <;> simp only [dIIc] at q <;> try cases q
  split at q
  · cases q
    exact ⟨_, _, Ow.int hx, Ow.int hy, hC _ _ ‹_›, kk _ H F (Same.refl _) (Same.refl _) R (hk _ _ F)⟩
  · cases q
def dElse (g g' : D → D → Option D) : D → D → Option D := fun x y => match g x y with
  | some d => some d
  | none => g' x y
theorem od_or {r r' : R2} {g g' : D → D → Option D} (h : OpD K s1 s2 r g) (h' : OpD K s1 s2 r' g') : OpD K s1 s2 (fun x y H Q => r x y H Q ∨ r' x y H Q) (dElse g g') := by
  intro x y d q G ρ σ H F v u Q R hx hy kk
  unfold dElse at q
  cases q1 : g x y with
  | some e => rw [q1] at q; cases q; exact .inl (h x y _ q1 G ρ σ H F v u Q R hx hy kk)
  | none => rw [q1] at q; exact .inr (h' x y d q G ρ σ H F v u Q R hx hy kk)
abbrev dSub := dII fun i j => .int (i - j)
abbrev dAddI := dII fun i j => .int (i + j)
abbrev dAnd := dII fun i j => .int (Builtin.bitAnd i j)
abbrev dOr := dII fun i j => .int (Builtin.bitOr i j)
abbrev dXor := dII fun i j => .int (Builtin.bitXor i j)
def bMul (i j : Int) : Bool := decide (-18446744073709551616 < i ∧ i < 18446744073709551616) || decide (-18446744073709551616 < j ∧ j < 18446744073709551616)
abbrev dMulI := dIIc bMul fun i j => .int (i * j)
def bDiv (i j : Int) : Bool := decide (j ≠ 0 ∧ j.natAbs < 1073741824)
abbrev dFdiv := dIIc bDiv fun i j => .int (i.fdiv j)
def bMod (i j : Int) : Bool := decide (j ≠ 0)
abbrev dMod := dIIc bMod fun i j => .int (i.fmod j)
def bPow (i j : Int) : Bool := decide (0 ≤ j ∧ j ≤ 1000000 ∧ i.natAbs < 18446744073709551616)
abbrev dShl := dIIc bPow fun i j => .int (i * 2 ^ j.toNat)
abbrev dPow := dIIc bPow fun i j => .int (i ^ j.toNat)
def bShr (i j : Int) : Bool := decide (0 ≤ j)
abbrev dShr := dIIc bShr fun i j => .int (i / 2 ^ j.toNat)
abbrev dLt := dII fun i j => .bl (decide (i < j))
abbrev dLe := dII fun i j => .bl (decide (i ≤ j))
abbrev dGt := dII fun i j => .bl (decide (j < i))
abbrev dGe := dII fun i j => .bl (decide (j ≤ i))
theorem od_addI : OpD K s1 s2 (rI0 fun i j => .int (i + j)) dAddI := od_II fun _ _ _ => Rp.mkint
theorem od_sub : OpD K s1 s2 (rI0 fun i j => .int (i - j)) dSub := od_II fun _ _ _ => Rp.mkint
theorem od_and : OpD K s1 s2 (rI0 fun i j => .int (Builtin.bitAnd i j)) dAnd := od_II fun _ _ _ => Rp.mkint
theorem od_orI : OpD K s1 s2 (rI0 fun i j => .int (Builtin.bitOr i j)) dOr := od_II fun _ _ _ => Rp.mkint
theorem od_xor : OpD K s1 s2 (rI0 fun i j => .int (Builtin.bitXor i j)) dXor := od_II fun _ _ _ => Rp.mkint
theorem od_mulI : OpD K s1 s2 (rI CMul fun i j => .int (i * j)) dMulI := od_IIc (fun i j h => by
  simp only [bMul, Bool.or_eq_true, decide_eq_true_eq] at h
  exact h.imp (fun z => ⟨by omega, by omega⟩) fun z => ⟨by omega, by omega⟩) fun _ _ _ => Rp.mkint
theorem od_fdiv : OpD K s1 s2 (rI CDivN fun i j => .int (i.fdiv j)) dFdiv := od_IIc (fun i j h => by
  simp only [bDiv, decide_eq_true_eq] at h; exact h) fun _ _ _ => Rp.mkint
theorem od_mod : OpD K s1 s2 (rI (fun _ j => j ≠ 0) fun i j => .int (i.fmod j)) dMod := od_IIc (fun i j h => of_decide_eq_true h) fun _ _ _ => Rp.mkint
theorem od_shl : OpD K s1 s2 (rI CPow fun i j => .int (i * 2 ^ j.toNat)) dShl := od_IIc (fun i j h => by
  simp only [bPow, decide_eq_true_eq] at h; exact h) fun _ _ _ => Rp.mkint
theorem od_pow : OpD K s1 s2 (rI CPow fun i j => .int (i ^ j.toNat)) dPow := od_IIc (fun i j h => by
  simp only [bPow, decide_eq_true_eq] at h; exact h) fun _ _ _ => Rp.mkint
theorem od_shr : OpD K s1 s2 (rI (fun _ j => 0 ≤ j) fun i j => .int (i / 2 ^ j.toNat)) dShr := od_IIc (fun i j h => of_decide_eq_true h) fun _ _ _ => Rp.mkint
theorem od_lt : OpD K s1 s2 (rI0 fun i j => .bl (decide (i < j))) dLt := od_II fun _ _ _ => Rp.mkbl
theorem od_le : OpD K s1 s2 (rI0 fun i j => .bl (decide (i ≤ j))) dLe := od_II fun _ _ _ => Rp.mkbl
theorem od_gt : OpD K s1 s2 (rI0 fun i j => .bl (decide (j < i))) dGt := od_II fun _ _ _ => Rp.mkbl
theorem od_ge : OpD K s1 s2 (rI0 fun i j => .bl (decide (j ≤ i))) dGe := od_II fun _ _ _ => Rp.mkbl
/-- an item of a list, a tuple -/
def dIx : D → D → Option D
  | .lst ds, .int k => (ixN ds.length k).bind fun j => ds[j]?
  | .tup ds, .int k => (ixN ds.length k).bind fun j => ds[j]?
  | _, _ => none
theorem od_ix (hs : flat1 s1 = true) : OpD K s1 s2 (rIx K) dIx := by
  intro x y d q G ρ σ H F v u Q R hx hy kk
  cases x <;> cases y <;> simp only [dIx] at q <;> try cases q
  · obtain ⟨j, q1, q2⟩ := bind_some' q
    obtain ⟨a, vs, rfl, h3, h4⟩ := (Ow.tupz hx).tup
    obtain ⟨w, e1, e2⟩ := RpL.get h4 q2
    refine .inr (.inl ⟨a, vs, _, w, rfl, Ow.int hy, Same.tupT R.sub h3, ?_, kk _ H F (Same.refl _) (Same.refl _) R e2⟩)
    unfold atI
    rw [← RpL.length h4, q1]; exact e1
  · obtain ⟨j, q1, q2⟩ := bind_some' q
    obtain ⟨a, vs, rfl, h3, h4⟩ := Ow.elems hs R.sub hx
    obtain ⟨w, e1, e2⟩ := RpL.get h4 q2
    refine .inl ⟨a, vs, _, w, rfl, Ow.int hy, h3, ?_, kk _ H F (Same.refl _) (Same.refl _) R e2⟩
    unfold atI
    rw [← RpL.length h4, q1]; exact e1
/-- tuples, lists joined (the list frozen) -/
def dCatT : D → D → Option D
  | .tup xs, .tup ys => if xs.length + ys.length ≤ 1000000 then some (.tup (xs ++ ys)) else none
  | _, _ => none
theorem od_catT : OpD K s1 s2 (rCatA K) dCatT := by
  intro x y d q G ρ σ H F v u Q R hx hy kk
  cases x <;> cases y <;> simp only [dCatT] at q <;> try cases q
  split at q
  · rename_i hl
    cases q
    have rx := Ow.tupz hx
    have ry := Ow.tupz hy
    obtain ⟨a, vs, rfl, h3, h4⟩ := rx.tup
    obtain ⟨b, us, rfl, h5, h6⟩ := ry.tup
    have l1 := RpL.length h4
    have l2 := RpL.length h6
    refine ⟨a, b, vs, us, rfl, rfl, Same.tupT R.sub h3, Same.tupT R.sub h5, by rw [← l1, ← l2]; exact mill_line hl, fun e => ?_, fun _ e => ?_, fun _ _ p hp => ?_⟩
    · rw [e] at l1
      have e2 := List.length_eq_zero_iff.mp l1
      rw [e2] at kk
      exact kk _ H F (Same.refl _) (Same.refl _) R ry
    · rw [e] at l2
      have e2 := List.length_eq_zero_iff.mp l2
      rw [e2, List.append_nil] at kk
      exact kk _ H F (Same.refl _) (Same.refl _) R rx
    · obtain ⟨R2, f2, h7, r2⟩ := R.putTup (h4.append h6) hp
      exact kk _ _ _ f2 h7 R2 r2
  · cases q
/-- xs * k, a new list -/
def dRep : D → D → Option D
  | .lst xs, .int k => if 0 ≤ k ∧ k ≤ 100000 ∧ xs.length ≤ 10 then some (.lst (List.replicate k.toNat xs).flatten) else none
  | _, _ => none
theorem RpL.rep {F : Hp} {ds : List D} {vs : List V} (h : RpL K F ds vs) : ∀ n : Nat, RpL K F (List.replicate n ds).flatten (List.replicate n vs).flatten
  | 0 => RpL.nil
  | n + 1 => by
    rw [List.replicate_succ, List.replicate_succ, List.flatten_cons, List.flatten_cons]
    exact h.append (RpL.rep h n)
theorem of_rep : OpF K (.seq .z) .z (.seq .z) rRep dRep := by
  intro x y d q G ρ σ H F v u Q R hx hy kk
  cases x <;> cases y <;> simp only [dRep] at q <;> try cases q
  split at q
  · rename_i hl
    cases q
    obtain ⟨fp, a, vs, fp', rfl, ha, ho, _⟩ := hx
    have h4 := (OwL.unz ho).1
    have l1 := RpL.length h4
    refine ⟨a, _, vs, rfl, Ow.int hy, ha, by omega, by omega, ?_, fun p hp => kk _ _ F (Same.refl _) (Same.upd hp) (R.addLst (h4.rep _) hp)⟩
    rw [sizeLine_eq, ← l1]
    exact Nat.le_trans (Nat.mul_le_mul hl.2.2 (show _ ≤ 100000 by omega)) (by decide)
  · cases q
end
end VL

set_option Elab.async false
set_option linter.all false
set_option maxRecDepth 100000
/-! VLj: enumerate of a list or a tuple. -/
noncomputable section
namespace VL
open PySem PySem.Spec PyProof.Rows L2

set_option maxHeartbeats 1000000 in
/-- enumerate(v), v told by how its walk begins -/
theorem meets_en1 {v : Value} {o : Obj} {Hb : Heap → Prop} (B : Begins v o Hb) :
    Meets (Builtin.«enumerate.__new__» ⟨[.type "enumerate", v], []⟩) (fun _ R s => Hb s.heap ∧ R (.ok (.ret (.ref (s.heap.push o).objs.size))) { s with heap := (s.heap.push o).push { cls := .type "enumerate", data := .fields #[.none, .bool false, .ref s.heap.objs.size, rawInt 0, .none, .none] } }) :=
  .of_wp fun pr wd A R s hh => by
    obtain ⟨hp, ge, dr, tk, os⟩ := s
    obtain ⟨b1, hh⟩ := hh
    have sb := sub_enumerate
    have go : ∀ {A2 : Around} {E2 : Value → Shared → Prop} {Q2 : Value → Shared → Prop}, Q2 (.ref hp.objs.size) ⟨hp.push o, ge, dr, tk, os⟩ → wpAny (model pr wd) A2 (pyIter v) Q2 E2 ⟨hp, ge, dr, tk, os⟩ :=
      fun z => B.iter pr wd _ _ ⟨hp, ge, dr, tk, os⟩ _ b1 z
    wp_walk using go
    refine wpAny_stack_any fun _ => wpAny_pure ?_
    split
    · rename_i cl _ _ _ _ _
      cases (cl == Value.type "enumerate") <;> (wp_walk using go; exact ⟨_, rfl, hh⟩)
    · wp_walk using go
      exact ⟨_, rfl, hh⟩
theorem en_begins {pr : Program} {wd : World} {A : Around} {E : Value → Shared → Prop} {s : Shared} {v : Value} {o : Obj} {Hb : Heap → Prop} {Q : Value → Shared → Prop} (B : Begins v o Hb) (b1 : Hb s.heap)
    (kk : ∀ h2, IsEnum h2 (s.heap.objs.size + 1) s.heap.objs.size 0 .none → h2.get? s.heap.objs.size = some o → (∀ b u, s.heap.get? b = some u → h2.get? b = some u) → Q (.ref (s.heap.objs.size + 1)) { s with heap := h2 }) :
    wpAny (model pr wd) A (call (.type "enumerate") [v]) Q E s := by
  refine callType_new F.called_enumerate (by decide) (F.typeCall_enumerate_1 _) (F.newCall_enumerate_1 _) (fun ob => F.args_object_init_2 ob _) F.entry_enumerate_new (meets_en1 B) ⟨b1, ?_⟩
  have sz : (s.heap.push o).objs.size = s.heap.objs.size + 1 := Heap.size_push ..
  have it := Heap.get?_push_size (s.heap.push o) (o := { cls := .type "enumerate", data := .fields #[.none, .bool false, .ref s.heap.objs.size, rawInt 0, .none, .none] }) rfl
  show _ ∧ _
  rw [sz] at it ⊢
  exact ⟨⟨_, it, rfl⟩, kk _ it (Heap.get?_push_of_some _ (Heap.get?_push_size _ B.free)) fun b u z => Heap.get?_push_of_some _ (Heap.get?_push_of_some _ z)⟩
/-- the tuple at a, each item in a new pair -/
def IteT (K : PySem.W.Frag) (a : Addr) : It where
  go := fun i H => ∃ (xs : List V) (x : V), SqT K H a xs ∧ xs[i]? = some x
  yld := fun i H v H' => ∃ T x, v = .ref T ∧ H T = none ∧ H' = L2.upd H T (.tup [.int (i : Nat), x]) ∧ ∀ xs, SqT K H a xs → xs[i]? = some x
  stop := fun i H => ∃ xs : List V, SqT K H a xs ∧ i = xs.length
theorem turn_enumT {P : Program} {w : World} {K : PySem.W.Frag} {tl : List Expr} {kk : Nat} {tp : Pos} (a e it : Addr) :
    Turn P w K (.Tuple tl kk tp) (IteT K a) [e, it] e (fun i h => (∃ old, IsEnum h e it ((i : Nat) : Int) old) ∧ h.IsTupleIter it a i ∧ e ≠ it) where
  mem := List.mem_cons_self
  obj := fun i h st b hb => by
    obtain ⟨⟨_, q1⟩, ⟨o, q2, q3, q4⟩, _⟩ := st
    rcases List.mem_cons.mp hb with z | z
    · subst z; exact ⟨_, q1, fun v q => nomatch q⟩
    · rw [List.mem_singleton.mp z]; exact ⟨o, q2, fun v q => by rw [q4] at q; cases q⟩
  keep := fun i h h2 st k => let ⟨⟨old, q1⟩, q2, q3⟩ := st
    ⟨⟨old, k e List.mem_cons_self _ q1⟩, q2.at fun o q => k it (List.mem_cons_of_mem _ List.mem_cons_self) o q, q3⟩
  item := by
    intro X hP hw hK hc i pins s σ H E I hf st hgo
    subst hP hw hK
    obtain ⟨⟨old, q1⟩, q2, q3⟩ := st
    obtain ⟨xs, x, hq, hx⟩ := hgo
    obtain ⟨us, rv, pt, hz⟩ := I.tuple hq
    obtain ⟨u, hu, ru⟩ := rv.get hx
    have pt' : s.heap.IsTuple a us.toArray := pt
    have lt1 : e < s.heap.objs.size := Heap.lt_size q1
    have lt2 : it < s.heap.objs.size := by obtain ⟨_, z, _⟩ := q2; exact Heap.lt_size z
    have ne1 : e ≠ a := by
      rintro rfl
      obtain ⟨o, z1, z2, _⟩ := pt'
      have q1' : s.heap.get? e = some _ := q1
      rw [z1] at q1'; cases q1'; exact absurd (Value.type.inj z2) (by decide)
    have ne2 : a ≠ it := by
      rintro rfl
      obtain ⟨o, z1, z2, _⟩ := pt'
      obtain ⟨o', z3, z4, _⟩ := q2
      rw [z1] at z3; cases z3; rw [z2] at z4; exact absurd (Value.type.inj z4) (by decide)
    have hi : i < us.toArray.size := by
      have := (List.getElem?_eq_some_iff.mp hu).1; simpa using this
    have Dr := Draws.tuple (prog := X.prog) (w := X.w) (A := X.A.in1) (I.ok.hd hc) it a ne2 us.toArray
    refine wpAny_pyNext_enum_itemD Dr q1 ⟨q2, pt'⟩ hi q3 (by simp; exact ⟨q3, ne1⟩) fun y h2 tk py ho st2 hT hsz hk => ?_
    have ey : y = u := by
      have py : us.toArray[i]? = some y := py
      rw [List.getElem?_toArray, hu] at py
      exact (Option.some.inj py).symm
    subst ey
    refine ⟨_, rfl, wpAny_letOwnedTupleGo_enum (s := { s with heap := h2, toks := tk + 1 }) ho fun h3 he3 sb => ?_⟩
    have hT3 : h3.get? s.heap.objs.size = some { cls := .type "tuple", data := .seq #[.int i tk, y] } := (sb.2 _ (Nat.ne_of_gt lt1)).trans hT
    have nw : ObjOk X.prog X.w (L2.upd H s.heap.objs.size (.tup [.int (i : Nat), x])) h3 s.heap.objs.size (.tup [.int (i : Nat), x]) :=
      ⟨by show 2 ≤ sizeLine; decide, [.int i tk, y], .cons ⟨_, rfl⟩ (.cons ru .nil), ⟨_, hT3, rfl, _, rfl⟩⟩
    have J : Inv X pins σ (L2.upd H s.heap.objs.size (.tup [.int (i : Nat), x])) { s with heap := h3, toks := tk + 1 } :=
      I.turnedNew (ch := [e, it]) (fun b ob hb q => (sb.2 b (fun z => hb (by simp [z]))).trans (hk b ob (fun z => hb (by simp [z])) (fun z => hb (by simp [z])) q)) hf (Nat.le_refl _) nw
    refine ⟨.ref s.heap.objs.size, _, J, rfl, ⟨_, x, rfl, I.hok.fresh (Nat.le_refl _), rfl, fun ys hy => by rw [I.tuple_inj hy hq]; exact hx⟩, ⟨⟨y, ?_⟩, st2.1.at fun o q => (sb.2 it (Ne.symm q3)).trans q, q3⟩, fun b hb => ?_⟩
    · have : ((i + 1 : Nat) : Int) = (i : Int) + 1 := by omega
      rw [this]; exact he3
    · have lb : b < s.heap.objs.size := by
        rcases List.mem_cons.mp hb with z | z
        · rw [z]; exact lt1
        · rw [List.mem_singleton.mp z]; exact lt2
      rw [upd_ne (Nat.ne_of_lt lb)]
      exact (hf b hb).1
  done := by
    intro X hP hw hK hc i pins s σ H E I hf st hgo
    subst hP hw hK
    obtain ⟨⟨old, q1⟩, q2, q3⟩ := st
    obtain ⟨xs, hq, hx⟩ := hgo
    obtain ⟨us, rv, pt, hz⟩ := I.tuple hq
    have pt' : s.heap.IsTuple a us.toArray := pt
    obtain ⟨g0, g1, g2, g3, g4, g5⟩ := hf it (List.mem_cons_of_mem _ List.mem_cons_self)
    have ne2 : a ≠ it := by
      rintro rfl
      obtain ⟨o, z1, z2, _⟩ := pt'
      obtain ⟨o', z3, z4, _⟩ := q2
      rw [z1] at z3; cases z3; rw [z2] at z4; exact absurd (Value.type.inj z4) (by decide)
    have Dr := Draws.tuple (prog := X.prog) (w := X.w) (A := X.A.in1) (I.ok.hd hc) it a ne2 us.toArray
    have hl := rv.length
    have ei : i = us.toArray.size := by rw [List.size_toArray]; omega
    rw [ei] at q2
    exact wpAny_pyNext_enum_endD Dr q1 ⟨q2, pt'⟩ fun h2 eb => ⟨rfl, I.turned (t' := s.toks) (fun b o hb q => eb b o hb q) g0 g1 g3 g4 g5⟩
  self := fun A i s Q E st h => let ⟨⟨_, q1⟩, _⟩ := st; wpAny_pyIter_enum q1 h
def iEnumA (K : PySem.W.Frag) (ta : TA) : TI := fun σ H R => ta σ H fun vs H1 => ∃ a xs, vs = [.ref a] ∧ ((SqL K H1 a xs ∧ R (Ite K a) H1) ∨ (SqT K H1 a xs ∧ R (IteT K a) H1))
theorem pi_enumA {X : Cx} {e : Expr} {ta : TA} {p pos tpos : Pos} {elts : List Expr} {kk : Nat} (hg : Gl X "enumerate") (hm : X.mg "enumerate" = none) (ha : PA X [e] ta) (hs : starEach [e] X.env = [(false, eval e X.env)] := by rfl) :
    PI X (.Tuple elts kk tpos) (.Call (.Name "enumerate" p) [e] [] pos) (iEnumA X.K ta) := by
  refine ⟨fun pins s σ H R I h => ?_⟩
  refine Call_ (ld_blt I hg hm boot_enumerate (PyProof.Rows.callWith_type1 (thn (ha.run pos pins s σ H _ I h) fun us s1 ⟨vs, H1, I1, r1, q1⟩ => ?_) hs rfl))
  obtain ⟨a, xs, ex, q⟩ := q1
  subst ex
  have eu := Vals.ref1 r1
  subst eu
  have two : ∀ b, b ∈ [s1.heap.objs.size + 1, s1.heap.objs.size] → s1.heap.objs.size ≤ b := fun b hb => by
    rcases List.mem_cons.mp hb with z | z
    · rw [z]; exact Nat.le_succ _
    · rw [List.mem_singleton.mp z]; exact Nat.le_refl _
  rcases q with ⟨hq, q⟩ | ⟨hq, q⟩
  · obtain ⟨its, rv, p', hz⟩ := I1.list hq
    refine en_begins (begins_list a its.toArray) p'.isList fun h2 z1 z2 z3 => wpAny_pyIter_enum z1 ?_
    have I2 : Inv X pins σ H1 { s1 with heap := h2 } := I1.kept (t' := s1.toks) z3
    exact ⟨_, [_, _], _, _, H1, rfl, I2, turn_enum a (s1.heap.objs.size + 1) s1.heap.objs.size, ⟨⟨.none, z1⟩, ⟨_, z2, rfl, rfl⟩, Nat.succ_ne_self _⟩, fun b hb => I1.fpOk (two b hb) (I1.hok.fresh (two b hb)), q⟩
  · obtain ⟨its, rv, p', hz⟩ := I1.tuple hq
    have p2 : s1.heap.IsTuple a its.toArray := p'
    refine en_begins (begins_tuple a its.toArray) p2 fun h2 z1 z2 z3 => wpAny_pyIter_enum z1 ?_
    have I2 : Inv X pins σ H1 { s1 with heap := h2 } := I1.kept (t' := s1.toks) z3
    exact ⟨_, [_, _], _, _, H1, rfl, I2, turn_enumT a (s1.heap.objs.size + 1) s1.heap.objs.size, ⟨⟨.none, z1⟩, ⟨_, z2, rfl, rfl⟩, Nat.succ_ne_self _⟩, fun b hb => I1.fpOk (two b hb) (I1.hok.fresh (two b hb)), q⟩

/-- (0, d0), (1, d1), .. -/
def dEnum (ds : List D) : List D := (List.range ds.length).map fun i => .tup [.int (i : Nat), (ds[i]?).getD .non]
theorem dEnum_get {ds : List D} {i : Nat} {d : D} (h : (dEnum ds)[i]? = some d) : ∃ x, ds[i]? = some x ∧ d = .tup [.int (i : Nat), x] := by
  unfold dEnum at h
  rw [List.getElem?_map] at h
  obtain ⟨j, h1, h2⟩ := map_some' h
  obtain ⟨hj, h3⟩ := List.getElem?_eq_some_iff.mp h1
  have hj : i < ds.length := by simpa using hj
  have : j = i := by simpa using h3.symm
  subst this
  refine ⟨ds[j], by simp [hj], ?_⟩
  rw [← h2]; simp [hj]
theorem dEnum_len (ds : List D) : (dEnum ds).length = ds.length := by simp [dEnum]
section
variable {K : PySem.W.Frag} {F : Hp} {a : Addr} {vs : List V} {ds : List D}
theorem pair_yld {G H F2 : Hp} {ρ : Sto} {σ : L2.St} {i : Nat} {T : Addr} {d : D} {x : V} (R : Rel K G ρ σ H F2) (hT : H T = none) (rx : Rp K F2 d x) :
    ∃ F', Same F2 F' ∧ Same H (L2.upd H T (.tup [.int (i : Nat), x])) ∧ Rel K G ρ σ (L2.upd H T (.tup [.int (i : Nat), x])) F' ∧ Rp K F' (.tup [.int (i : Nat), d]) (.ref T) := by
  obtain ⟨R1, f1, h1, r1⟩ := R.putTup (ds := [.int (i : Nat), d]) (vs := [.int (i : Nat), x]) (RpL.cons Rp.mkint (RpL.cons rx RpL.nil)) hT
  exact ⟨_, f1, h1, R1, r1⟩
theorem itv_enumL (h : SqL K F a vs) (r : RpL K F ds vs) : ItV K (Ite K a) (dEnum ds) F := by
  have hl := RpL.length r
  refine ⟨fun i H F' hi s1 s2 => ?_, fun H F' s1 s2 => ⟨vs, Same.seq (s1.trans s2) h, by rw [dEnum_len]; omega⟩, fun i H x H' y d q G ρ σ F' s1 R => ?_⟩
  · rw [dEnum_len] at hi
    exact ⟨vs, vs[i]'(by omega), Same.seq (s1.trans s2) h, by simp [show i < vs.length by omega]⟩
  · obtain ⟨T, u, rfl, hT, rfl, y⟩ := y
    obtain ⟨e, q1, rfl⟩ := dEnum_get q
    have eu := y vs (Same.seq (s1.trans R.sub) h)
    exact pair_yld R hT (Rp.mono s1 _ _ (RpL.get2 r i e u q1 eu))
theorem itv_enumT (h : SqT K F a vs) (r : RpL K F ds vs) : ItV K (IteT K a) (dEnum ds) F := by
  have hl := RpL.length r
  refine ⟨fun i H F' hi s1 s2 => ?_, fun H F' s1 s2 => ⟨vs, Same.tupT (s1.trans s2) h, by rw [dEnum_len]; omega⟩, fun i H x H' y d q G ρ σ F' s1 R => ?_⟩
  · rw [dEnum_len] at hi
    exact ⟨vs, vs[i]'(by omega), Same.tupT (s1.trans s2) h, by simp [show i < vs.length by omega]⟩
  · obtain ⟨T, u, rfl, hT, rfl, y⟩ := y
    obtain ⟨e, q1, rfl⟩ := dEnum_get q
    have eu := y vs (Same.tupT (s1.trans R.sub) h)
    exact pair_yld R hT (Rp.mono s1 _ _ (RpL.get2 r i e u q1 eu))
end
def vEnum (f : Sto → Option D) : Sto → Option (List D) := fun ρ => ((f ρ).bind dItems).map dEnum
theorem ip_enum {X : Cx} {e : Expr} {f : Sto → Option D} {p pos tpos : Pos} {elts : List Expr} {kk : Nat} (hg : Gl X "enumerate") (hm : X.mg "enumerate" = none) (ha : PV X .z e f) (hs : starEach [e] X.env = [(false, eval e X.env)] := by rfl) :
    IPV X (.Tuple elts kk tpos) (.Call (.Name "enumerate" p) [e] [] pos) (vEnum f) := by
  refine pi_imp (pi_enumA hg hm (pa_cons ha pa_nil hs) hs) fun σ H Q ⟨G, ρ, F, ds, q, R, k⟩ => ?_
  unfold vEnum at q
  obtain ⟨ys, q1, rfl⟩ := map_some' q
  obtain ⟨x, q2, q3⟩ := bind_some' q1
  refine ⟨G, ρ, F, x, q2, R, fun v H1 F1 f1 h1 R1 ⟨fp, r1⟩ => ?_⟩
  cases x <;> simp only [dItems] at q3 <;> cases q3
  · obtain ⟨a, vs, rfl, h3, h4⟩ := r1.1.tup
    exact ⟨a, vs, rfl, .inr ⟨Same.tupT R1.sub h3, k _ H1 F1 f1 h1 R1 (itv_enumT h3 h4)⟩⟩
  · obtain ⟨a, vs, rfl, h3, h4⟩ := r1.1.lst
    exact ⟨a, vs, rfl, .inl ⟨Same.seq R1.sub h3, k _ H1 F1 f1 h1 R1 (itv_enumL h3 h4)⟩⟩
end VL

set_option Elab.async false
set_option linter.all false
set_option maxRecDepth 100000
/-! VLk: ==, in, chains, isinstance, slices, dict comprehensions, comprehensions stored by a name. -/
noncomputable section
namespace VL
open PySem PySem.Spec PyProof.Rows L2

/-! ### == -/
mutual
def toPy : D → Option PyData
  | .non => some .none
  | .bl b => some (.bool b)
  | .int i => some (.int i)
  | .str x => some (.str x)
  | .tup ds => (toPyL ds).map .tuple
  | .lst ds => (toPyL ds).map .list
  | _ => none
def toPyL : List D → Option (List PyData)
  | [] => some []
  | d :: ds => match toPy d, toPyL ds with
    | some p, some ps => some (p :: ps)
    | _, _ => none
end
section
variable {K : PySem.W.Frag} {F : Hp}
mutual
theorem toPy_dp : ∀ (d : D) (p : PyData) (v : V), toPy d = some p → Rp K F d v → Dp K F v p
  | .non, p, v, h, r => by simp only [toPy, Option.some.injEq] at h; subst h; rw [Rp.non r]; exact .non
  | .bl b, p, v, h, r => by simp only [toPy, Option.some.injEq] at h; subst h; rw [Rp.bl r]; exact .bl b
  | .int b, p, v, h, r => by simp only [toPy, Option.some.injEq] at h; subst h; rw [Rp.int r]; exact .int b
  | .str b, p, v, h, r => by simp only [toPy, Option.some.injEq] at h; subst h; rw [Rp.str r]; exact .str b
  | .tup ds, p, v, h, r => by
    simp only [toPy] at h
    obtain ⟨ps, h1, rfl⟩ := map_some' h
    obtain ⟨a, vs, rfl, h2, h3⟩ := r.tup
    exact .tup h2 (toPyL_dp ds ps vs h1 h3)
  | .lst ds, p, v, h, r => by
    simp only [toPy] at h
    obtain ⟨ps, h1, rfl⟩ := map_some' h
    obtain ⟨a, vs, rfl, h2, h3⟩ := r.lst
    exact .lst h2 (toPyL_dp ds ps vs h1 h3)
  | .dicK _ _, p, v, h, r => by simp [toPy] at h
  | .dicT _ _, p, v, h, r => by simp [toPy] at h
  | .obj _ _ _, p, v, h, r => by simp [toPy] at h
  | .fn _, p, v, h, r => by simp [toPy] at h
theorem toPyL_dp : ∀ (ds : List D) (ps : List PyData) (vs : List V), toPyL ds = some ps → RpL K F ds vs → DpAll K F vs ps
  | [], ps, vs, h, r => by simp only [toPyL, Option.some.injEq] at h; subst h; rw [RpL.nil_inv r]; exact .nil
  | d :: ds, ps, vs, h, r => by
    obtain ⟨v, t, rfl, h1, h2⟩ := RpL.cons_inv r
    simp only [toPyL] at h
    split at h
    · rename_i p qs e1 e2
      cases h
      exact .cons (toPy_dp d p v e1 h1) (toPyL_dp ds qs t e2 h2)
    · cases h
end
end
/-- a == b as Python says it of data -/
def deq (x y : D) : Option Bool := match x, y with
  | .int i, .int j => some (i == j)
  | .bl i, .bl j => some (i == j)
  | .non, .non => some true
  | x, y => match toPy x, toPy y with
    | some p, some q => if SeqAt.shaped p && SeqAt.shaped q then some (PyData.eqv p q) else none
    | _, _ => none
theorem deq_some {x y : D} {b : Bool} (h : deq x y = some b) : ∃ p q, toPy x = some p ∧ toPy y = some q ∧ SeqAt.shaped p = true ∧ SeqAt.shaped q = true ∧ PyData.eqv p q = b := by
  unfold deq at h
  split at h
  · rename_i i j; cases h; exact ⟨.int i, .int j, rfl, rfl, rfl, rfl, by simp only [PyData.eqv]⟩
  · rename_i i j; cases h; exact ⟨.bool i, .bool j, rfl, rfl, rfl, rfl, by simp only [PyData.eqv]⟩
  · cases h; exact ⟨.none, .none, rfl, rfl, rfl, rfl, by simp only [PyData.eqv]⟩
  · split at h
    · rename_i p q e1 e2
      split at h
      · rename_i hs
        simp only [Bool.and_eq_true] at hs
        cases h
        exact ⟨p, q, e1, e2, hs.1, hs.2, rfl⟩
      · cases h
    · cases h
def dEq (x y : D) : Option D := (deq x y).map .bl
def dNe (x y : D) : Option D := (deq x y).map fun b => .bl (!b)
section
variable {K : PySem.W.Frag} {s1 s2 : Sh}
theorem od_eq : OpD K s1 s2 (rEqD K) dEq := by
  intro x y d q G ρ σ H F v u Q R hx hy kk
  obtain ⟨b, q1, rfl⟩ := map_some' q
  obtain ⟨p, r, h1, h2, h3, h4, rfl⟩ := deq_some q1
  exact ⟨p, r, toPy_dp x p v h1 (Ow.whole R hx), toPy_dp y r u h2 (Ow.whole R hy), h3, h4, kk _ H F (Same.refl _) (Same.refl _) R Rp.mkbl⟩
theorem od_ne : OpD K s1 s2 (rNeD K) dNe := by
  intro x y d q G ρ σ H F v u Q R hx hy kk
  obtain ⟨b, q1, rfl⟩ := map_some' q
  obtain ⟨p, r, h1, h2, h3, h4, rfl⟩ := deq_some q1
  exact ⟨p, r, toPy_dp x p v h1 (Ow.whole R hx), toPy_dp y r u h2 (Ow.whole R hy), h3, h4, kk _ H F (Same.refl _) (Same.refl _) R Rp.mkbl⟩
/-- x is None -/
def isN : D → Bool
  | .non => true
  | _ => false
def dIsN : D → D → Option D
  | x, .non => some (.bl (isN x))
  | _, _ => none
def dNotN : D → D → Option D
  | x, .non => some (.bl (!isN x))
  | _, _ => none
theorem isNon {F : Hp} {x : D} {v : V} (h : Rp K F x v) : decide (v = .non) = isN x := by
  cases x <;> simp only [Rp] at h
  · rw [h]; rfl
  · rw [h]; rfl
  · rw [h]; rfl
  · rw [h]; rfl
  · obtain ⟨a, _, rfl, _⟩ := h; rfl
  · obtain ⟨a, _, rfl, _⟩ := h; rfl
  · obtain ⟨a, _, rfl, _⟩ := h; rfl
  · obtain ⟨a, _, rfl, _⟩ := h; rfl
  · obtain ⟨a, _, _, rfl, _⟩ := h; rfl
  · rw [h]; rfl
  · obtain ⟨a, _, rfl, _⟩ := h; rfl
theorem od_isN : OpD K s1 s2 (fun x y H Q => y = .non ∧ Q (.bl (decide (x = .non))) H) dIsN := by
  intro x y d q G ρ σ H F v u Q R hx hy kk
  cases y <;> simp only [dIsN] at q <;> cases q
  refine ⟨(Ow.whole R hy).non, ?_⟩
  rw [isNon (Ow.whole R hx)]
  exact kk _ H F (Same.refl _) (Same.refl _) R Rp.mkbl
theorem od_notN : OpD K s1 s2 (fun x y H Q => y = .non ∧ Q (.bl (!decide (x = .non))) H) dNotN := by
  intro x y d q G ρ σ H F v u Q R hx hy kk
  cases y <;> simp only [dNotN] at q <;> cases q
  refine ⟨(Ow.whole R hy).non, ?_⟩
  rw [isNon (Ow.whole R hx)]
  exact kk _ H F (Same.refl _) (Same.refl _) R Rp.mkbl
/-- x in xs, flat things -/
def flatD : D → Option V
  | .non => some .non
  | .bl b => some (.bl b)
  | .int i => some (.int i)
  | .str x => some (.str x)
  | _ => none
def flatDs : List D → Option (List V)
  | [] => some []
  | d :: ds => match flatD d, flatDs ds with
    | some v, some vs => some (v :: vs)
    | _, _ => none
theorem flatD_rp {F : Hp} {d : D} {v u : V} (h : flatD d = some v) (r : Rp K F d u) : u = v ∧ flatV v = true := by
  cases d <;> simp only [flatD] at h <;> cases h <;> simp only [Rp] at r <;> exact ⟨r, rfl⟩
theorem flatDs_rp {F : Hp} : ∀ {ds : List D} {vs us : List V}, flatDs ds = some vs → RpL K F ds us → us = vs ∧ vs.all flatV = true
  | [], vs, us, h, r => by cases h; exact ⟨RpL.nil_inv r, rfl⟩
  | d :: ds, vs, us, h, r => by
    obtain ⟨u, t, rfl, h1, h2⟩ := RpL.cons_inv r
    simp only [flatDs] at h
    split at h
    · rename_i v ws e1 e2
      cases h
      obtain ⟨rfl, f1⟩ := flatD_rp e1 h1
      obtain ⟨rfl, f2⟩ := flatDs_rp e2 h2
      exact ⟨rfl, by simp [f1, f2]⟩
    · cases h
def din (x y : D) : Option Bool := match flatD x, dItems y with
  | some v, some ds => (flatDs ds).map fun vs => inV v vs
  | _, _ => none
def dIn (x y : D) : Option D := (din x y).map .bl
def dNotIn (x y : D) : Option D := (din x y).map fun b => .bl (!b)
theorem din_rp {G H F : Hp} {ρ : Sto} {σ : L2.St} {x y : D} {v u : V} {b : Bool} (R : Rel K G ρ σ H F) (h : din x y = some b) (hx : ∃ fp, Ow K H F s1 x v fp) (hy : ∃ fp, Ow K H F s2 y u fp) :
    ∃ p xs, u = .ref p ∧ (SqL K H p xs ∨ SqT K H p xs) ∧ flatV v = true ∧ xs.all flatV = true ∧ inV v xs = b := by
  unfold din at h
  split at h
  · rename_i w ds e1 e2
    obtain ⟨vs, e3, rfl⟩ := map_some' h
    obtain ⟨rfl, f1⟩ := flatD_rp e1 (Ow.whole R hx)
    have hy := Ow.whole R hy
    cases y <;> simp only [dItems] at e2 <;> cases e2
    · obtain ⟨a, us, rfl, h3, h4⟩ := hy.tup
      obtain ⟨rfl, f2⟩ := flatDs_rp e3 h4
      exact ⟨a, us, rfl, .inr h3, f1, f2, rfl⟩
    · obtain ⟨a, us, rfl, h3, h4⟩ := hy.lst
      obtain ⟨rfl, f2⟩ := flatDs_rp e3 h4
      exact ⟨a, us, rfl, .inl h3, f1, f2, rfl⟩
  · cases h
theorem od_in : OpD K s1 s2 (rIn K false) dIn := by
  intro x y d q G ρ σ H F v u Q R hx hy kk
  obtain ⟨b, q1, rfl⟩ := map_some' q
  obtain ⟨p, xs, rfl, h1, h2, h3, rfl⟩ := din_rp R q1 hx hy
  exact ⟨p, xs, rfl, h1, h2, h3, kk _ H F (Same.refl _) (Same.refl _) R Rp.mkbl⟩
theorem od_notIn : OpD K s1 s2 (rIn K true) dNotIn := by
  intro x y d q G ρ σ H F v u Q R hx hy kk
  obtain ⟨b, q1, rfl⟩ := map_some' q
  obtain ⟨p, xs, rfl, h1, h2, h3, rfl⟩ := din_rp R q1 hx hy
  exact ⟨p, xs, rfl, h1, h2, h3, kk _ H F (Same.refl _) (Same.refl _) R Rp.mkbl⟩
end

/-! ### a < b < c -/
def vChain (g g' : D → D → Option D) (fa fb fc : Sto → Option D) : Sto → Option D := fun ρ => (fa ρ).bind fun x => (fb ρ).bind fun y => match g x y with
  | some (.bl true) => (fc ρ).bind fun z => g' y z
  | some (.bl false) => some (.bl false)
  | _ => none
section
variable {X : Cx} {a b c : Expr} {fa fb fc : Sto → Option D} {r r' : R2} {g g' : D → D → Option D} {pos : Pos} {op op' : CmpOp}
theorem tChain_pv (hg : OpD X.K .z .z r g) (hg' : OpD X.K .z .z r' g') (σ : L2.St) (H : Hp) (Q : VK) (h : tP X.K .z (vChain g g' fa fb fc) σ H Q) : tChain r r' (tP X.K .z fa) (tP X.K .z fb) (tP X.K .z fc) σ H Q := by
  obtain ⟨G, ρ, F, d, q, R, k⟩ := h
  unfold vChain at q
  obtain ⟨x, q1, q⟩ := bind_some' q
  obtain ⟨y, q2, q⟩ := bind_some' q
  refine ⟨G, ρ, F, x, q1, R, fun v H1 F1 f1 h1 R1 r1 => ?_⟩
  refine ⟨G, ρ, F1, y, q2, R1, fun u H2 F2 f2 h2 R2 r2 => ?_⟩
  split at q
  · rename_i q3
    obtain ⟨z, q4, q5⟩ := bind_some' q
    refine hg x y _ q3 G ρ σ H2 F2 v u _ R2 (Ow.keep r1 f2 h2) r2 fun w H3 F3 f3 h3 R3 r3 => ⟨true, r3.bl, ?_⟩
    simp only [if_true]
    refine ⟨G, ρ, F3, z, q4, R3, fun t H4 F4 f4 h4 R4 r4 => ?_⟩
    exact hg' y z d q5 G ρ σ H4 F4 u t Q R4 (Ow.keep (Ow.keep r2 f3 h3) f4 h4) r4 fun w H5 F5 f5 h5 R5 r5 => k w H5 F5 (f1.trans (f2.trans (f3.trans (f4.trans f5)))) (h1.trans (h2.trans (h3.trans (h4.trans h5)))) R5 ⟨[], r5, rfl⟩
  · rename_i q3
    cases q
    refine hg x y _ q3 G ρ σ H2 F2 v u _ R2 (Ow.keep r1 f2 h2) r2 fun w H3 F3 f3 h3 R3 r3 => ⟨false, r3.bl, ?_⟩
    simp only [Bool.false_eq_true, if_false]
    exact k _ H3 F3 (f1.trans (f2.trans f3)) (h1.trans (h2.trans h3)) R3 ⟨[], Rp.mkbl, rfl⟩
  · cases q
theorem pv_chain (ho : OpR X (compareOp op) r) (ho' : OpR X (compareOp op') r') (hg : OpD X.K .z .z r g) (hg' : OpD X.K .z .z r' g') (ha : PV X .z a fa) (hb : PV X .z b fb) (hc : PV X .z c fc)
    (hm : lastMarks [op, op'] [b, c] = false := by with_unfolding_all rfl) : PV X .z (.Compare a [op, op'] [b, c] pos) (vChain g g' fa fb fc) := pe_imp (pe_chain ho ho' ha hb hc hm) (tChain_pv hg hg')
theorem pt_chainV (ho : OpR X (compareOp op) r) (ho' : OpR X (compareOp op') r') (hg : OpD X.K .z .z r g) (hg' : OpD X.K .z .z r' g') (ha : PV X .z a fa) (hb : PV X .z b fb) (hc : PV X .z c fc)
    (hm : lastMarks [op, op'] [b, c] = false := by with_unfolding_all rfl) : PTV X (.Compare a [op, op'] [b, c] pos) (vB (vChain g g' fa fb fc)) := by
  refine pt_imp (pt_chain ho ho' ha hb hc hm) fun σ H Q ⟨G, ρ, F, d, q, R, k⟩ => ?_
  unfold vB at q
  split at q
  · rename_i d' q1
    cases q
    exact tChain_pv hg hg' σ H _ ⟨G, ρ, F, _, q1, R, fun v H1 F1 f1 h1 R1 ⟨fp, r1⟩ => ⟨d, r1.1.bl, k H1 F1 f1 h1 R1⟩⟩
  · cases q
end

/-! ### isinstance with a built-in class -/
def tyName : D → Option String
  | .non => some "NoneType"
  | .bl _ => some "bool"
  | .int _ => some "int"
  | .str _ => some "str"
  | .tup _ => some "tuple"
  | .lst _ => some "list"
  | .dicK _ _ => some "dict"
  | _ => none
theorem tyx_of {K : PySem.W.Frag} {H : Hp} {d : D} {v : V} {t : String} (h : tyName d = some t) (r : Rp K H d v) : TyX K H v (.type t) := by
  cases d <;> simp only [tyName] at h <;> cases h
  · rw [r.non]; exact .base .non
  · rw [r.bl]; exact .base (.bl _)
  · rw [r.int]; exact .base (.int _)
  · rw [r.str]; exact .base (.str _)
  · obtain ⟨a, vs, rfl, h3, _⟩ := r.tup
    rcases h3 with (h3 | ⟨o, h3⟩) | ⟨o, its, n, h3, h4, _⟩
    · exact .base (.tup h3)
    · exact .fTuple h3
    · exact .kTuple h3 h4
  · obtain ⟨a, vs, rfl, h3, _⟩ := r.lst
    rcases h3 with (h3 | ⟨o, h3⟩) | ⟨o, its, n, h3, h4, _⟩
    · exact .base (.lst h3)
    · exact .base (.frz h3)
    · exact .kList h3 h4
  · simp only [Rp] at r
    obtain ⟨a, vs, rfl, h3, _⟩ := r
    rcases h3 with h3 | ⟨o, h3⟩
    · exact .base (.dK h3)
    · exact .fDict h3
def tyNames : List String := ["NoneType", "bool", "int", "str", "tuple", "list", "dict"]
def isTab (t T : String) : Bool := t == T || (t == "bool" && T == "int")
/-- isinstance(x, T), by the name of T -/
def isT (T : String) (d : D) : Option Bool := (tyName d).map fun t => isTab t T
theorem tyName_mem {d : D} {t : String} (h : tyName d = some t) : t ∈ tyNames := by
  cases d <;> simp only [tyName] at h <;> cases h <;> decide
theorem isT_tab {T : String} {d : D} {b : Bool} (h : isT T d = some b) : ∃ t, tyName d = some t ∧ t ∈ tyNames ∧ b = isTab t T := by
  obtain ⟨t, h1, rfl⟩ := map_some' h
  exact ⟨t, h1, tyName_mem h1, rfl⟩
def KitT (T : String) : Prop := ∀ t ∈ tyNames, kitB t T = some (isTab t T)
theorem kit_int : KitT "int" := by unfold KitT; decide +kernel
theorem kit_bool : KitT "bool" := by unfold KitT; decide +kernel
theorem kit_str : KitT "str" := by unfold KitT; decide +kernel
theorem kit_tuple : KitT "tuple" := by unfold KitT; decide +kernel
theorem kit_list : KitT "list" := by unfold KitT; decide +kernel
theorem kit_dict : KitT "dict" := by unfold KitT; decide +kernel
def vIsi (T : String) (f : Sto → Option D) : Sto → Option D := fun ρ => (f ρ).bind fun x => (isT T x).map .bl
theorem pv_isi {X : Cx} {e : Expr} {f : Sto → Option D} {T : String} {y : Str} {p py pos : Pos} {s : Sh} (kT : KitT T) (hg : Gl X "isinstance") (hm : X.mg "isinstance" = none) (hgy : Gl X y) (hmy : X.mg y = none) (hvy : bootBuiltins y = some (.type T)) (hv : bootBuiltins "isinstance" = some (.builtin "isinstance")) (ha : PV X s e f)
    (hny : y ≠ "__name__" := by decide) (hdy : (y == ("__debug__" : Str)) = false := by decide) (he : starEach [e, .Name y py] X.env = (false, eval e X.env) :: starEach [.Name y py] X.env := by rfl) (he2 : starEach [.Name y py] X.env = (false, eval (.Name y py) X.env) :: starEach [] X.env := by rfl) (hpl : (backTo pos (starEach [.Name y py] X.env)).any (·.1) = false := by rfl) :
    PV X .z (.Call (.Name "isinstance" p) [e, .Name y py] [] pos) (vIsi T f) := by
  refine pe_imp (pe_callB call_isi hg hm hv (pa_cons ha (pa_cons (pe_bltn (v := .ty T) hgy hmy hvy rfl hny hdy) pa_nil he2) he) (by decide) (by decide) he hpl) fun σ H Q ⟨G, ρ, F, d, q, R, k⟩ => ?_
  unfold vIsi at q
  obtain ⟨x, q1, q2⟩ := bind_some' q
  obtain ⟨b, q3, rfl⟩ := map_some' q2
  obtain ⟨t, e1, e2, rfl⟩ := isT_tab q3
  exact ⟨G, ρ, F, x, q1, R, fun v H1 F1 f1 h1 R1 r1 => ⟨v, .ty T, .type t, .type T, _, rfl, .ty T, tyx_of e1 (Ow.whole R1 r1), kit_ty (kT t e2), k _ H1 F1 f1 h1 R1 ⟨[], Rp.mkbl, rfl⟩⟩⟩

/-! ### slices -/
def cutG {α : Type} (xs : List α) (lo hi : Option Int) : List α := (xs.drop (HT.sIx xs.length 0 lo)).take (HT.sIx xs.length xs.length hi - HT.sIx xs.length 0 lo)
theorem RpL.cut {K : PySem.W.Frag} {F : Hp} {ds : List D} {vs : List V} (h : RpL K F ds vs) (lo hi : Option Int) : RpL K F (cutG ds lo hi) (cutV vs lo hi) := by
  unfold cutG cutV
  rw [RpL.length h]
  exact (h.drop _).take _
def tPO (K : PySem.W.Frag) (f : Sto → Option (Option Int)) : TO := fun σ H Q => ∃ G ρ F o, f ρ = some o ∧ Rel K G ρ σ H F ∧ ∀ H' F', Same F F' → Same H H' → Rel K G ρ σ H' F' → Q o H'
def oNone : Sto → Option (Option Int) := fun _ => some none
def oSome (f : Sto → Option D) : Sto → Option (Option Int) := fun ρ => match f ρ with
  | some (.int i) => some (some i)
  | _ => none
section
variable {X : Cx} {e : Expr} {f : Sto → Option D} {fe : Sto → Option (D × Sto)} {pos p2 : Pos}
abbrev POV (X : Cx) (e : Option Expr) (f : Sto → Option (Option Int)) : Prop := PO X e (tPO X.K f)
theorem po_imp {e : Option Expr} {t t' : TO} (h : PO X e t) (k : ∀ σ H Q, t' σ H Q → t σ H Q) : PO X e t' := ⟨fun pins s σ H Q I q => h.run pins s σ H Q I (k σ H Q q)⟩
theorem pov_none : POV X none oNone := po_imp po_none fun σ H Q ⟨G, ρ, F, o, q, R, k⟩ => by
  cases q
  exact k H F (Same.refl _) (Same.refl _) R
theorem pov_some (h : PV X .z e f) : POV X (some e) (oSome f) := by
  refine po_imp (po_some h) fun σ H Q ⟨G, ρ, F, o, q, R, k⟩ => ?_
  unfold oSome at q
  split at q
  · rename_i i q1
    cases q
    exact ⟨G, ρ, F, _, q1, R, fun v H1 F1 f1 h1 R1 ⟨fp, r1⟩ => ⟨i, r1.1.int, k H1 F1 f1 h1 R1⟩⟩
  · cases q
/-- t[lo:hi] of a tuple; of a list (told frozen) -/
def vCut (f : Sto → Option D) (fl fh : Sto → Option (Option Int)) : Sto → Option D := fun ρ => (f ρ).bind fun x => (fl ρ).bind fun lo => (fh ρ).bind fun hi => match x with
  | .tup ds => some (.tup (cutG ds lo hi))
  | .lst ds => some (.lst (cutG ds lo hi))
  | _ => none
theorem Rel.putLst {K : PySem.W.Frag} {G H F : Hp} {ρ : Sto} {σ : L2.St} {ds : List D} {vs : List V} {p : Addr} (R : Rel K G ρ σ H F) (r : RpL K F ds vs) (hp : H p = none) :
    ∃ F', Same F F' ∧ Same H (L2.upd H p (.lst vs)) ∧ Rel K G ρ σ (L2.upd H p (.lst vs)) F' ∧ Rp K F' (.lst ds) (.ref p) := by
  obtain ⟨F', f1, R1, r1⟩ := (R.addLst r hp).freeze
  exact ⟨F', f1, Same.upd hp, R1.drop, r1⟩
theorem pv_cut {lo hi : Option Expr} {fl fh : Sto → Option (Option Int)} {s : Sh} (hs : flat1 s = true) (he : PV X s e f) (hl : POV X lo fl) (hh : POV X hi fh) : PV X .z (.Subscript e (.Slice lo hi none p2) pos) (vCut f fl fh) := by
  refine pe_imp (pe_slice (sl_list.or sl_tupA) he hl hh) fun σ H Q ⟨G, ρ, F, d, q, R, k⟩ => ?_
  unfold vCut at q
  obtain ⟨x, q1, q⟩ := bind_some' q
  obtain ⟨lo, q2, q⟩ := bind_some' q
  obtain ⟨hi, q3, q⟩ := bind_some' q
  refine ⟨G, ρ, F, x, q1, R, fun v H1 F1 f1 h1 R1 r1 => ?_⟩
  refine ⟨G, ρ, F1, lo, q2, R1, fun H2 F2 f2 h2 R2 => ?_⟩
  refine ⟨G, ρ, F2, hi, q3, R2, fun H3 F3 f3 h3 R3 => ?_⟩
  have r3 := Ow.keep (Ow.keep r1 f2 h2) f3 h3
  have ff := f1.trans (f2.trans f3)
  have hh := h1.trans (h2.trans h3)
  cases x <;> simp only at q <;> cases q
  · have rt := Ow.tupz r3
    obtain ⟨a, vs, rfl, h4, h5⟩ := rt.tup
    have hlen := RpL.length h5
    refine .inr ⟨a, vs, rfl, Same.tupT R3.sub h4, fun e => ?_, fun _ p hp => ?_⟩
    · have e2 : ∀ ds : List D, ds.length = vs.length → cutG ds lo hi = ds := fun ds hd => by
        unfold cutG
        rw [hd, e.1, e.2]
        simp [← hd]
      rw [e2 _ hlen] at k
      exact k _ H3 F3 ff hh R3 ⟨[], rt, rfl⟩
    · obtain ⟨R4, f4, h6, r4⟩ := R3.putTup (h5.cut lo hi) hp
      exact k _ _ _ (ff.trans f4) (hh.trans h6) R4 ⟨[], r4, rfl⟩
  · obtain ⟨a, vs, rfl, h4, h5⟩ := Ow.elems hs R3.sub r3
    refine .inl ⟨a, vs, rfl, h4, fun p hp => ?_⟩
    obtain ⟨F4, f4, h6, R4, r4⟩ := R3.putLst (h5.cut lo hi) hp
    exact k _ _ F4 (ff.trans f4) (hh.trans h6) R4 ⟨[], r4, rfl⟩
/-- xs[::-1] of a list -/
def dRev : D → Option D
  | .lst ds => some (.lst ds.reverse)
  | _ => none
theorem fp_rev {k : Nat} {p1 p3 p4 : Pos} {s : Sh} (hs : flat1 s = true) (he : PV X s e f) : FP X (.seq .z) (.Subscript e (.Slice none none (some (.UnaryOp .USub (.Constant (.int 1) k p1) p3)) p4) pos) (v1 dRev f) := by
  refine pe_imp (pe_revL he) fun σ H Q ⟨G, ρ, F, d, q, R, k⟩ => ?_
  obtain ⟨x, q1, q2⟩ := v1_some q
  cases x <;> simp only [dRev] at q2 <;> cases q2
  refine ⟨G, ρ, F, _, q1, R, fun v H1 F1 f1 h1 R1 r1 => ?_⟩
  obtain ⟨a, vs, rfl, h4, h5⟩ := Ow.elems hs R1.sub r1
  exact ⟨a, vs, rfl, h4, fun p hp => k _ _ F1 f1 (h1.trans (Same.upd hp)) (R1.addLst h5.reverse hp)⟩
end

/-! ### y = [..] on one line -/
section
variable {X : Cx} {rs s : Sh} {io : List Nat}
theorem sv_setLc {i : Nat} {y : Str} {py : Pos} {elt tg iter : Expr} {ifs : List Expr} {scope : Scope} {own : List (Str × Nat)} {ws : List Nat} {pos spos : Pos} {fi : Sto → Option (List D)} {g : D → Sto → Option Sto} {ft : Sto → Option Bool} {fe : Sto → Option D}
    (hc : X.calm = true) (hN : X.N.Nodup) (hy : X.N[i]? = some y) (hyl : X.env.scope.names.lookup y = some .local) (hsw : swapsWith (.ListComp elt [⟨tg, iter, ifs, 0⟩] scope pos) (some (.Name y py)) spos.line X.env = pure true)
    (hi : IPV X tg iter fi) (ok : BlkOk X.N X.env.scope scope own) (hg : Blk X scope fun Y => PGV Y ws tg g) (ht : Blk X scope fun Y => PTs Y ifs (tPT Y.K ft)) (he : Blk X scope fun Y => FP Y s elt fe)
    (hw : (ws.all fun j => (own.map (·.2)).contains j) = true) (hwi : io.contains i = false) (hs : ∀ x, foldedSetIterable iter X.env x = pure x := by intro _; rfl) :
    SV X rs io (.Assign [.Name y py] (.ListComp elt [⟨tg, iter, ifs, 0⟩] scope pos) spos) (sSet i (.seq s) (up (vLc (own.map (·.2)) fi g ft fe))) := by
  refine ps_imp (ps_setLc (te := tPF X.K s fe) (tt := tPT X.K ft) (g := tG X.K ws g) hc hN hy hyl hsw hi ok (fun s H C cl fp => (hg s H C cl fp).pg) ht he hs) fun Z σ H ⟨G, ρ, F, fl, q, R, k⟩ => ?_
  unfold sSet at q
  obtain ⟨⟨d, ρ1⟩, q1, rfl⟩ := map_some' q
  obtain ⟨q2, rfl⟩ := up_some q1
  refine tLc_of (hg ({} : Shared) (fun _ => none) 0 [] []).ok (fun j m => by simpa using List.all_eq_true.mp hw j m) σ H _ ⟨G, _, F, d, q2, R, fun v H1 F1 f1 h1 R1 => ?_⟩
  exact k _ H1 F1 f1 ((Dif.set (i := i)).pin (by simp at hwi ⊢; exact hwi)) R1.store
end

/-! ### {k: v for ..}, the keys ints or texts -/
def dKey : D → Option Key
  | .int i => some (.inl i)
  | .str x => some (.inr x)
  | _ => none
theorem dKey_rp {K : PySem.W.Frag} {F : Hp} {d : D} {k : Key} {v : V} (h : dKey d = some k) (r : Rp K F d v) : v = kV k := by
  cases d <;> simp only [dKey] at h <;> cases h
  · exact r.int
  · exact r.str
/-- d[k] = v, in its place or at the end -/
def dputK (ks : List L2.Key) (ds : List D) (k : L2.Key) (v : D) : List L2.Key × List D :=
  if (ks.any fun x => decide (x = k)) = true then (ks, (ks.zip ds).map fun p => if p.1 = k then v else p.2) else (ks ++ [k], ds ++ [v])
theorem dputK_len {ks : List L2.Key} {ds : List D} {k : L2.Key} {v : D} (h : ks.length = ds.length) : (dputK ks ds k v).1.length = (dputK ks ds k v).2.length := by
  unfold dputK
  split
  · simp [h]
  · simp [h]
theorem zip_repl {K : PySem.W.Frag} {F : Hp} {k : L2.Key} {d : D} {v : V} (r : Rp K F d v) : ∀ {ks : List L2.Key} {ds : List D} {vs : List V}, RpL K F ds vs → ks.length = ds.length →
    (ks.zip vs).map (fun kv => if kv.1 = k then (kv.1, v) else kv) = ks.zip ((ks.zip vs).map fun p => if p.1 = k then v else p.2) ∧ RpL K F ((ks.zip ds).map fun p => if p.1 = k then d else p.2) ((ks.zip vs).map fun p => if p.1 = k then v else p.2)
  | [], ds, vs, h, hl => ⟨rfl, RpL.nil⟩
  | x :: ks, [], vs, h, hl => by simp at hl
  | x :: ks, e :: ds, vs, h, hl => by
    obtain ⟨u, t, rfl, h1, h2⟩ := RpL.cons_inv h
    obtain ⟨i1, i2⟩ := zip_repl r (ks := ks) h2 (by simpa using hl)
    simp only [List.zip_cons_cons, List.map_cons, List.cons.injEq]
    refine ⟨⟨?_, i1⟩, RpL.cons ?_ i2⟩
    · split <;> rfl
    · split
      · exact r
      · exact h1
theorem zip_putK {K : PySem.W.Frag} {F : Hp} {ks : List L2.Key} {ds : List D} {vs : List V} {k : L2.Key} {d : D} {v : V} (h : RpL K F ds vs) (hl : ks.length = ds.length) (r : Rp K F d v) :
    ∃ us, putK (ks.zip vs) k v = (dputK ks ds k d).1.zip us ∧ RpL K F (dputK ks ds k d).2 us := by
  have hl2 := RpL.length h
  have hm : (ks.zip vs).map (·.1) = ks := by rw [List.map_fst_zip]; omega
  have ha : ((ks.zip vs).any fun kv => decide (kv.1 = k)) = (ks.any fun x => decide (x = k)) := by
    rw [← hm, List.any_map]
    rw [hm]
    rfl
  unfold dputK putK
  rw [ha]
  split
  · obtain ⟨i1, i2⟩ := zip_repl r h hl
    exact ⟨_, i1, i2⟩
  · exact ⟨vs ++ [v], by rw [List.zip_append (by omega)]; rfl, h.snoc r⟩
theorem dputK_le {ks : List L2.Key} {ds : List D} {k : L2.Key} {v : D} : (dputK ks ds k v).1.length ≤ ks.length + 1 := by
  unfold dputK
  split
  · exact Nat.le_succ _
  · simp
/-- what the turns leave -/
def dcL (g : D → Sto → Option Sto) (ft : Sto → Option Bool) (fk fv : Sto → Option D) (ρ : Sto) : List D → List L2.Key × List D → Option (List L2.Key × List D)
  | [], kd => some kd
  | x :: xs, kd => (g x ρ).bind fun ρ1 => (ft ρ1).bind fun b => if b then (fk ρ1).bind fun y => (dKey y).bind fun k => (fv ρ1).bind fun z => dcL g ft fk fv ρ xs (dputK kd.1 kd.2 k z) else dcL g ft fk fv ρ xs kd
def vDc (vs : List Nat) (fi : Sto → Option (List D)) (g : D → Sto → Option Sto) (ft : Sto → Option Bool) (fk fv : Sto → Option D) : Sto → Option D := fun ρ =>
  if PlainAt ρ vs then (fi ρ).bind fun ds => if ds.length ≤ 1000000 then (dcL g ft fk fv (wipeS ρ vs) ds ([], [])).map fun kd => .dicK kd.1 kd.2 else none else none
theorem tDc_of {K : PySem.W.Frag} {ws vs : List Nat} {fi : Sto → Option (List D)} {g : D → Sto → Option Sto} {ft : Sto → Option Bool} {fk fv : Sto → Option D} (gok : ∀ d ρ ρ', g d ρ = some ρ' → Kept ws ρ ρ') (hw' : ∀ j ∈ ws, j ∈ vs)
    (σ : L2.St) (H : Hp) (Q : VK) (h : tPF K (.seq .z) (vDc vs fi g ft fk fv) σ H Q) : tDc (tIP K fi) (tG K ws g) (tPT K ft) (tP K .z fk) (tP K .z fv) vs σ H Q := by
  obtain ⟨G, ρ, F, d, q, R, kq⟩ := h
  unfold vDc at q
  split at q
  · rename_i pl
    obtain ⟨ds, q1, q⟩ := bind_some' q
    split at q
    · rename_i hlen
      obtain ⟨kd, q2, rfl⟩ := map_some' q
      refine ⟨G, ρ, F, ds, q1, R, fun J H1 F1 f1 h1 R1 it => ?_⟩
      intro L hL
      have hF1 : F1 L = none := Same.free R1.sub hL
      have R1L : Rel K G (some (.seq .z, .dicK [] []) :: ρ) (some (.ref L) :: σ) (L2.upd H1 L (.dK [])) F1 := R1.addNew hL ⟨L, [], [], rfl, upd_same, rfl, ⟨rfl, rfl⟩, rfl⟩
      refine ⟨fun i m H' => m = ds.length - i ∧ i ≤ ds.length ∧ ∃ F' ks es, Same F1 F' ∧ Same H1 H' ∧ Rel K G (some (.seq .z, .dicK ks es) :: ρ) (some (.ref L) :: σ) H' F' ∧ dcL g ft fk fv (wipeS ρ vs) (ds.drop i) (ks, es) = some kd ∧ ks.length = es.length ∧ ks.length ≤ i,
        ⟨ds.length, by simp, Nat.zero_le _, F1, [], [], Same.refl _, Same.upd hL, R1L, by simpa using q2, rfl, Nat.le_refl _⟩, ?_⟩
      rintro i m H2 ⟨rfl, hi, F2, ks, es, f2, h2, R2, l2, hkl, al⟩
      by_cases hlt : i < ds.length
      · refine .inr ⟨it.go i H2 F2 hlt f2 R2.sub, fun H' => i + 1 ≤ ds.length ∧ ∃ F' ks es, Same F1 F' ∧ Same H1 H' ∧ Rel K G (some (.seq .z, .dicK ks es) :: ρ) (some (.ref L) :: σ) H' F' ∧ dcL g ft fk fv (wipeS ρ vs) (ds.drop (i + 1)) (ks, es) = some kd ∧ ks.length = es.length ∧ ks.length ≤ i + 1,
          fun H' p => ⟨ds.length - (i + 1), by omega, rfl, p⟩, fun x H3 y3 => ?_⟩
        have hd : ds[i]? = some ds[i] := by simp [hlt]
        obtain ⟨F3, f3, h3, R3, r3⟩ := it.yld i H2 x H3 y3 _ hd G _ _ F2 f2 R2
        rw [List.drop_eq_getElem_cons hlt] at l2
        obtain ⟨ρ1, p1, l2⟩ := bind_some' (show (g ds[i] (wipeS ρ vs)).bind _ = some kd from l2)
        obtain ⟨b, p2, l2⟩ := bind_some' l2
        obtain ⟨G', R4, back⟩ := R3.frame
        refine ⟨G', _, F3, _, ρ1, p1, R4.wipe vs, r3, fun σ5 H5 F5 f5 h5 d5 R5 => ⟨d5.wipe hw', ?_⟩⟩
        have d5' : Dif vs σ σ5 := ⟨by have := d5.len; rw [wipe_length] at this; exact this, fun j hj => by rw [d5.at' j fun m => hj (hw' j m), wipe_ne hj]⟩
        have dk : ∀ j, j ∉ vs → ρ1[j]? = ρ[j]? := fun j hj => by rw [(gok _ _ _ p1).2 j fun m => hj (hw' j m), wipeS_ne hj]
        refine ⟨G', ρ1, F5, b, p2, R5, fun H6 F6 f6 h6 R6 => ?_⟩
        cases b with
        | false =>
          simp only [Bool.false_eq_true, if_false] at l2 ⊢
          exact ⟨hlt, F6, ks, es, f2.trans (f3.trans (f5.trans f6)), h2.trans (h3.trans (h5.trans h6)), back ρ σ H6 F6 (f5.trans f6) (Rel.back R4 R6 (f5.trans f6) pl d5' dk), l2, hkl, by omega⟩
        | true =>
          simp only [if_true] at l2 ⊢
          obtain ⟨y, p3, l2⟩ := bind_some' l2
          obtain ⟨k, p4, l2⟩ := bind_some' l2
          obtain ⟨z, p5, l2⟩ := bind_some' l2
          refine ⟨G', ρ1, F6, y, p3, R6, fun vy H7 F7 f7 h7 R7 ⟨fy, ry⟩ => ?_⟩
          refine ⟨G', ρ1, F7, z, p5, R7, fun vz H8 F8 f8 h8 R8 ⟨fz, rz⟩ => ?_⟩
          have ff : Same F3 F8 := f5.trans (f6.trans (f7.trans f8))
          have hh : Same H1 H8 := h2.trans (h3.trans (h5.trans (h6.trans (h7.trans h8))))
          have R9 := back ρ σ H8 F8 ff (Rel.back R4 R8 ff pl d5' dk)
          obtain ⟨fps, w⟩ := R9
          obtain ⟨u0, e0, ow⟩ := w.slot 0 _ _ rfl
          simp at e0; subst e0
          obtain ⟨a, us, fp', ea, ha, hkl2, ho, hfp⟩ := ow
          cases ea
          obtain ⟨rl, rfl⟩ := OwL.unz ho
          obtain ⟨us', hp1, hp2⟩ := zip_putK (k := k) rl hkl rz.1
          have a0 : L ∈ fps 0 := by rw [hfp]; exact List.mem_cons_self
          have key := dKey_rp p4 ry.1
          refine ⟨ks.zip us, k, key, ha, ?_, hlt, F8, _, _, f2.trans (f3.trans ff), fun b o qb => ?_, ?_, l2, dputK_len hkl, Nat.le_trans dputK_le (Nat.succ_le_succ al)⟩
          · rw [List.length_zip, sizeLine_eq]; omega
          · rw [upd_ne (ne_of_none qb hL)]
            exact hh b o qb
          · rw [hp1]
            refine w.front (xs := [_]) (ys := [_]) (xs' := [_]) (ys' := [_]) rfl rfl (fun _ => [L]) (fun j s' d' q => ?_) (fun j _ => List.nodup_cons.mpr ⟨by simp, List.nodup_nil⟩) (fun j k b hj hk _ _ => by simp at hj hk; omega) (fun j b hj m => ⟨0, by simp, by rw [hfp]; exact m⟩) (fun b o hb e => ?_) (fun j b hj m => ?_)
            · cases j with
              | zero =>
                simp at q; obtain ⟨rfl, rfl⟩ := q
                exact ⟨_, rfl, L, us', [], rfl, upd_same, dputK_len hkl, OwL.z hp2, rfl⟩
              | succ j => simp at q
            · rw [upd_ne]
              · exact e
              · rintro rfl; exact hb 0 (by simp) a0
            · have : b = L := by simpa using m
              subst this; exact ⟨_, upd_same⟩
      · have e : i = ds.length := by omega
        subst e
        rw [List.drop_length] at l2
        cases l2
        exact .inl ⟨it.stop H2 F2 f2 R2.sub, kq _ H2 F2 (f1.trans f2) (h1.trans h2) R2⟩
    · cases q
  · cases q
theorem fp_dc {X : Cx} {kx vx tg iter : Expr} {ifs : List Expr} {scope : Scope} {own : List (Str × Nat)} {ws : List Nat} {pos : Pos} {fi : Sto → Option (List D)} {g : D → Sto → Option Sto} {ft : Sto → Option Bool} {fk fv : Sto → Option D}
    (hc : X.calm = true) (hN : X.N.Nodup) (hi : IPV X tg iter fi) (ok : BlkOk X.N X.env.scope scope own)
    (hg : Blk X scope fun Y => PGV Y ws tg g) (ht : Blk X scope fun Y => PTs Y ifs (tPT Y.K ft)) (hk : Blk X scope fun Y => PV Y .z kx fk) (he : Blk X scope fun Y => PV Y .z vx fv)
    (hw : (ws.all fun j => (own.map (·.2)).contains j) = true) (hs : ∀ x, foldedSetIterable iter X.env x = pure x := by intro _; rfl) :
    FP X (.seq .z) (.DictComp kx vx [⟨tg, iter, ifs, 0⟩] scope pos) (vDc (own.map (·.2)) fi g ft fk fv) :=
  pe_imp (pe_dc (tk := tP X.K .z fk) (tv := tP X.K .z fv) (tt := tPT X.K ft) (g := tG X.K ws g) hc hN hi ok (fun s H C cl fp => (hg s H C cl fp).pg) ht hk he hs)
    (tDc_of (hg ({} : Shared) (fun _ => none) 0 [] []).ok fun j m => by simpa using List.all_eq_true.mp hw j m)
end VL

set_option Elab.async false
set_option linter.all false
set_option maxRecDepth 100000
/-! VLs: set(a list of ints), sorted of it. -/
noncomputable section
namespace VL
open PySem PySem.Spec PyProof.Rows L2

section
variable {pr : Program} {wd : World} {A : Around} {E : Value → Shared → Prop} {s : Shared}
set_option maxHeartbeats 3200000 in
theorem set_of_list {l : Addr} {its : Array Value} (ns : List Int) {Q : Value → Shared → Prop} (hh : A.handled = none) (hl : s.heap.IsList l its) (hi : IntsAre its.toList ns) (hb : ns.length + 1 < scanBound)
    (kk : ∀ (h2 : Heap) (tk c : Nat), SetR wd h2 s.heap.objs.size (fun j => decide (j ∈ ns)) c → c ≤ ns.length → (∀ b o, s.heap.get? b = some o → h2.get? b = some o) → Q (.ref s.heap.objs.size) { s with heap := h2, toks := tk }) :
    wpAny (model pr wd) A (call (.type "set") [.ref l]) Q E s := by
  have sz : its.size = ns.length := by
    have z := IntsAre.length hi
    rwa [Array.length_toList] at z
  obtain ⟨oS, eS⟩ : ∃ o : Obj, o = { cls := .type "set", dict := none, data := .set #[] 0 (.fresh 0 0 (!wd.params.followText "set-order")) } := ⟨_, rfl⟩
  obtain ⟨_, _, mro⟩ := F.called_set.mro
  have made := F.called_set.made
  have subs := F.called_set.sub
  refine wpAny_call (codeAny_of_tree ?_)
  show wpAny _ _ (callAny (.type "set") _) _ _ _
  refine wpAny_pure ⟨Code.quiet_builtin _ (by decide +kernel), codeAny_builtin F.entry_type_call ?_⟩
  rw [Around.under_plain (weight_type_call_type "set" [.ref l] []) rfl]
  have nt := F.called_set.notType
  have cc := F.called_set.canCreate
  have ct := F.typeCall_set_1 (.ref l)
  repeat (any_goals (first | assumption | wp_step))
  refine codeAny_mono (code_set_led1 (.ref l) (E := E) (Q₁ := fun ob s₁ => ob = .ref s.heap.objs.size ∧ s₁ = { s with heap := s.heap.push oS }) ⟨rfl, by rw [eS]⟩) fun r s₁ hr => ?_
  cases r with
  | error e => exact hr
  | ok fl =>
    cases fl with
    | ret ob =>
      obtain ⟨rfl, rfl⟩ := hr
      have gS : (s.heap.push oS).get? s.heap.objs.size = some oS := Heap.get?_push_size _ (by rw [eS]; rfl)
      have cS : oS.cls = .type "set" := by rw [eS]
      have tS : Shared.TypeIs { s with heap := s.heap.push oS } (.ref s.heap.objs.size) "set" := ⟨_, gS, cS⟩
      have li := F.called_set.init.lookup
      have bi := F.called_set.init.bind (.ref s.heap.objs.size)
      repeat (any_goals (first | assumption | wp_step))
      refine codeAny_mono (codeAny_call_builtin (R := wants (fun r s₂ => r = .none ∧ ∃ h2 tk c, s₂ = { s with heap := h2, toks := tk } ∧ SetR wd h2 s.heap.objs.size (fun j => decide (j ∈ ns)) c ∧ c ≤ ns.length ∧
          (∀ b o, s.heap.get? b = some o → h2.get? b = some o)) E) F.called_set.init.plain F.entry_set_init (check_set_init_1 tS ?_)) fun r₂ s₂ hr₂ => ?_
      · obtain ⟨⟨ocl, odi, oda, osl⟩, holl, hcl, nl, hdl⟩ := hl
        simp only at hcl hdl
        subst hcl hdl
        have hol' : (s.heap.push oS).get? l = some { cls := .type "list", dict := odi, data := .seq its nl, slots := osl } := Heap.get?_push_of_some _ holl
        have q1 : ∀ (z : (Value.type "list" == Value.type "dict") = false), True := fun _ => trivial
        have ne : (Value.type "list" == Value.type "dict") = false := by decide
        have l1 : (s.heap.push oS).IsList l its := ⟨_, hol', rfl, nl, rfl⟩
        have ss1 := F.sub_list_set
        have ss2 := F.sub_list_frozenset
        have lS : l < s.heap.objs.size := Heap.lt_size holl
        have z1 : (s.heap.push oS).objs.size = s.heap.objs.size + 1 := Heap.size_push ..
        have neI : l ≠ (s.heap.push oS).objs.size := fun h => Nat.lt_irrefl l (Nat.lt_trans lS (by rw [show (l : Nat) = _ from h, z1]; exact Nat.lt_succ_self _))
        have nS : s.heap.objs.size ∉ [(s.heap.push oS).objs.size, l] := fun h => by
          rw [z1] at h
          rcases List.mem_cons.mp h with h | h
          · exact Nat.ne_of_lt (Nat.lt_succ_self _) h
          · exact Nat.ne_of_gt lS (List.mem_singleton.mp h)
        have eS' := eS
        clear nt cc ct li bi tS subs made mro
        subst eS
        unfold Builtin.«set.__init__» noKeywords Builtin.Frozenset.updateFrom
        generalize eP : pyIter = PI
        wp_walk
        subst eP
        refine wpAny_pyIter_list l1 ?_
        refine wpAny_bind (wpAny_runValue ?_)
        have val : ∀ (i : Nat) (v : Value), its[i]? = some v → ∃ k t, ns[i]? = some k ∧ v = .int k t := fun i v hv => by
          have hi' : i < ns.length := by rw [← sz]; exact (Array.getElem?_eq_some_iff.mp hv).1
          obtain ⟨t, e⟩ := PyProof.Rows.IntsAre.int_at hi i v (by rw [Array.getElem?_toList]; exact hv)
          exact ⟨ns[i], t, List.getElem?_eq_getElem hi', by rw [e, List.getD_eq_getElem?_getD, List.getElem?_eq_getElem hi']; rfl⟩
        refine set_update_ints ((Walks.list (show A.in1.in1.in1.handled = none by simp [hh]) _ l neI its).toS) s.heap.objs.size nS ns sz hb val (its.size - 0) 0 _ (by omega) (Nat.zero_le _) ⟨⟨_, Heap.get?_push_size _ rfl, rfl, rfl⟩, l1.push _⟩ ?start ?fin
        case start =>
          have g2 := Heap.get?_push_of_some ({ cls := .type "list_iterator", data := .fields #[.ref l, .int 0 0] } : Obj) gS
          exact ⟨0, Nat.le_refl 0, setR_new_at g2⟩
        case fin =>
          rintro ⟨h2, ge, dr, tk, os⟩ c hm hc hR
          have e1 : ge = s.gens := hm.gens
          have e2 : dr = s.drawn := hm.drawn
          have e3 : os = s.os := hm.os
          subst e1 e2 e3
          show wpAny _ _ _ _ _ _
          refine wpAny_pure ?_
          show wpAny _ _ (ret Value.none) _ _ _
          rw [sz] at hc
          refine wpAny_pure ⟨rfl, h2, tk, c, rfl, hR, hc, fun b o e => ?_⟩
          have b0 : b < s.heap.objs.size := Heap.lt_size e
          exact hm.heap b o (fun h => by
            rw [z1] at h
            rcases List.mem_cons.mp h with h | h
            · exact Nat.ne_of_lt b0 h
            · rcases List.mem_cons.mp h with h | h
              · exact Nat.ne_of_lt (Nat.lt_trans b0 (Nat.lt_succ_self _)) h
              · cases h) (Heap.get?_push_of_some _ (Heap.get?_push_of_some _ e))
      · cases r₂ with
        | error e => exact hr₂
        | ok fl₂ =>
          cases fl₂ with
          | ret r =>
            obtain ⟨rfl, h2, tk, c, rfl, a1, a2, a3⟩ := hr₂
            repeat (any_goals (first | assumption | wp_step))
            exact kk _ _ _ a1 a2 a3
          | _ => exact hr₂.elim
    | _ => exact hr.elim
end
end VL

set_option Elab.async false
set_option linter.all false
set_option maxRecDepth 100000
/-! VLt: sorted(set(xs)). -/
noncomputable section
namespace VL
open PySem PySem.Spec PyProof.Rows L2

/-! ### strictly sorted lists -/
def sins (x : Int) : List Int → List Int
  | [] => [x]
  | y :: ys => if x < y then x :: y :: ys else if x = y then y :: ys else y :: sins x ys
def sset : List Int → List Int
  | [] => []
  | x :: xs => sins x (sset xs)
theorem sins_mem {x k : Int} : ∀ {ys : List Int}, k ∈ sins x ys ↔ k = x ∨ k ∈ ys
  | [] => by simp [sins]
  | y :: ys => by
    unfold sins
    split
    · simp
    · split
      · rename_i h; subst h; simp
      · simp [sins_mem (ys := ys)]; constructor <;> (rintro (h | h | h) <;> simp [h])
theorem sins_sorted {x : Int} : ∀ {ys : List Int}, ys.Pairwise (· < ·) → (sins x ys).Pairwise (· < ·)
  | [], _ => by simp [sins]
  | y :: ys, h => by
    have h' := List.pairwise_cons.mp h
    unfold sins
    split
    · rename_i hx
      refine List.pairwise_cons.mpr ⟨fun k m => ?_, h⟩
      rcases List.mem_cons.mp m with rfl | m
      · exact hx
      · exact Int.lt_trans hx (h'.1 k m)
    · split
      · exact h
      · rename_i h1 h2
        refine List.pairwise_cons.mpr ⟨fun k m => ?_, sins_sorted h'.2⟩
        rcases sins_mem.mp m with rfl | m
        · omega
        · exact h'.1 k m
theorem sset_mem {k : Int} : ∀ {ns : List Int}, k ∈ sset ns ↔ k ∈ ns
  | [] => by simp [sset]
  | n :: ns => by simp [sset, sins_mem, sset_mem (ns := ns)]
theorem sset_sorted : ∀ (ns : List Int), (sset ns).Pairwise (· < ·)
  | [] => List.Pairwise.nil
  | n :: ns => sins_sorted (sset_sorted ns)
/-- strictly sorted with the same members: the same -/
theorem strict_ext : ∀ {xs ys : List Int}, xs.Pairwise (· < ·) → ys.Pairwise (· < ·) → (∀ k, k ∈ xs ↔ k ∈ ys) → xs = ys
  | [], [], _, _, _ => rfl
  | [], y :: ys, _, _, h => by have := (h y).mpr List.mem_cons_self; simp at this
  | x :: xs, [], _, _, h => by have := (h x).mp List.mem_cons_self; simp at this
  | x :: xs, y :: ys, hx, hy, h => by
    have hx' := List.pairwise_cons.mp hx
    have hy' := List.pairwise_cons.mp hy
    have e : x = y := by
      rcases List.mem_cons.mp ((h x).mp List.mem_cons_self) with e | e
      · exact e
      · rcases List.mem_cons.mp ((h y).mpr List.mem_cons_self) with e2 | e2
        · exact e2.symm
        · have a := hx'.1 y e2; have b := hy'.1 x e; omega
    subst e
    rw [strict_ext hx'.2 hy'.2 fun k => ?_]
    have := h k
    constructor
    · intro m
      rcases List.mem_cons.mp (this.mp (List.mem_cons_of_mem _ m)) with e | e
      · have := hx'.1 k m; omega
      · exact e
    · intro m
      rcases List.mem_cons.mp (this.mpr (List.mem_cons_of_mem _ m)) with e | e
      · have := hy'.1 k m; omega
      · exact e

def rSetL (K : PySem.W.Frag) (w : World) : List V → Hp → VK → Prop := fun vs H Q => ∃ (a : Addr) (ns : List Int), vs = [V.ref a] ∧ SqL K H a (ns.map V.int) ∧ ns.length + 1 < scanBound ∧
  ∀ (p : Addr) (c : Nat), H p = none → c ≤ ns.length → Q (.ref p) (L2.upd H p (SetO w p (fun j => decide (j ∈ ns)) c))
section
variable {X : Cx}
theorem cr_setL (hc : X.calm = true) : CallR X (.type "set") (rSetL X.K X.w) := by
  intro pins s σ H vs us Q I r h
  obtain ⟨a, ns, rfl, hs, hb, q⟩ := h
  obtain ⟨its, rv, hl, _⟩ := I.list hs
  rw [Vals.ref1 r]
  refine set_of_list ns (I.ok.hd hc) hl.isList (by simpa using rv.ints) hb fun h2 tk c R hc2 k => ?_
  exact ⟨.ref _, L2.upd H s.heap.objs.size (SetO X.w s.heap.objs.size _ c), I.laid (t' := tk) k (Nat.le_refl _) (setO_new R), rfl, q _ c (I.hok.fresh (Nat.le_refl _)) hc2⟩
def dSortedSet : D → Option D
  | .lst ds => (dInts ds).bind fun ns => if ns.length < 64 then some (.lst ((sset ns).map .int)) else none
  | _ => none
theorem scan64 {n : Nat} (h : n < 64) : n + 1 < scanBound := by
  have : (1000 : Nat) ≤ scanBound := by decide
  omega
theorem fp_sortedSet {e : Expr} {s : Sh} {f : Sto → Option D} {p1 p2 pos1 pos2 : Pos} (hc : X.calm = true) (hG : Gl X "sorted") (hm : X.mg "sorted" = none) (hG2 : Gl X "set") (hm2 : X.mg "set" = none)
    (hv : bootBuiltins "sorted" = some (.builtin "sorted")) (hv2 : bootBuiltins "set" = some (.type "set")) (ha : PV X s e f)
    (he : starEach (e :: []) X.env = (false, eval e X.env) :: starEach [] X.env := by rfl) (hpl : (backTo pos2 (starEach [] X.env)).any (·.1) = false := by rfl)
    (he1 : starEach (.Call (.Name "set" p2) [e] [] pos2 :: []) X.env = (false, eval (.Call (.Name "set" p2) [e] [] pos2) X.env) :: starEach [] X.env := by rfl) (hpl1 : (backTo pos1 (starEach [] X.env)).any (·.1) = false := by rfl) :
    FP X (.seq .z) (.Call (.Name "sorted" p1) [.Call (.Name "set" p2) [e] [] pos2] [] pos1) (v1 dSortedSet f) := by
  refine pe_imp (pe_callB (cr_sortedSet hc) hG hm hv (pa1 (pe_callTy (cr_setL hc) hG2 hm2 hv2 (pa1 ha he) (by decide) (by decide) he hpl) he1) (by decide) (by decide) he1 hpl1) fun σ H Q ⟨G, ρ, F, d, q, R, k⟩ => ?_
  obtain ⟨x, q1, q2⟩ := v1_some q
  cases x <;> simp only [dSortedSet] at q2 <;> try cases q2
  rename_i ds
  obtain ⟨ns, q3, q4⟩ := bind_some' q2
  split at q4
  · rename_i h64
    cases q4
    have hds := dInts_some q3
    subst hds
    refine ⟨G, ρ, F, _, q1, R, fun v H1 F1 f1 h1 R1 r1 => ?_⟩
    obtain ⟨a, vs, rfl, hS, hr⟩ := Rp.lst (Ow.whole R1 r1)
    have := RpL.ints_inv hr
    subst this
    refine ⟨a, ns, rfl, hS, scan64 h64, fun p c hp hcl => ?_⟩
    refine ⟨p, _, c, rfl, upd_same, by omega, fun ms p2 hs hmem hlen hp2 => ?_⟩
    have e : ms = sset ns := strict_ext hs (sset_sorted ns) fun k => by rw [hmem, sset_mem]; simp
    subst e
    have R2 : Rel X.K G ρ σ _ F1 := R1.grow (Same.upd (o := SetO X.w p (fun j => decide (j ∈ ns)) c) hp)
    exact k _ _ F1 f1 (h1.trans ((Same.upd hp).trans (Same.upd hp2))) (R2.addLst (RpL.ints _) hp2)
  · cases q4
end
end VL

set_option Elab.async false
set_option linter.all false
set_option maxRecDepth 100000
/-! VLm: what the printed walks lean on. -/
noncomputable section
namespace VL
open PySem PySem.Spec PyProof.Rows L2
def visb (sc : Scope) (x : Str) : Bool := match sc.names.lookup x with
  | some .local => true | some .cell => true | some .free => true | _ => false
theorem vis_of {sc : Scope} {x : Str} (h : visb sc x = true) : Vis sc x := by
  unfold visb at h
  unfold Vis
  split at h <;> simp_all
def locb (sc : Scope) (x : Str) : Bool := match sc.names.lookup x with
  | some .local => true | some .cell => true | _ => false
theorem loc_of {sc : Scope} {x : Str} (h : locb sc x = true) : L2.Loc sc x := by
  unfold locb at h
  unfold L2.Loc
  split at h <;> simp_all
theorem pv_globE {X : Cx} {x : Str} {i : Int} {pos : Pos} (hg : Gl X x) (hm : ∃ t, X.mg x = some (.int i t)) (hd : (x == ("__debug__" : Str)) = false := by decide) : PV X .z (.Name x pos) (vC (.int i)) := let ⟨_, e⟩ := hm; pv_glob hg e hd
theorem hfs0 {j : Nat} {gs : Sto → Option (List D)} : ∀ (ρ : Sto) (ds : List D) (s : Sh) (d : D), aCons (vVar j) gs ρ = some ds → ρ[j]? = some (some (s, d)) → ds[0]? = some d := by
  intro ρ ds s d h1 h2
  unfold aCons at h1
  obtain ⟨x, q1, h1⟩ := bind_some' h1
  obtain ⟨xs, q2, rfl⟩ := map_some' h1
  unfold vVar at q1
  rw [h2] at q1
  cases q1
  rfl
/-- a module's def, as its callers see it -/
structure Fc (P : Program) (w : World) (K : PySem.W.Frag) (mg : Str → Option Value) (base : Heap) (x : Str) (ps : List Str) (k : Nat) (sp : Sp) where
  f : Addr
  fd : FuncData
  ok : FnOk P w K mg base CX0 k f fd ps sp
  g : mg x = some (.ref f)
  q : PySem.W.keepIn K (.ref f) = true
  b : Binds K fd ps []
/-- a class that one makes instances of -/
structure Mc (P : Program) (w : World) (K : PySem.W.Frag) (mg : Str → Option Value) (base : Heap) (x : Str) (C : Addr) (ps : List Str) (k : Nat) (sp : Sp) where
  f : Addr
  fd : FuncData
  ok : FnOk P w K mg base CX0 k f fd ps sp
  mke : Mk K C f
  g : mg x = some (.ref C)
  b : Binds K fd ps []
section
variable {X : Cx} {e : Expr} {s : Sh} {f : Sto → Option D} {p pos : Pos}
section
variable (hb : X.mg "len" = none) (ha : PV X s e f)
include hb ha
theorem pv_len (hG : Gl X "len") (he : starEach (e :: []) X.env = (false, eval e X.env) :: starEach [] X.env := by rfl) (hpl : (backTo pos (starEach [] X.env)).any (·.1) = false := by rfl) : PV X .z (.Call (.Name "len" p) [e] [] pos) (v1 dLen f) :=
  pv_b1 hG hb (by decide) (by decide) he hpl call_len_seq PySem.boot_len cd_len ha
end
section
variable (hb : X.mg "sum" = none) (hc : X.calm = true) (ha : PV X s e f)
include hb hc ha
theorem pv_sum (hG : Gl X "sum") (he : starEach (e :: []) X.env = (false, eval e X.env) :: starEach [] X.env := by rfl) (hpl : (backTo pos (starEach [] X.env)).any (·.1) = false := by rfl) : PV X .z (.Call (.Name "sum" p) [e] [] pos) (v1 dSum f) :=
  pv_b1 hG hb (by decide) (by decide) he hpl (cr_sum hc) (by decide +kernel) cd_sum ha
end
theorem pv_all (hb : X.mg "all" = none) (hc : X.calm = true) (ha : PV X s e f) (hG : Gl X "all") (he : starEach (e :: []) X.env = (false, eval e X.env) :: starEach [] X.env := by rfl) (hpl : (backTo pos (starEach [] X.env)).any (·.1) = false := by rfl) : PV X .z (.Call (.Name "all" p) [e] [] pos) (v1 dAll f) :=
  pv_b1 hG hb (by decide) (by decide) he hpl (cr_all hc) (by decide +kernel) cd_all ha
theorem pv_any (hb : X.mg "any" = none) (hc : X.calm = true) (ha : PV X s e f) (hG : Gl X "any") (he : starEach (e :: []) X.env = (false, eval e X.env) :: starEach [] X.env := by rfl) (hpl : (backTo pos (starEach [] X.env)).any (·.1) = false := by rfl) : PV X .z (.Call (.Name "any" p) [e] [] pos) (v1 dAny f) :=
  pv_b1 hG hb (by decide) (by decide) he hpl (cr_any hc) (by decide +kernel) cd_any ha
theorem pv_max (hb : X.mg "max" = none) (hc : X.calm = true) (ha : PV X s e f) (hG : Gl X "max") (he : starEach (e :: []) X.env = (false, eval e X.env) :: starEach [] X.env := by rfl) (hpl : (backTo pos (starEach [] X.env)).any (·.1) = false := by rfl) : PV X .z (.Call (.Name "max" p) [e] [] pos) (v1 dMax f) :=
  pv_b1 hG hb (by decide) (by decide) he hpl (cr_max hc) (by decide +kernel) cd_max ha
theorem pv_min (hb : X.mg "min" = none) (hc : X.calm = true) (ha : PV X s e f) (hG : Gl X "min") (he : starEach (e :: []) X.env = (false, eval e X.env) :: starEach [] X.env := by rfl) (hpl : (backTo pos (starEach [] X.env)).any (·.1) = false := by rfl) : PV X .z (.Call (.Name "min" p) [e] [] pos) (v1 dMin f) :=
  pv_b1 hG hb (by decide) (by decide) he hpl (cr_min hc) (by decide +kernel) cd_min ha
theorem pv_abs (hb : X.mg "abs" = none) (ha : PV X .z e f) (hG : Gl X "abs") (he : starEach (e :: []) X.env = (false, eval e X.env) :: starEach [] X.env := by rfl) (hpl : (backTo pos (starEach [] X.env)).any (·.1) = false := by rfl) : PV X .z (.Call (.Name "abs" p) [e] [] pos) (v1 dAbs f) :=
  pv_b1 hG hb (by decide) (by decide) he hpl call_abs (by decide +kernel) cd_abs ha
theorem pv_intC (hb : X.mg "int" = none) (ha : PV X .z e f) (hG : Gl X "int") (he : starEach (e :: []) X.env = (false, eval e X.env) :: starEach [] X.env := by rfl) (hpl : (backTo pos (starEach [] X.env)).any (·.1) = false := by rfl) : PV X .z (.Call (.Name "int" p) [e] [] pos) (v1 dInt f) :=
  pv_t1 hG hb (by decide) (by decide) he hpl call_int1 (by decide +kernel) cd_int ha
theorem pv_tupC (hb : X.mg "tuple" = none) (hs : flat1 s = true) (ha : PV X s e f) (hG : Gl X "tuple") (he : starEach (e :: []) X.env = (false, eval e X.env) :: starEach [] X.env := by rfl) (hpl : (backTo pos (starEach [] X.env)).any (·.1) = false := by rfl) : PV X .z (.Call (.Name "tuple" p) [e] [] pos) (v1 dTuple f) :=
  pv_t1 hG hb (by decide) (by decide) he hpl call_tuple_of (by decide +kernel) (cd_tuple hs) ha
theorem fp_lstC (hb : X.mg "list" = none) (hs : flat1 s = true) (ha : PV X s e f) (hG : Gl X "list") (he : starEach (e :: []) X.env = (false, eval e X.env) :: starEach [] X.env := by rfl) (hpl : (backTo pos (starEach [] X.env)).any (·.1) = false := by rfl) : FP X (.seq .z) (.Call (.Name "list" p) [e] [] pos) (v1 dList f) :=
  fp_t1 hG hb (by decide) (by decide) he hpl call_list_of (by decide +kernel) (cf_list hs) ha
theorem fp_srt (hb : X.mg "sorted" = none) (ha : PV X s e f) (hG : Gl X "sorted") (he : starEach (e :: []) X.env = (false, eval e X.env) :: starEach [] X.env := by rfl) (hpl : (backTo pos (starEach [] X.env)).any (·.1) = false := by rfl) : FP X (.seq .z) (.Call (.Name "sorted" p) [e] [] pos) (v1 dSorted f) :=
  fp_b1 hG hb (by decide) (by decide) he hpl cr_sortedI (by decide +kernel) cf_sorted ha
theorem fp_srtDK (hb : X.mg "sorted" = none) (hc : X.calm = true) (ha : PV X s e f) (hG : Gl X "sorted") (he : starEach (e :: []) X.env = (false, eval e X.env) :: starEach [] X.env := by rfl) (hpl : (backTo pos (starEach [] X.env)).any (·.1) = false := by rfl) : FP X (.seq .z) (.Call (.Name "sorted" p) [e] [] pos) (v1 dSortedDK f) :=
  fp_b1 hG hb (by decide) (by decide) he hpl (call_sortedDI hc) (by decide +kernel) cf_sortedDK ha
theorem fp_sset {p1 p2 pos1 pos2 : Pos} (hb : X.mg "sorted" = none) (hb2 : X.mg "set" = none) (hc : X.calm = true) (ha : PV X s e f) (hG : Gl X "sorted") (hG2 : Gl X "set") (he : starEach (e :: []) X.env = (false, eval e X.env) :: starEach [] X.env := by rfl) (hpl : (backTo pos2 (starEach [] X.env)).any (·.1) = false := by rfl)
    (he1 : starEach (.Call (.Name "set" p2) [e] [] pos2 :: []) X.env = (false, eval (.Call (.Name "set" p2) [e] [] pos2) X.env) :: starEach [] X.env := by rfl) (hpl1 : (backTo pos1 (starEach [] X.env)).any (·.1) = false := by rfl) :
    FP X (.seq .z) (.Call (.Name "sorted" p1) [.Call (.Name "set" p2) [e] [] pos2] [] pos1) (v1 dSortedSet f) :=
  fp_sortedSet hc hG hb hG2 hb2 (by decide +kernel) (by decide +kernel) ha he hpl he1 hpl1
theorem pv_isiT {T : String} {y : Str} {py : Pos} (kT : KitT T) (hvy : bootBuiltins y = some (.type T)) (hm : X.mg "isinstance" = none) (hmy : X.mg y = none) (ha : PV X s e f) (hg : Gl X "isinstance") (hgy : Gl X y)
    (hny : y ≠ "__name__" := by decide) (hdy : (y == ("__debug__" : Str)) = false := by decide) (he : starEach [e, .Name y py] X.env = (false, eval e X.env) :: starEach [.Name y py] X.env := by rfl) (he2 : starEach [.Name y py] X.env = (false, eval (.Name y py) X.env) :: starEach [] X.env := by rfl) (hpl : (backTo pos (starEach [.Name y py] X.env)).any (·.1) = false := by rfl) :
    PV X .z (.Call (.Name "isinstance" p) [e, .Name y py] [] pos) (vIsi T f) :=
  pv_isi kT hg hm hgy hmy hvy (by decide +kernel) ha hny hdy he he2 hpl
end
theorem bt_int : bootBuiltins "int" = some (.type "int") := by decide +kernel
theorem bt_bool : bootBuiltins "bool" = some (.type "bool") := by decide +kernel
theorem bt_str : bootBuiltins "str" = some (.type "str") := by decide +kernel
theorem bt_list : bootBuiltins "list" = some (.type "list") := by decide +kernel
theorem bt_tuple : bootBuiltins "tuple" = some (.type "tuple") := by decide +kernel
theorem bt_dict : bootBuiltins "dict" = some (.type "dict") := by decide +kernel
def dNeg : D → Option D
  | .int i => some (.int (-i))
  | _ => none
theorem ud_neg {K : PySem.W.Frag} : UnD K (rU fun i => .int (-i)) dNeg := by
  intro x d q G ρ σ H F v Q R r k
  cases x <;> simp only [dNeg] at q <;> cases q
  exact ⟨_, Rp.int r, k _ Rp.mkint⟩
theorem pv_neg {X : Cx} {a : Expr} {fa : Sto → Option D} {pos : Pos} (ha : PV X .z a fa) : PV X .z (.UnaryOp .USub a pos) (v1 dNeg fa) := pv_un un_neg ud_neg ha
theorem fn_none {P : Program} {w : World} {K : PySem.W.Frag} {mg : Str → Option Value} {base : Heap} {k n : Nat} {f : Addr} {fd : FuncData} {ps : List Str} {rs : Sh} : FnOk P w K mg base CX0 k f fd ps (spP K n rs (fun _ => none)) :=
  ⟨fun vs H Q E ⟨_, _, _, _, _, h, _⟩ => (by cases h), fun A outer s H args us vs Q E _ _ _ _ ⟨_, _, _, _, _, h, _⟩ => (by cases h)⟩
end VL

set_option Elab.async false
set_option linter.all false
set_option maxRecDepth 100000
/-! VLn: plain laws: the functions that the walks compute, made to run. -/
noncomputable section
namespace VL
open PySem PySem.Spec PyProof.Rows L2

/-! ### running -/
section
variable {ρ : Sto} {d : D}
theorem vVarZ_ev {i : Nat} (h : ρ[i]? = some (some (.z, d))) : vVarZ i ρ = some d := by unfold vVarZ; rw [h]
theorem vVarS_ev {i : Nat} (h : ρ[i]? = some (some (.seq .z, d))) : vVarS i ρ = some d := by unfold vVarS; rw [h]
theorem sSeq_nx {f g : Sto → Option Fl} {ρ' : Sto} (h : f ρ = some (.nx ρ')) : sSeq f g ρ = g ρ' := by unfold sSeq; rw [h]; rfl
theorem sSeq_rt {f g : Sto → Option Fl} {ρ' : Sto} {d : D} (h : f ρ = some (.rt d ρ')) : sSeq f g ρ = some (.rt d ρ') := by unfold sSeq; rw [h]; rfl
end
section
variable (ρ : Sto) (i j n : Nat) (d e x y : D) (ds es : List D) (f fa fb : Sto → Option D) (fs : Sto → Option (List D)) (fe ga gb : Sto → Option (D × Sto)) (gs : Sto → Option (List D × Sto)) (t u : Sto → Option Bool) (te : Sto → Option (Bool × Sto)) (a b : Sto → Option Fl) (s : Sh) (g : D → D → Option D) (h : D → Option D) (m : List D → Option D)
@[simp] theorem q_vVarZ : vVarZ i ρ = (match ρ[i]? with | some (some (.z, d)) => some d | _ => none) := id rfl
@[simp] theorem q_vVarS : vVarS i ρ = (match ρ[i]? with | some (some (.seq .z, d)) => some d | _ => none) := id rfl
@[simp] theorem q_vVar : vVar i ρ = (match ρ[i]? with | some (some (_, d)) => some d | _ => none) := id rfl
@[simp] theorem q_vC : vC d ρ = some d := id rfl
@[simp] theorem q_v1 : v1 h f ρ = (f ρ).bind h := id rfl
@[simp] theorem q_v2 : v2 g fa fb ρ = (fa ρ).bind fun x => (fb ρ).bind fun y => g x y := id rfl
@[simp] theorem q_e1 : e1 h fe ρ = (fe ρ).bind fun x => (h x.1).map fun d => (d, x.2) := id rfl
@[simp] theorem q_e2 : e2 g ga gb ρ = (ga ρ).bind fun x => (gb x.2).bind fun y => (g x.1 y.1).map fun d => (d, y.2) := id rfl
@[simp] theorem q_up : up f ρ = (f ρ).map fun d => (d, ρ) := id rfl
@[simp] theorem q_upI : upI fs ρ = (fs ρ).map fun d => (d, ρ) := id rfl
@[simp] theorem q_upT : upT t ρ = (t ρ).map fun d => (d, ρ) := id rfl
@[simp] theorem q_aNil : aNil ρ = some [] := id rfl
@[simp] theorem q_aCons : aCons f fs ρ = (f ρ).bind fun d => (fs ρ).map fun ds => d :: ds := id rfl
@[simp] theorem q_bNil : bNil ρ = some ([], ρ) := id rfl
@[simp] theorem q_bCons : bCons fe gs ρ = (fe ρ).bind fun d => (gs d.2).map fun ds => (d.1 :: ds.1, ds.2) := id rfl
@[simp] theorem q_vTup : vTup fs ρ = (fs ρ).bind fun ds => if ds.length ≤ 1000000 then some (.tup ds) else none := id rfl
@[simp] theorem q_vLst : vLst fs ρ = (fs ρ).bind fun ds => if ds.length ≤ 1000000 then some (.lst ds) else none := id rfl
@[simp] theorem q_eTup : eTup gs ρ = (gs ρ).bind fun ds => if ds.1.length ≤ 1000000 then some (.tup ds.1, ds.2) else none := id rfl
@[simp] theorem q_eLst : eLst gs ρ = (gs ρ).bind fun ds => if ds.1.length ≤ 1000000 then some (.lst ds.1, ds.2) else none := id rfl
@[simp] theorem q_vB : vB f ρ = (match f ρ with | some (.bl k) => some k | _ => none) := id rfl
@[simp] theorem q_eB : eB fe ρ = (match fe ρ with | some (.bl k, ρ') => some (k, ρ') | _ => none) := id rfl
@[simp] theorem q_tAnd : tAndF t u ρ = (t ρ).bind fun c => if c then u ρ else some false := id rfl
@[simp] theorem q_tOr : tOrF t u ρ = (t ρ).bind fun c => if c then some true else u ρ := id rfl
@[simp] theorem q_tNot : tNotF t ρ = (t ρ).map fun c => !c := id rfl
@[simp] theorem q_vAnd : vAndF fa fb ρ = (match fa ρ with | some (.bl true) => fb ρ | some (.bl false) => some (.bl false) | _ => none) := id rfl
@[simp] theorem q_vOr : vOrF fa fb ρ = (match fa ρ with | some (.bl true) => some (.bl true) | some (.bl false) => fb ρ | _ => none) := id rfl
@[simp] theorem q_vNot : vNotF f ρ = (match f ρ with | some (.bl c) => some (.bl (!c)) | _ => none) := id rfl
@[simp] theorem q_vIf : vIf t fa fb ρ = (t ρ).bind fun c => if c then fa ρ else fb ρ := id rfl
@[simp] theorem q_eIf : eIf te ga gb ρ = (te ρ).bind fun c => if c.1 then ga c.2 else gb c.2 := id rfl
@[simp] theorem q_vCall : vCall (n := n) m fs ρ = (fs ρ).bind fun ds => if ds.length = n then m ds else none := id rfl
@[simp] theorem q_eCall : eCall n m gs ρ = (gs ρ).bind fun ds => if ds.1.length = n then (m ds.1).map fun d => (d, ds.2) else none := id rfl
@[simp] theorem q_sSet : sSet i s fe ρ = (fe ρ).map fun x => .nx (x.2.set i (some (s, x.1))) := id rfl
@[simp] theorem q_sRet : sRet fe ρ = (fe ρ).map fun x => .rt x.1 x.2 := id rfl
@[simp] theorem q_sIf : sIf te a b ρ = (te ρ).bind fun c => if c.1 then a c.2 else b c.2 := id rfl
@[simp] theorem q_sNext : sNext ρ = some (.nx ρ) := id rfl
@[simp] theorem q_sThen_nx : sThen (some (.nx ρ)) a = a ρ := id rfl
@[simp] theorem q_sThen_rt : sThen (some (.rt d ρ)) a = some (.rt d ρ) := id rfl
@[simp] theorem q_sSeq : sSeq a b ρ = sThen (a ρ) b := id rfl
@[simp] theorem q_endP_rt : endP (some (.rt d ρ)) = some d := id rfl
@[simp] theorem q_endP_nx : endP (some (.nx ρ)) = some .non := id rfl
@[simp] theorem q_argZ : argZ ds = ds.map fun d => some (.z, d) := id rfl
@[simp] theorem q_argS0 : argS 0 s (d :: ds) = some (s, d) :: argZ ds := id rfl
@[simp] theorem q_dItems_l : dItems (.lst ds) = some ds := id rfl
@[simp] theorem q_dItems_t : dItems (.tup ds) = some ds := id rfl
@[simp] theorem q_vItems : vItems f ρ = (f ρ).bind dItems := id rfl
@[simp] theorem q_gN : gN i d ρ = some (ρ.set i (some (.z, d))) := id rfl
@[simp] theorem q_gsNil : gsNil [] ρ = some ρ := id rfl
@[simp] theorem q_gsCons (g : D → Sto → Option Sto) (k : List D → Sto → Option Sto) : gsCons g k (d :: ds) ρ = (g d ρ).bind fun ρ1 => k ds ρ1 := id rfl
@[simp] theorem q_gTup (k : List D → Sto → Option Sto) : gTupF n k (.tup ds) ρ = if ds.length = n then k ds ρ else none := id rfl
@[simp] theorem q_sAsg (g : D → Sto → Option Sto) : sAsg fe g ρ = (fe ρ).bind fun x => (g x.1 x.2).map .nx := id rfl
@[simp] theorem q_sPar (gs : Sto → Option (List D × Sto)) : sPar i j gs ρ = (gs ρ).bind fun x => match x.1 with | [d, e] => some (.nx ((x.2.set i (some (.z, d))).set j (some (.z, e)))) | _ => none := id rfl
@[simp] theorem q_sAug : sAug i fe g ρ = (match ρ[i]? with | some (some (.z, d)) => (fe ρ).bind fun x => (g d x.1).map fun z => .nx (x.2.set i (some (.z, z))) | _ => none) := id rfl
@[simp] theorem q_sDrop : sDrop fe ρ = (fe ρ).map fun x => .nx x.2 := id rfl
@[simp] theorem q_sRetN : sRetN ρ = some (.rt .non ρ) := id rfl
@[simp] theorem q_wipe0 : wipeS ρ [] = ρ := id rfl
@[simp] theorem q_wipe1 (v : Nat) (vs : List Nat) : wipeS ρ (v :: vs) = (wipeS ρ vs).set v none := id rfl
@[simp] theorem q_eqb : Sh.eqb s s = true := Sh.eqb_self s
@[simp] theorem q_tuple_l : dTuple (.lst ds) = some (.tup ds) := id rfl
@[simp] theorem q_tuple_t : dTuple (.tup ds) = some (.tup ds) := id rfl
@[simp] theorem q_list_l : dList (.lst ds) = some (.lst ds) := id rfl
@[simp] theorem q_list_t : dList (.tup ds) = some (.lst ds) := id rfl
@[simp] theorem q_list_k : dList (.lstK ds) = some (.lst ds) := id rfl
@[simp] theorem q_neg (k : Int) : dNeg (.int k) = some (.int (-k)) := id rfl
@[simp] theorem q_int (k : Int) : dInt (.int k) = some (.int k) := id rfl
@[simp] theorem q_intb (k : Bool) : dInt (.bl k) = some (.int (if k then 1 else 0)) := id rfl
@[simp] theorem q_len_l : dLen (.lst ds) = some (.int ds.length) := id rfl
@[simp] theorem q_len_t : dLen (.tup ds) = some (.int ds.length) := id rfl
@[simp] theorem q_rev : dRev (.lst ds) = some (.lst ds.reverse) := id rfl
@[simp] theorem q_sFor (fi : Sto → Option (List D × Sto)) (g : D → Sto → Option Sto) : sFor fi g b ρ = (fi ρ).bind fun x => forL g b x.1 x.2 := id rfl
@[simp] theorem q_frz : sFrz i a ρ = (match ρ[i]? with | some (some (_, d)) => a (ρ.set i (some (.z, d))) | _ => none) := id rfl
@[simp] theorem q_vFrz : vFrz i ρ = (match ρ[i]? with | some (some (_, d)) => some (d, ρ.set i (some (.z, d))) | _ => none) := id rfl
@[simp] theorem q_vMove : vMove i ρ = (match ρ[i]? with | some (some (.seq .z, d)) => some (d, ρ.set i none) | _ => none) := id rfl
@[simp] theorem q_II (k : Int → Int → D) (p q : Int) : dII k (.int p) (.int q) = some (k p q) := id rfl
@[simp] theorem q_IIc (C : Int → Int → Bool) (k : Int → Int → D) (p q : Int) : dIIc C k (.int p) (.int q) = if C p q then some (k p q) else none := id rfl
@[simp] theorem q_isi (T : String) : vIsi T f ρ = (f ρ).bind fun x => (isT T x).map .bl := id rfl
@[simp] theorem q_lVar : lVar i ρ = (match ρ[i]? with | some (some _) => some [] | _ => none) := id rfl
@[simp] theorem q_nodeAt (ps : List Nat) : nodeAt i ρ ps = (match ρ[i]? with | some (some (sh, d)) => navS sh d ps | _ => none) := id rfl
@[simp] theorem q_putAt (ps : List Nat) : putAt i ρ ps d = (match ρ[i]? with | some (some (sh, d0)) => ρ.set i (some (sh, putS d0 ps d)) | _ => ρ) := id rfl
@[simp] theorem q_nav0 : navS s d [] = some (s, d) := by cases s <;> cases d <;> rfl
@[simp] theorem q_put0 : putS e [] d = d := by cases e <;> rfl
end
def fldD (C : Addr) (f : Str) (d : D) : Option D := vFld C f (fun _ => some d) []
@[simp] theorem q_vFld (C : Addr) (f : Str) (fo : Sto → Option D) (ρ : Sto) : vFld C f fo ρ = (fo ρ).bind (fldD C f) := by
  unfold fldD vFld
  cases fo ρ <;> rfl
@[simp] theorem bShr_nat (i : Int) (j : Nat) : bShr i (j : Int) = true := by simp [bShr]
@[simp] theorem deq_int (i j : Int) : deq (.int i) (.int j) = some (i == j) := by simp [deq]
@[simp] theorem deq_bl (i j : Bool) : deq (.bl i) (.bl j) = some (i == j) := by simp [deq]
@[simp] theorem dEq_int (i j : Int) : dEq (.int i) (.int j) = some (.bl (i == j)) := by simp [dEq]
@[simp] theorem dEq_bl (i j : Bool) : dEq (.bl i) (.bl j) = some (.bl (i == j)) := by simp [dEq]
@[simp] theorem dIx_lst (ds : List D) (k : Nat) : dIx (.lst ds) (.int (k : Int)) = ds[k]? := by
  simp only [dIx, ixN]
  by_cases h : k < ds.length
  · simp [h]
  · simp [h]
@[simp] theorem dIx_tup (ds : List D) (k : Nat) : dIx (.tup ds) (.int (k : Int)) = ds[k]? := by
  simp only [dIx, ixN]
  by_cases h : k < ds.length
  · simp [h]
  · simp [h]
@[simp] theorem dRange0 (n : Nat) : dRange 0 (n : Int) = (List.range n).map fun k : Nat => D.int (k : Int) := by
  simp [dRange]
@[simp] theorem dIx_l0 (ds : List D) : dIx (.lst ds) (.int 0) = ds[0]? := dIx_lst ds 0
@[simp] theorem dIx_l1 (ds : List D) : dIx (.lst ds) (.int 1) = ds[1]? := dIx_lst ds 1
@[simp] theorem dIx_l2 (ds : List D) : dIx (.lst ds) (.int 2) = ds[2]? := dIx_lst ds 2
@[simp] theorem dIx_l3 (ds : List D) : dIx (.lst ds) (.int 3) = ds[3]? := dIx_lst ds 3
@[simp] theorem dIx_t0 (ds : List D) : dIx (.tup ds) (.int 0) = ds[0]? := dIx_tup ds 0
@[simp] theorem dIx_t1 (ds : List D) : dIx (.tup ds) (.int 1) = ds[1]? := dIx_tup ds 1
@[simp] theorem dIx_t2 (ds : List D) : dIx (.tup ds) (.int 2) = ds[2]? := dIx_tup ds 2
@[simp] theorem q_eCallIO (n i0 j : Nat) (sh : Sh) (m : List D → Option (D × D)) (fs : Sto → Option (List D)) (ρ : Sto) : eCallIO n i0 j sh m fs ρ = (match ρ[j]? with
  | some (some (s, d0)) => if Sh.eqb s sh then (fs ρ).bind fun ds => match ds[i0]? with
    | some d => if ds.length = n then (m ds).map fun r => (r.1, ρ.set j (some (sh, r.2))) else none
    | none => none else none
  | _ => none) := id rfl
@[simp] theorem q_endIO_rt (i0 : Nat) (sh : Sh) (r : D) (ρ : Sto) : endIO i0 sh (some (.rt r ρ)) = (match ρ[i0]? with
    | some (some (s, d)) => if Sh.eqb s sh then some (r, d) else none
    | _ => none) := id rfl
@[simp] theorem q_endIO_nx (i0 : Nat) (sh : Sh) (ρ : Sto) : endIO i0 sh (some (.nx ρ)) = (match ρ[i0]? with
    | some (some (s, d)) => if Sh.eqb s sh then some (.non, d) else none
    | _ => none) := id rfl
/-- a while loop that counts a slot down -/
def downE (E : Nat → Bool) : Nat → Nat
  | 0 => 0
  | a + 1 => if E a then downE E a else a + 1
theorem whileL_down {t : Sto → Option (Bool × Sto)} {b : Sto → Option Fl} (E : Nat → Bool) (R : Nat → Sto) (m : Nat) (h0 : t (R 0) = some (false, R 0)) (ht : ∀ a, a < m → t (R (a + 1)) = some (E a, R (a + 1))) (hb : ∀ a, a < m → b (R (a + 1)) = some (.nx (R a))) :
    ∀ (a k : Nat), a ≤ m → a < k → whileL t b k (R a) = some (.nx (R (downE E a)))
  | 0, k + 1, _, _ => by unfold whileL; rw [h0]; rfl
  | a + 1, k + 1, h1, h2 => by
    unfold whileL
    rw [ht a (by omega), Option.bind_some]
    unfold downE
    cases E a with
    | false => rfl
    | true =>
      simp only [if_true]
      rw [hb a (by omega)]
      exact whileL_down E R m h0 ht hb a k (by omega) (by omega)
/-- what == can tell -/
def Okd (k : Nat) (d : D) : Prop := ∃ p, toPy d = some p ∧ p.canLay0 = true ∧ p.depth ≤ k
theorem Okd.int {k : Nat} (i : Int) : Okd k (.int i) := ⟨.int i, rfl, rfl, Nat.zero_le _⟩
theorem Okd.tupL {k : Nat} : ∀ {ds : List D}, (∀ d ∈ ds, Okd k d) → ∃ ps, toPyL ds = some ps ∧ PyData.canLayAll0 ps = true ∧ PyData.depthAll ps ≤ k
  | [], _ => ⟨[], rfl, rfl, Nat.zero_le _⟩
  | d :: ds, h => by
    obtain ⟨p, h1, h2, h3⟩ := h d List.mem_cons_self
    obtain ⟨ps, h4, h5, h6⟩ := Okd.tupL fun e m => h e (List.mem_cons_of_mem _ m)
    exact ⟨p :: ps, by simp only [toPyL, h1, h4], by simp only [PyData.canLayAll0, h2, h5, Bool.and_self], by simp only [PyData.depthAll]; omega⟩
theorem Okd.tup {k : Nat} {ds : List D} (h : ∀ d ∈ ds, Okd k d) : Okd (k + 1) (.tup ds) := by
  obtain ⟨ps, h4, h5, h6⟩ := Okd.tupL h
  exact ⟨.tuple ps, by simp only [toPy, h4]; rfl, by simpa only [PyData.canLay0] using h5, by simp only [PyData.depth]; omega⟩
theorem Okd.eq {k : Nat} {ds es : List D} (h1 : Okd k (.tup ds)) (h2 : Okd k (.tup es)) (hk : k ≤ 64) : ∃ b, deq (.tup ds) (.tup es) = some b := by
  obtain ⟨p, a1, a2, a3⟩ := h1
  obtain ⟨q, b1, b2, b3⟩ := h2
  have sp : SeqAt.shaped p = true := by simp only [SeqAt.shaped, a2, Bool.true_and, decide_eq_true_eq]; omega
  have sq : SeqAt.shaped q = true := by simp only [SeqAt.shaped, b2, Bool.true_and, decide_eq_true_eq]; omega
  refine ⟨PyData.eqv p q, ?_⟩
  simp only [deq, a1, b1, sp, sq, Bool.and_self, if_true]
theorem dRange_nat (i j : Nat) : dRange (i : Int) (j : Int) = (List.range' i (j - i)).map fun k : Nat => D.int (k : Int) := by
  unfold dRange
  have : ((j : Int) - (i : Int)).toNat = j - i := by omega
  rw [this, List.range'_eq_map_range, List.map_map]
  apply List.map_congr_left
  intro k _
  simp
@[simp] theorem dInts_int {ι : Type} (L : ι → Int) (xs : List ι) : dInts (xs.map fun k => D.int (L k)) = some (xs.map L) := by
  induction xs with
  | nil => rfl
  | cons x xs ih => simp [dInts, ih]
@[simp] theorem dBls_bl {ι : Type} (L : ι → Bool) (xs : List ι) : dBls (xs.map fun k => D.bl (L k)) = some (xs.map L) := by
  induction xs with
  | nil => rfl
  | cons x xs ih => simp [dBls, ih]
@[simp] theorem dSum_int {ι : Type} (L : ι → Int) (xs : List ι) : dSum (.lst (xs.map fun k => D.int (L k))) = some (.int (xs.map L).sum) := by simp [dSum]
@[simp] theorem dAll_bl {ι : Type} (L : ι → Bool) (xs : List ι) : dAll (.lst (xs.map fun k => D.bl (L k))) = some (.bl (xs.all L)) := by simp [dAll]
theorem rep_one {α : Type} (a : α) : ∀ n : Nat, (List.replicate n [a]).flatten = (List.range n).map fun _ => a
  | 0 => rfl
  | n + 1 => by
    rw [List.replicate_succ, List.flatten_cons, rep_one a n, List.range_succ_eq_map]
    simp
theorem dRep_one (d : D) (n : Nat) (h : n ≤ 100000) : dRep (.lst [d]) (.int (n : Int)) = some (.lst ((List.range n).map fun _ => d)) := by
  have : (n : Int) ≤ 100000 := by omega
  simp only [dRep, Int.natCast_nonneg, this, List.length_singleton, true_and, rep_one, Int.toNat_natCast]
  rfl
/-- a comprehension -/
theorem lcL_eq {ι : Type} {g : D → Sto → Option Sto} {ft : Sto → Option Bool} {fe : Sto → Option D} {ρ : Sto} {I E : ι → D} {p : ι → Bool} : ∀ {xs : List ι}, (∀ x ∈ xs, ∃ ρ1, g (I x) ρ = some ρ1 ∧ ft ρ1 = some (p x) ∧ (p x = true → fe ρ1 = some (E x))) →
    lcL g ft fe ρ (xs.map I) = some ((xs.filter p).map E)
  | [], _ => rfl
  | x :: xs, h => by
    obtain ⟨ρ1, h1, h2, h3⟩ := h x List.mem_cons_self
    have ih := lcL_eq (xs := xs) fun y m => h y (List.mem_cons_of_mem _ m)
    rw [List.map_cons]
    unfold lcL
    rw [h1, Option.bind_some, h2, Option.bind_some, ih]
    cases q : p x with
    | true => rw [List.filter_cons_of_pos q]; simp [h3 q]
    | false => rw [List.filter_cons_of_neg (by simp [q])]; simp
theorem vLc_eq {ι : Type} {vs : List Nat} {fi : Sto → Option (List D)} {g : D → Sto → Option Sto} {ft : Sto → Option Bool} {fe : Sto → Option D} {ρ : Sto} {I E : ι → D} {p : ι → Bool} {xs : List ι} (hp : PlainAt ρ vs = true) (hi : fi ρ = some (xs.map I)) (hl : xs.length ≤ 1000000)
    (h : ∀ x ∈ xs, ∃ ρ1, g (I x) (wipeS ρ vs) = some ρ1 ∧ ft ρ1 = some (p x) ∧ (p x = true → fe ρ1 = some (E x))) : vLc vs fi g ft fe ρ = some (.lst ((xs.filter p).map E)) := by
  unfold vLc
  rw [if_pos hp, hi, Option.bind_some, if_pos (by simpa using hl), lcL_eq h]
  rfl
/-- with no test -/
theorem vLc_map {ι : Type} {vs : List Nat} {fi : Sto → Option (List D)} {g : D → Sto → Option Sto} {fe : Sto → Option D} {ρ : Sto} {I E : ι → D} {xs : List ι} (hp : PlainAt ρ vs = true) (hi : fi ρ = some (xs.map I)) (hl : xs.length ≤ 1000000)
    (h : ∀ x ∈ xs, ∃ ρ1, g (I x) (wipeS ρ vs) = some ρ1 ∧ fe ρ1 = some (E x)) : vLc vs fi g (fun _ => some true) fe ρ = some (.lst (xs.map E)) := by
  rw [vLc_eq (p := fun _ => true) (E := E) hp hi hl fun x m => by
    obtain ⟨ρ1, h1, h2⟩ := h x m
    exact ⟨ρ1, h1, rfl, fun _ => h2⟩, List.filter_eq_self.mpr fun _ _ => rfl]
/-- a for loop that always goes on -/
theorem forL_inv {ι : Type} {g : D → Sto → Option Sto} {b : Sto → Option Fl} {I : ι → D} (xs : List ι) (R : Nat → Sto → Prop) (h : ∀ k x ρ, xs[k]? = some x → R k ρ → ∃ ρ1 ρ2, g (I x) ρ = some ρ1 ∧ (b ρ1 = some (.nx ρ2) ∨ b ρ1 = some (.ct ρ2)) ∧ R (k + 1) ρ2) :
    ∀ {ρ : Sto}, R 0 ρ → ∃ ρ', forL g b (xs.map I) ρ = some (.nx ρ') ∧ R xs.length ρ' := by
  have aux : ∀ (ys : List ι) (k : Nat) (ρ : Sto), xs.drop k = ys → R k ρ → ∃ ρ', forL g b (ys.map I) ρ = some (.nx ρ') ∧ R (k + ys.length) ρ' := by
    intro ys
    induction ys with
    | nil => intro k ρ _ r; exact ⟨ρ, rfl, r⟩
    | cons y ys ih =>
      intro k ρ e r
      have hk : xs[k]? = some y := by
        have := congrArg (·[0]?) e
        simpa using this
      obtain ⟨ρ1, ρ2, h1, h2, h3⟩ := h k y ρ hk r
      have e2 : xs.drop (k + 1) = ys := by
        have := congrArg (List.drop 1) e
        simpa [List.drop_drop, Nat.add_comm] using this
      obtain ⟨ρ', q1, q2⟩ := ih (k + 1) ρ2 e2 h3
      refine ⟨ρ', ?_, by have e3 : k + 1 + ys.length = k + (ys.length + 1) := by omega
                         rw [e3] at q2; exact q2⟩
      rw [List.map_cons]
      unfold forL
      rw [h1, Option.bind_some]
      rcases h2 with h2 | h2 <;> (rw [h2]; exact q1)
  intro ρ r
  simpa using aux xs 0 ρ rfl r
@[simp] theorem q_sApp (i : Nat) (s : Sh) (fo : Sto → Option (List Nat)) (fe : Sto → Option (D × Sto)) (ρ : Sto) : sApp i s fo fe ρ = (fo ρ).bind fun ps => match nodeAt i ρ ps with
  | some (.seq _, .lst _) => (fe ρ).bind fun x => match nodeAt i x.2 ps with
    | some (.seq s', .lst ds) => if Sh.eqb s' s && decide (ds.length < 1000000) then some (.nx (putAt i x.2 ps (.lst (ds ++ [x.1])))) else none
    | _ => none
  | _ => none := id rfl
@[simp] theorem q_sAugS (i : Nat) (fo : Sto → Option (List Nat)) (fi fe : Sto → Option D) (g : D → D → Option D) (ρ : Sto) : sAugS i fo fi fe g ρ = (fo ρ).bind fun ps => (fi ρ).bind fun x => match nodeAt i ρ ps with
  | some (.seq .z, .lst ds) => (lstIx i ρ ps x).bind fun j => (ds[j]?).bind fun old => (fe ρ).bind fun y => (g old y).map fun z => .nx (putAt i ρ ps (.lst (ds.set j z)))
  | _ => none := id rfl
@[simp] theorem q_lstIx (i : Nat) (ρ : Sto) (ps : List Nat) (x : D) : lstIx i ρ ps x = (match nodeAt i ρ ps, x with
  | some (.seq _, .lst ds), .int k => ixN ds.length k
  | _, _ => none) := id rfl
@[simp] theorem q_gSet (i : Nat) (s : Sh) (fo : Sto → Option (List Nat)) (fi : Sto → Option D) (d : D) (ρ : Sto) : gSet i s fo fi d ρ = (fo ρ).bind fun ps => (fi ρ).bind fun x => match nodeAt i ρ ps with
  | some (.seq s', .lst ds) => if Sh.eqb s' s then (lstIx i ρ ps x).map fun j => putAt i ρ ps (.lst (ds.set j d)) else none
  | _ => none := id rfl
theorem ixN_nat {n k : Nat} (h : k < n) : ixN n (k : Int) = some k := by simp [ixN, h]
@[simp] theorem q_vChain (g g' : D → D → Option D) (fa fb fc : Sto → Option D) (ρ : Sto) : vChain g g' fa fb fc ρ = (fa ρ).bind fun x => (fb ρ).bind fun y => match g x y with
  | some (.bl true) => (fc ρ).bind fun z => g' y z
  | some (.bl false) => some (.bl false)
  | _ => none := id rfl
@[simp] theorem q_vEnum (f : Sto → Option D) (ρ : Sto) : vEnum f ρ = ((f ρ).bind dItems).map dEnum := id rfl
theorem dEnum_map {n : Nat} (E : Nat → D) : dEnum ((List.range n).map E) = (List.range n).map fun i => .tup [.int (i : Nat), E i] := by
  unfold dEnum
  rw [List.length_map, List.length_range]
  refine List.map_congr_left fun i m => ?_
  have := List.mem_range.mp m
  simp [this]
/-! ### the keys of a dict made over a list of ints -/
def kfold (acc : List Int) : List Int → List Int
  | [] => acc
  | x :: xs => kfold (if x ∈ acc then acc else acc ++ [x]) xs
theorem kfold_mem {k : Int} : ∀ {xs acc : List Int}, k ∈ kfold acc xs ↔ k ∈ acc ∨ k ∈ xs
  | [], acc => by simp [kfold]
  | x :: xs, acc => by
    unfold kfold
    rw [kfold_mem]
    split
    · rename_i h
      simp only [List.mem_cons]
      constructor
      · rintro (h | h) <;> simp [h]
      · rintro (h | rfl | h) <;> simp [*]
    · simp only [List.mem_append, List.mem_cons, List.not_mem_nil, or_false]
      exact or_assoc
theorem kfold_nodup : ∀ {xs acc : List Int}, acc.Nodup → (kfold acc xs).Nodup
  | [], acc, h => h
  | x :: xs, acc, h => by
    unfold kfold
    refine kfold_nodup ?_
    split
    · exact h
    · rename_i hx
      refine List.nodup_append.mpr ⟨h, List.nodup_cons.mpr ⟨List.not_mem_nil, List.nodup_nil⟩, fun a ha b hb e => ?_⟩
      rw [List.mem_singleton.mp hb] at e
      exact hx (e ▸ ha)
theorem kfold_len : ∀ {xs acc : List Int}, (kfold acc xs).length ≤ acc.length + xs.length
  | [], acc => by simp [kfold]
  | x :: xs, acc => by
    unfold kfold
    have := kfold_len (xs := xs) (acc := if x ∈ acc then acc else acc ++ [x])
    refine Nat.le_trans this ?_
    split
    · simp
    · simp; omega
theorem isort_kfold (ns : List Int) : isort (kfold [] ns) = sset ns := by
  refine strict_ext ?_ (sset_sorted ns) fun k => ?_
  · have h1 := isort_le (kfold [] ns)
    have h2 : (isort (kfold [] ns)).Nodup := (isort_perm _).nodup_iff.mpr (kfold_nodup List.nodup_nil)
    have h3 := List.pairwise_and_iff.mpr ⟨h1, h2⟩
    exact h3.imp fun h => by omega
  · rw [(isort_perm _).mem_iff, kfold_mem, sset_mem]; simp
theorem keyInts_map (ns : List Int) : keyInts (ns.map Sum.inl) = some ns := by
  induction ns with
  | nil => rfl
  | cons n ns ih => simp [keyInts, ih]
theorem dSortedDK_keys {ns : List Int} {ds : List D} (h : ns.length < 64) : dSortedDK (.dicK ((kfold [] ns).map Sum.inl) ds) = some (.lst ((sset ns).map .int)) := by
  simp only [dSortedDK]
  rw [keyInts_map, Option.bind_some, if_pos (by have := kfold_len (xs := ns) (acc := []); simp at this; omega), isort_kfold]
theorem dcL_keys {g : D → Sto → Option Sto} {ft : Sto → Option Bool} {fk fv : Sto → Option D} {ρ : Sto} : ∀ {ns : List Int}, (∀ n ∈ ns, ∃ ρ1 v, g (.int n) ρ = some ρ1 ∧ ft ρ1 = some true ∧ fk ρ1 = some (.int n) ∧ fv ρ1 = some v) → ∀ (acc : List Int) (ds : List D),
    ∃ ds', dcL g ft fk fv ρ (ns.map .int) (acc.map Sum.inl, ds) = some ((kfold acc ns).map Sum.inl, ds')
  | [], _, acc, ds => ⟨ds, rfl⟩
  | n :: ns, h, acc, ds => by
    obtain ⟨ρ1, v, h1, h2, h3, h4⟩ := h n List.mem_cons_self
    rw [List.map_cons]
    unfold dcL kfold
    rw [h1, Option.bind_some, h2, Option.bind_some, if_pos rfl, h3, Option.bind_some]
    have e : dKey (.int n) = some (.inl n) := rfl
    rw [e, Option.bind_some, h4, Option.bind_some]
    have key : ∃ ds2, dputK (acc.map Sum.inl) ds (.inl n) v = ((if n ∈ acc then acc else acc ++ [n]).map Sum.inl, ds2) := by
      unfold dputK
      by_cases hn : n ∈ acc
      · rw [if_pos hn, if_pos (by simp [hn])]; exact ⟨_, rfl⟩
      · rw [if_neg hn, if_neg (by simp; exact hn)]; exact ⟨ds ++ [v], by simp⟩
    obtain ⟨ds2, e2⟩ := key
    simp only
    rw [e2]
    exact dcL_keys (fun m hm => h m (List.mem_cons_of_mem _ hm)) _ ds2
theorem vDc_keys {vs : List Nat} {fi : Sto → Option (List D)} {g : D → Sto → Option Sto} {ft : Sto → Option Bool} {fk fv : Sto → Option D} {ρ : Sto} {ns : List Int} (hp : PlainAt ρ vs = true) (hi : fi ρ = some (ns.map .int)) (hl : ns.length ≤ 1000000)
    (h : ∀ n ∈ ns, ∃ ρ1 v, g (.int n) (wipeS ρ vs) = some ρ1 ∧ ft ρ1 = some true ∧ fk ρ1 = some (.int n) ∧ fv ρ1 = some v) : ∃ ds', vDc vs fi g ft fk fv ρ = some (.dicK ((kfold [] ns).map Sum.inl) ds') := by
  obtain ⟨ds', e⟩ := dcL_keys h [] []
  refine ⟨ds', ?_⟩
  unfold vDc
  rw [if_pos hp, hi, Option.bind_some, if_pos (by simpa using hl)]
  rw [show (([] : List L2.Key), ([] : List D)) = (([] : List Int).map Sum.inl, []) from rfl, e]
  rfl
theorem dSortedSet_f {ι : Type} {F : ι → Int} {xs : List ι} (h : xs.length < 64) : dSortedSet (.lst (xs.map fun i => .int (F i))) = some (.lst ((sset (xs.map F)).map .int)) := by
  simp only [dSortedSet]
  rw [dInts_int, Option.bind_some, if_pos (by simpa using h)]
theorem dSortedSet_int {ns : List Int} (h : ns.length < 64) : dSortedSet (.lst (ns.map .int)) = some (.lst ((sset ns).map .int)) := by
  simp only [dSortedSet]
  rw [dInts_map, Option.bind_some, if_pos h]
end VL

set_option Elab.async false
set_option linter.all false
set_option maxRecDepth 100000
/-! VLo: more rules. -/
noncomputable section
namespace VL
open PySem PySem.Spec PyProof.Rows L2
section
variable {K : PySem.W.Frag} {G H H' F F' : Hp} {ρ : Sto} {σ : L2.St} {s s1 s2 : Sh} {v : V}
theorem Rp.lstH {ds : List D} (h : Rp K F (.lst ds) v) : ∃ a vs, v = .ref a ∧ F a = some (.lst vs) ∧ RpL K F ds vs := by simpa only [Rp] using h
theorem Ow.elemsH {ds : List D} (hs : flat1 s = true) (e : Same F H) (h : ∃ fp, Ow K H F s (.lst ds) v fp) : ∃ a vs, v = .ref a ∧ H a = some (.lst vs) ∧ RpL K F ds vs := by
  obtain ⟨fp, h⟩ := h
  cases s with
  | z =>
    obtain ⟨a, vs, rfl, h1, h2⟩ := Rp.lstH h.1
    exact ⟨a, vs, rfl, e _ _ h1, h2⟩
  | seq s =>
    cases s with
    | z =>
      obtain ⟨a, vs, fp', rfl, ha, ho, _⟩ := h
      exact ⟨a, vs, rfl, ha, (OwL.unz ho).1⟩
    | _ => cases hs
  | obj f => cases hs
/-- list + list -/
def dCatL : D → D → Option D
  | .lst xs, .lst ys => if xs.length + ys.length ≤ 1000000 then some (.lst (xs ++ ys)) else none
  | _, _ => none
theorem of_cat (h1 : flat1 s1 = true) (h2 : flat1 s2 = true) : OpF K s1 s2 (.seq .z) rCat dCatL := by
  intro x y d q G ρ σ H F v u Q R hx hy kk
  cases x <;> cases y <;> simp only [dCatL] at q <;> try cases q
  split at q
  · rename_i hz
    cases q
    obtain ⟨a, vs, rfl, ha, hr⟩ := Ow.elemsH h1 R.sub hx
    obtain ⟨b, ws, rfl, hb, hs⟩ := Ow.elemsH h2 R.sub hy
    refine ⟨a, b, vs, ws, rfl, rfl, ha, hb, ?_, fun p hp => ?_⟩
    · rw [← RpL.length hr, ← RpL.length hs]; exact mill_line hz
    · exact kk _ _ F (Same.refl _) (Same.upd hp) (R.addLst (hr.append hs) hp)
  · cases q
/-- max, min of two ints -/
def dMax2 : List D → Option D
  | [.int i, .int j] => some (.int (if j > i then j else i))
  | _ => none
def dMin2 : List D → Option D
  | [.int i, .int j] => some (.int (if j < i then j else i))
  | _ => none
def vB2 (m : List D → Option D) (fs : Sto → Option (List D)) : Sto → Option D := fun ρ => (fs ρ).bind m
variable {X : Cx} {a b : Expr} {p pos : Pos} {fs : Sto → Option (List D)}
theorem pv_max2 (hb : X.mg "max" = none) (hc : X.calm = true) (ha : PAV X [a, b] fs) (hG : Gl X "max") (he : starEach [a, b] X.env = (false, eval a X.env) :: starEach [b] X.env := by rfl) (hpl : (backTo pos (starEach [b] X.env)).any (·.1) = false := by rfl) : PV X .z (.Call (.Name "max" p) [a, b] [] pos) (vB2 dMax2 fs) := by
  refine pe_imp (pe_callB (call_max2 hc) hG hb (by decide +kernel) ha (by decide) (by decide) he hpl) fun σ H Q ⟨G, ρ, F, d, q, R, k⟩ => ?_
  obtain ⟨ds, q1, q2⟩ := bind_some' (show (fs ρ).bind dMax2 = some d from q)
  refine ⟨G, ρ, F, ds, q1, R, fun vs H1 F1 f1 h1 R1 r1 => ?_⟩
  unfold dMax2 at q2
  split at q2
  · rename_i i j
    cases q2
    obtain ⟨v, r, rfl, r2, r3⟩ := RpL.cons_inv r1
    obtain ⟨w, r', rfl, r4, r5⟩ := RpL.cons_inv r3
    rw [RpL.nil_inv r5, Rp.int r2, Rp.int r4]
    exact ⟨i, j, rfl, k _ H1 F1 f1 h1 R1 ⟨[], Rp.mkint, rfl⟩⟩
  · cases q2
theorem pv_min2 (hb : X.mg "min" = none) (hc : X.calm = true) (ha : PAV X [a, b] fs) (hG : Gl X "min") (he : starEach [a, b] X.env = (false, eval a X.env) :: starEach [b] X.env := by rfl) (hpl : (backTo pos (starEach [b] X.env)).any (·.1) = false := by rfl) : PV X .z (.Call (.Name "min" p) [a, b] [] pos) (vB2 dMin2 fs) := by
  refine pe_imp (pe_callB (call_min2 hc) hG hb (by decide +kernel) ha (by decide) (by decide) he hpl) fun σ H Q ⟨G, ρ, F, d, q, R, k⟩ => ?_
  obtain ⟨ds, q1, q2⟩ := bind_some' (show (fs ρ).bind dMin2 = some d from q)
  refine ⟨G, ρ, F, ds, q1, R, fun vs H1 F1 f1 h1 R1 r1 => ?_⟩
  unfold dMin2 at q2
  split at q2
  · rename_i i j
    cases q2
    obtain ⟨v, r, rfl, r2, r3⟩ := RpL.cons_inv r1
    obtain ⟨w, r', rfl, r4, r5⟩ := RpL.cons_inv r3
    rw [RpL.nil_inv r5, Rp.int r2, Rp.int r4]
    exact ⟨i, j, rfl, k _ H1 F1 f1 h1 R1 ⟨[], Rp.mkint, rfl⟩⟩
  · cases q2
end
end VL

set_option Elab.async false
set_option linter.all false
set_option maxRecDepth 100000
/-! VLp: dicts: get, in. -/
noncomputable section
namespace VL
open PySem PySem.Spec PyProof.Rows L2
def dIsB : D → D → Option D
  | .bl a, .bl b => some (.bl (decide (a = b)))
  | _, _ => none
theorem od_isB {K : PySem.W.Frag} {s1 s2 : Sh} : OpD K s1 s2 rIsB dIsB := by
  intro x y d q G ρ σ H F v u Q R hx hy kk
  cases x <;> cases y <;> simp only [dIsB] at q <;> cases q
  obtain ⟨fp, h1⟩ := hx
  obtain ⟨fq, h2⟩ := hy
  have e1 := Rp.bl (h1.sc rfl)
  have e2 := Rp.bl (h2.sc rfl)
  subst e1 e2
  exact ⟨_, _, rfl, rfl, kk _ _ F (Same.refl _) (Same.refl _) R Rp.mkbl⟩
/-! ### dicts with int and text keys -/
def dlook (ks : List L2.Key) (ds : List D) (k : L2.Key) : Option D := ((ks.zip ds).find? fun p => decide (p.1 = k)).map (·.2)
theorem valV_rp {K : PySem.W.Frag} {F : Hp} {k : L2.Key} : ∀ {ks : List L2.Key} {ds : List D} {vs : List V}, RpL K F ds vs →
    (∀ d, dlook ks ds k = some d → ∃ v, valV (ks.zip vs) k = some v ∧ Rp K F d v) ∧ (dlook ks ds k = none → valV (ks.zip vs) k = none)
  | [], ds, vs, h => ⟨fun d e => by simp [dlook] at e, fun _ => by simp [valV]⟩
  | c :: ks, [], vs, h => by
    rw [RpL.nil_inv h]
    exact ⟨fun d e => by simp [dlook] at e, fun _ => by simp [valV]⟩
  | c :: ks, d :: ds, vs, h => by
    obtain ⟨v, r, rfl, h1, h2⟩ := RpL.cons_inv h
    obtain ⟨i1, i2⟩ := valV_rp (ks := ks) (k := k) h2
    unfold dlook valV at *
    simp only [List.zip_cons_cons, List.find?_cons]
    by_cases e : c = k
    · simp [e]; exact h1
    · simp only [e, decide_false]
      exact ⟨i1, i2⟩
theorem dKey_kV {K : PySem.W.Frag} {F : Hp} {d : D} {k : L2.Key} {v : V} (h : dKey d = some k) (r : Rp K F d v) : v = kV k := dKey_rp h r
/-- a dict, live and read whole -/
theorem Ow.dicK {K : PySem.W.Frag} {H F : Hp} {s : Sh} {ks : List L2.Key} {ds : List D} {v : V} (hs : flat1 s = true) (e : Same F H) (h : ∃ fp, Ow K H F s (.dicK ks ds) v fp) : ∃ a vs, v = .ref a ∧ Rd H a (.dK (ks.zip vs)) ∧ RpL K F ds vs := by
  obtain ⟨fp, h⟩ := h
  cases s with
  | z =>
    obtain ⟨a, vs, rfl, h1, _, h2⟩ := (show ∃ a vs, v = .ref a ∧ Rd F a (.dK (ks.zip vs)) ∧ ks.length = ds.length ∧ RpL K F ds vs by simpa only [Rp] using h.1)
    exact ⟨a, vs, rfl, Same.rd e h1, h2⟩
  | seq s =>
    cases s with
    | z =>
      obtain ⟨a, vs, fp', rfl, ha, _, ho, _⟩ := h
      exact ⟨a, vs, rfl, .inl ha, (OwL.unz ho).1⟩
    | _ => cases hs
  | obj f => cases hs
/-- d[k] -/
def dDGet : D → D → Option D
  | .dicK ks ds, y => (dKey y).bind fun k => dlook ks ds k
  | _, _ => none
def dDIn : D → D → Option D
  | y, .dicK ks ds => (dKey y).map fun k => .bl (dlook ks ds k).isSome
  | _, _ => none
def dDNotIn : D → D → Option D
  | y, .dicK ks ds => (dKey y).map fun k => .bl (!(dlook ks ds k).isSome)
  | _, _ => none
section
variable {X : Cx} {o i : Expr} {pos : Pos} {s : Sh} {fo fi : Sto → Option D}
theorem pv_dget (hs : flat1 s = true) (hu : X.A.units + 1 < cLine) (ho : PV X s o fo) (hi : PV X .z i fi) (hn : NoSl i) : PV X .z (.Subscript o i pos) (v2 dDGet fo fi) := by
  refine pe_imp (pe_dget hu ho hi hn) fun σ H Q ⟨G, ρ, F, d, q, R, k⟩ => ?_
  obtain ⟨x, y, q1, q2, q3⟩ := v2_some q
  cases x <;> simp only [dDGet] at q3 <;> try cases q3
  rename_i ks ds
  obtain ⟨c, q4, q5⟩ := bind_some' q3
  refine ⟨G, ρ, F, _, q1, R, fun v H1 F1 f1 h1 R1 r1 => ?_⟩
  refine ⟨G, ρ, F1, y, q2, R1, fun u H2 F2 f2 h2 R2 ⟨fp, r2⟩ => ?_⟩
  obtain ⟨a, vs, rfl, hd, hr⟩ := Ow.dicK hs R2.sub (Ow.keep r1 f2 h2)
  obtain ⟨w, e1, e2⟩ := (valV_rp (ks := ks) (k := c) hr).1 d q5
  rw [dKey_kV q4 r2.1]
  exact ⟨a, w, rfl, .inl ⟨_, c, hd, rfl, e1.symm⟩, k w H2 F2 (f1.trans f2) (h1.trans h2) R2 ⟨[], e2, rfl⟩⟩
theorem pv_din (hs : flat1 s = true) (hu : X.A.units + 1 < cLine) (hi : PV X .z i fi) (ho : PV X s o fo) (hb : behindInMarks .In o = false) : PV X .z (.Compare i [.In] [o] pos) (v2 dDIn fi fo) := by
  refine pe_imp (pe_cmp (pc_din hu hi ho) hb) fun σ H Q ⟨G, ρ, F, d, q, R, k⟩ => ?_
  obtain ⟨y, x, q2, q1, q3⟩ := v2_some q
  cases x <;> simp only [dDIn] at q3 <;> try cases q3
  rename_i ks ds
  obtain ⟨c, q4, q5⟩ := map_some' q3
  subst q5
  refine ⟨G, ρ, F, y, q2, R, fun u H1 F1 f1 h1 R1 ⟨fp, r1⟩ => ?_⟩
  refine ⟨G, ρ, F1, _, q1, R1, fun v H2 F2 f2 h2 R2 r2 => ?_⟩
  obtain ⟨a, vs, rfl, hd, hr⟩ := Ow.dicK hs R2.sub r2
  have hk := dKey_kV q4 r1.1
  subst hk
  refine ⟨a, valV (ks.zip vs) c, rfl, .inl ⟨_, c, hd, rfl, rfl⟩, ?_⟩
  have e : (valV (ks.zip vs) c).isSome = (dlook ks ds c).isSome := by
    cases q : dlook ks ds c with
    | none => rw [(valV_rp hr).2 q]; rfl
    | some x => obtain ⟨w, e, _⟩ := (valV_rp hr).1 x q; rw [e]; rfl
  rw [e]
  exact k _ H2 F2 (f1.trans f2) (h1.trans h2) R2 ⟨[], Rp.mkbl, rfl⟩
theorem pv_dnotin (hs : flat1 s = true) (hu : X.A.units + 1 < cLine) (hi : PV X .z i fi) (ho : PV X s o fo) (hb : behindInMarks .NotIn o = false) : PV X .z (.Compare i [.NotIn] [o] pos) (v2 dDNotIn fi fo) := by
  refine pe_imp (pe_cmp (pc_dnotin hu hi ho) hb) fun σ H Q ⟨G, ρ, F, d, q, R, k⟩ => ?_
  obtain ⟨y, x, q2, q1, q3⟩ := v2_some q
  cases x <;> simp only [dDNotIn] at q3 <;> try cases q3
  rename_i ks ds
  obtain ⟨c, q4, q5⟩ := map_some' q3
  subst q5
  refine ⟨G, ρ, F, y, q2, R, fun u H1 F1 f1 h1 R1 ⟨fp, r1⟩ => ?_⟩
  refine ⟨G, ρ, F1, _, q1, R1, fun v H2 F2 f2 h2 R2 r2 => ?_⟩
  obtain ⟨a, vs, rfl, hd, hr⟩ := Ow.dicK hs R2.sub r2
  have hk := dKey_kV q4 r1.1
  subst hk
  refine ⟨a, valV (ks.zip vs) c, rfl, .inl ⟨_, c, hd, rfl, rfl⟩, ?_⟩
  have e : (valV (ks.zip vs) c).isSome = (dlook ks ds c).isSome := by
    cases q : dlook ks ds c with
    | none => rw [(valV_rp hr).2 q]; rfl
    | some x => obtain ⟨w, e, _⟩ := (valV_rp hr).1 x q; rw [e]; rfl
  rw [e]
  exact k _ H2 F2 (f1.trans f2) (h1.trans h2) R2 ⟨[], Rp.mkbl, rfl⟩
end
end VL

set_option Elab.async false
set_option linter.all false
set_option maxRecDepth 100000
/-! VLq: an owned flat object is changed. -/
noncomputable section
namespace VL
open PySem PySem.Spec PyProof.Rows L2
theorem Rel.put1 {K : PySem.W.Frag} {G H F : Hp} {ρ : Sto} {σ : L2.St} {a : Addr} {d d' : D} {o' : HO} (h : Rel K G (some (.seq .z, d) :: ρ) (some (.ref a) :: σ) H F) (hd : ∀ fp, Ow K H F (.seq .z) d (.ref a) fp → fp = [a]) (new : Ow K (L2.upd H a o') F (.seq .z) d' (.ref a) [a]) :
    Rel K G (some (.seq .z, d') :: ρ) (some (.ref a) :: σ) (L2.upd H a o') F := by
  obtain ⟨fps, w⟩ := h
  obtain ⟨u, q1, q2⟩ := w.slot 0 _ _ rfl
  simp at q1; subst q1
  have hf := hd _ q2
  have a0 : a ∈ fps 0 := by rw [hf]; simp
  refine w.front (xs := [_]) (ys := [_]) (xs' := [_]) (ys' := [_]) rfl rfl (fun _ => [a]) (fun j s' e q => ?_) (fun j _ => by simp) (fun j k b hj hk _ _ => by simp at hj hk; omega) (fun j b hj m => ⟨0, by simp, by rw [hf]; exact m⟩) (fun b o hb e => ?_) (fun j b hj m => ?_)
  · cases j with
    | zero => simp at q; obtain ⟨rfl, rfl⟩ := q; exact ⟨_, rfl, new⟩
    | succ j => simp at q
  · rw [upd_ne]
    · exact e
    · rintro rfl; exact hb 0 (by simp) a0
  · have e : b = a := by simpa using m
    subst e; exact ⟨_, upd_same⟩
/-- x[k] = v, x an owned dict -/
def sDPutV (i : Nat) (fi : Sto → Option D) (fe : Sto → Option (D × Sto)) : Sto → Option Fl := fun ρ => (fe ρ).bind fun x => match x.2[i]? with
  | some (some (.seq .z, .dicK ks ds)) => (fi x.2).bind fun y => (dKey y).bind fun k => if ks.length < 1000000 then some (.nx (x.2.set i (some (.seq .z, .dicK (dputK ks ds k x.1).1 (dputK ks ds k x.1).2)))) else none
  | _ => none
theorem sv_dput {X : Cx} {rs : Sh} {io : List Nat} {i : Nat} {x : Str} {px pos pos' : Pos} {b e : Expr} {fi : Sto → Option D} {fe : Sto → Option (D × Sto)} (hu : X.A.units + 1 < cLine) (hN : X.N[i]? = some x) (hv : Vis X.env.scope x) (hi : PV X .z b fi) (he : EV X e fe)
    (hs : swapsWith e (some (.Subscript (.Name x px) b pos')) pos.line X.env = pure false := by rfl) (hd : (x == ("__debug__" : Str)) = false := by decide) (hcd : (x == ("__classdict__" : Str)) = false := by decide) :
    SV X rs io (.Assign [.Subscript (.Name x px) b pos'] e pos) (sDPutV i fi fe) := by
  refine ps_imp (ps_dput hu (pe_var hN hv hd hcd) hi he hs) fun Z σ H ⟨G, ρ, F, fl, q, R, k⟩ => ?_
  unfold sDPutV at q
  obtain ⟨⟨d, ρ1⟩, q1, q⟩ := bind_some' q
  split at q
  · rename_i ks ds q2
    obtain ⟨y, q3, q⟩ := bind_some' q
    obtain ⟨c, q4, q⟩ := bind_some' q
    split at q
    · rename_i hz
      cases q
      refine ⟨G, ρ, F, d, ρ1, q1, R, fun v H1 F1 f1 R1 r1 => ?_⟩
      obtain ⟨u0, fp0, e0, _⟩ := R1.get q2
      refine ⟨u0, e0, G, ρ1, F1, y, q3, R1, fun w H2 F2 f2 h2 R2 ⟨fp2, r2⟩ => ?_⟩
      obtain ⟨u, q5, R3⟩ := R2.move q2
      rw [e0] at q5; cases q5
      obtain ⟨fp3, a, vs, fp', rfl, ha, hl, ho, hf⟩ := R3.get0
      have hr := (OwL.unz ho).1
      obtain ⟨us, p1, p2⟩ := zip_putK (k := c) hr hl (Rp.mono f2 _ _ r1)
      have hk := dKey_kV q4 r2.1
      subst hk
      refine ⟨a, _, rfl, .inl ⟨_, c, ha, rfl, ?_, rfl⟩, ?_⟩
      · rw [List.length_zip]; have := mill_line (n := ks.length) (by omega); have h3 : (1000000 : Nat) ≤ sizeLine := mill_line (Nat.le_refl _); omega
      · rw [p1]
        have R4 := R3.put1 (d' := .dicK (dputK ks ds c d).1 (dputK ks ds c d).2) (o' := .dK ((dputK ks ds c d).1.zip us)) (fun fp ⟨a', vs', fp', e1, _, _, ho', e2⟩ => by cases e1; rw [e2, (OwL.unz ho').2]) ⟨a, us, [], rfl, upd_same, dputK_len hl, OwL.z p2, rfl⟩
        have R5 := R4.store (i := i)
        rw [List.set_set] at R5
        have e5 : σ.set i (some (.ref a)) = σ := by
          obtain ⟨hi, he⟩ := List.getElem?_eq_some_iff.mp e0
          rw [← he]; exact List.set_getElem_self hi
        rw [e5] at R5
        exact k σ _ F2 (f1.trans f2) (Pin.refl _ _) R5
    · cases q
  · cases q
end VL

set_option Elab.async false
set_option linter.all false
set_option maxRecDepth 100000
/-! VLu: reading what is owned as if all were frozen, where the answer holds no list, dict or instance. -/
noncomputable section
namespace VL
open PySem L2

mutual
/-- data without lists, dicts, instances -/
def immD : D → Bool
  | .non => true
  | .bl _ => true
  | .int _ => true
  | .str _ => true
  | .fn _ => true
  | .tup ds => immL ds
  | _ => false
def immL : List D → Bool
  | [] => true
  | d :: ds => immD d && immL ds
end
def plainS : Sh → D → Bool
  | .z, d => immD d
  | .seq s, .lst ds => ds.all (plainS s)
  | .seq s, .dicK _ ds => ds.all (plainS s)
  | .seq s, .dicT _ ds => ds.all (plainS s)
  | .seq _, d => immD d
  | .obj _, _ => false
def frzAll (ρ : Sto) : Sto := ρ.map fun x => x.map fun sd => (.z, sd.2)
section
variable {K : PySem.W.Frag} {G H H' F F' F1 F2 : Hp} {ρ : Sto} {σ : L2.St}
theorem frzAll_get {i : Nat} {s : Sh} {d : D} (h : (frzAll ρ)[i]? = some (some (s, d))) : s = .z ∧ ∃ s', ρ[i]? = some (some (s', d)) := by
  unfold frzAll at h
  rw [List.getElem?_map] at h
  cases q : ρ[i]? with
  | none => rw [q] at h; cases h
  | some x =>
    rw [q] at h
    cases x with
    | none => cases h
    | some sd =>
      obtain ⟨s', d'⟩ := sd
      simp at h
      obtain ⟨rfl, rfl⟩ := h
      exact ⟨rfl, s', rfl⟩
/-- an owned object is no tuple -/
def isTup : Option HO → Bool
  | some (.tup _) => true
  | some (.frz _ (.tup _)) => true
  | _ => false
theorem OwL.notup {R : D → V → List Addr → Prop} (k : ∀ d v f, R d v f → ∀ a ∈ f, isTup (H a) = false) : ∀ {ds : List D} {vs : List V} {fp : List Addr}, OwL R ds vs fp → ∀ a ∈ fp, isTup (H a) = false
  | [], _, _, h, a, m => by rw [h.2] at m; cases m
  | d :: ds, vs, fp, h, a, m => by
    obtain ⟨v, r, f1, f2, rfl, h1, h2, rfl⟩ := h
    exact (List.mem_append.mp m).elim (k _ _ _ h1 a) (OwL.notup k h2 a)
theorem OwF.notup {R : Str → D → V → List Addr → Prop} (k : ∀ n d v f, R n d v f → ∀ a ∈ f, isTup (H a) = false) : ∀ {ns : List Str} {ds : List D} {vs : List V} {fp : List Addr}, OwF R ns ds vs fp → ∀ a ∈ fp, isTup (H a) = false
  | [], _, _, _, h, a, m => by rw [h.2.2] at m; cases m
  | n :: ns, ds, vs, fp, h, a, m => by
    obtain ⟨d, dr, v, r, f1, f2, rfl, rfl, h1, h2, rfl⟩ := h
    exact (List.mem_append.mp m).elim (k _ _ _ _ h1 a) (OwF.notup k h2 a)
theorem Ow.notup : ∀ {s : Sh} {d : D} {v : V} {fp : List Addr}, Ow K H F s d v fp → ∀ a ∈ fp, isTup (H a) = false := by
  intro s
  induction s with
  | z => intro d v fp h a m; rw [h.2] at m; cases m
  | seq s ih =>
    intro d v fp h a m
    cases d with
    | lst ds =>
      obtain ⟨b, vs, fp', e1, e2, h, rfl⟩ := h
      rcases List.mem_cons.mp m with rfl | m
      · rw [e2]; rfl
      · exact OwL.notup (fun d v f q => ih q) h a m
    | dicK ks ds =>
      obtain ⟨b, vs, fp', e1, e2, e3, h, rfl⟩ := h
      rcases List.mem_cons.mp m with rfl | m
      · rw [e2]; rfl
      · exact OwL.notup (fun d v f q => ih q) h a m
    | dicT ks ds =>
      obtain ⟨b, vs, fp', e1, e2, e3, h, rfl⟩ := h
      rcases List.mem_cons.mp m with rfl | m
      · rw [e2]; rfl
      · exact OwL.notup (fun d v f q => ih q) h a m
    | _ => rw [h.2] at m; cases m
  | obj f ih =>
    intro d v fp h a m
    cases d with
    | obj C ns ds =>
      obtain ⟨b, dx, vs, fp', e1, e2, h, rfl⟩ := h
      rcases List.mem_cons.mp m with rfl | m
      · rw [e2]; rfl
      · exact OwF.notup (fun n d v f q => ih n q) h a m
    | _ => rw [h.2] at m; cases m
/-- the heap but for G -/
def lessG (G H : Hp) : Hp := fun a => if (G a).isSome then none else H a
/-- the tuples of F', all else as F -/
def tupsOf (F F' : Hp) : Hp := fun a => if isTup (F' a) then F' a else F a
theorem tupsOf_same (e : Same F F') : Same F (tupsOf F F') := fun a o q => by
  unfold tupsOf
  split
  · exact e _ _ q
  · exact q
mutual
theorem Rp.tups : ∀ (d : D) (v : V), immD d = true → Rp K F' d v → Rp K (tupsOf F F') d v
  | .non, _, _, h => h
  | .bl _, _, _, h => h
  | .int _, _, _, h => h
  | .str _, _, _, h => h
  | .fn _, _, _, h => h
  | .tup ds, v, i, h => by
    obtain ⟨a, vs, e1, h1, h2⟩ := h.tup
    simp only [Rp]
    refine ⟨a, vs, e1, ?_, RpL.tups ds vs i h2⟩
    rcases h1 with (h | ⟨o, h⟩) | h
    · exact .inl (.inl (by unfold tupsOf; rw [h]; rfl))
    · exact .inl (.inr ⟨o, by unfold tupsOf; rw [h]; rfl⟩)
    · exact .inr h
  | .lst _, _, i, _ => by cases i
  | .lstK _, _, i, _ => by cases i
  | .dicK _ _, _, i, _ => by cases i
  | .dicT _ _, _, i, _ => by cases i
  | .obj _ _ _, _, i, _ => by cases i
theorem RpL.tups : ∀ (ds : List D) (vs : List V), immL ds = true → RpL K F' ds vs → RpL K (tupsOf F F') ds vs
  | [], _, _, h => h
  | d :: ds, vs, i, h => by
    obtain ⟨v, r, rfl, h1, h2⟩ := RpL.cons_inv h
    have i : (immD d && immL ds) = true := i
    rw [Bool.and_eq_true] at i
    exact RpL.cons (Rp.tups d v i.1 h1) (RpL.tups ds r i.2 h2)
end
theorem OwL.tups {s : Sh} (k : ∀ d v f, plainS s d = true → Ow K H F' s d v f → Ow K H (tupsOf F F') s d v f) : ∀ {ds : List D} {vs : List V} {fp : List Addr}, ds.all (plainS s) = true → OwL (Ow K H F' s) ds vs fp → OwL (Ow K H (tupsOf F F') s) ds vs fp
  | [], _, _, _, h => h
  | d :: ds, vs, fp, i, h => by
    obtain ⟨v, r, f1, f2, rfl, h1, h2, rfl⟩ := h
    rw [List.all_cons, Bool.and_eq_true] at i
    exact ⟨v, r, f1, f2, rfl, k _ _ _ i.1 h1, OwL.tups k i.2 h2, rfl⟩
theorem Ow.tups : ∀ {s : Sh} {d : D} {v : V} {fp : List Addr}, plainS s d = true → Ow K H F' s d v fp → Ow K H (tupsOf F F') s d v fp := by
  intro s
  induction s with
  | z => intro d v fp i h; exact ⟨Rp.tups d v i h.1, h.2⟩
  | seq s ih =>
    intro d v fp i h
    cases d with
    | lst ds =>
      obtain ⟨b, vs, fp', e1, e2, h, rfl⟩ := h
      exact ⟨b, vs, fp', e1, e2, OwL.tups (fun d v f i q => ih i q) i h, rfl⟩
    | dicK ks ds =>
      obtain ⟨b, vs, fp', e1, e2, e3, h, rfl⟩ := h
      exact ⟨b, vs, fp', e1, e2, e3, OwL.tups (fun d v f i q => ih i q) i h, rfl⟩
    | dicT ks ds =>
      obtain ⟨b, vs, fp', e1, e2, e3, h, rfl⟩ := h
      exact ⟨b, vs, fp', e1, e2, e3, OwL.tups (fun d v f i q => ih i q) i h, rfl⟩
    | lstK _ => cases i
    | obj _ _ _ => cases i
    | _ => exact ⟨Rp.tups _ v i h.1, h.2⟩
  | obj f ih => intro d v fp i; cases i
theorem Rel.borrow (R : Rel K G ρ σ H F) : ∃ F1, Same F F1 ∧ Rel K G (frzAll ρ) σ H F1 ∧
    (∀ H' F', Same F1 F' → Same H H' → Rel K G (frzAll ρ) σ H' F' → Rel K G ρ σ H' (tupsOf F F')) ∧
    (∀ s d v H' F', Same F1 F' → Same H H' → plainS s d = true → Rel K G (some (s, d) :: frzAll ρ) (some v :: σ) H' F' → Rel K G (some (s, d) :: ρ) (some v :: σ) H' (tupsOf F F')) := by
  obtain ⟨fps, w⟩ := R
  have in1 : ∀ {a o}, G a = none → H a = some o → lessG G H a = some o := fun {a o} g e => by unfold lessG; rw [g]; exact e
  have f1 : Same F (lessG G H) := fun a o q => in1 (w.fg a o q) (w.sub a o q)
  have f2 : ∀ a o, lessG G H a = some o → G a = none := fun a o q => by
    unfold lessG at q
    split at q
    · cases q
    · rename_i h
      cases z : G a with
      | none => rfl
      | some u => rw [z] at h; exact (h rfl).elim
  have fp1 : ∀ i a, a ∈ fps i → ∃ o, lessG G H a = some o ∧ H a = some o := fun i a m => by
    obtain ⟨_, g, o, q⟩ := w.out i a m
    exact ⟨o, in1 g q, q⟩
  have nt : ∀ i a, a ∈ fps i → ∀ s d, ρ[i]? = some (some (s, d)) → isTup (H a) = false := fun i a m s d q => by
    obtain ⟨v, _, q2⟩ := w.slot i s d q
    exact q2.notup a m
  -- the footprints of the slots alone
  let fq : Nat → List Addr := fun i => match ρ[i]? with
    | some (some _) => fps i
    | _ => []
  have fq_in : ∀ i a, a ∈ fq i → a ∈ fps i ∧ isTup (H a) = false := fun i a m => by
    have m : a ∈ (match ρ[i]? with | some (some _) => fps i | _ => []) := m
    split at m
    · rename_i sd q
      obtain ⟨s, d⟩ := sd
      exact ⟨m, nt i a m s d q⟩
    · cases m
  have fq_eq : ∀ i s d, ρ[i]? = some (some (s, d)) → fq i = fps i := fun i s d q => by
    show (match ρ[i]? with | some (some _) => fps i | _ => []) = fps i
    rw [q]
  have fq_nd : ∀ i, (fq i).Nodup := fun i => by
    show (match ρ[i]? with | some (some _) => fps i | _ => []).Nodup
    split
    · exact w.nd i
    · exact List.nodup_nil
  have R1 : Rel K G (frzAll ρ) σ H (lessG G H) := by
    refine ⟨fun _ => [], fun i s d q => ?_, fun _ => List.nodup_nil, fun i j b m => (by cases m), fun i b m => (by cases m), by unfold frzAll; simp [w.len], fun a o q => ?_, w.gsub, f2⟩
    · obtain ⟨rfl, s', q⟩ := frzAll_get q
      obtain ⟨v, q1, q2⟩ := w.slot i s' d q
      exact ⟨v, q1, q2.rp f1 fun a m o e => in1 (w.out i a m).2.1 e, rfl⟩
    · unfold lessG at q
      split at q
      · cases q
      · exact q
  have key : ∀ {H' F'}, Same (lessG G H) F' → Same H H' → Same F' H' → (∀ i a, a ∈ fq i → tupsOf F F' a = none) := fun {H' F'} e1 e2 e3 i a m => by
    obtain ⟨m1, m2⟩ := fq_in i a m
    obtain ⟨o, p1, p2⟩ := fp1 i a m1
    unfold tupsOf
    rw [e1 _ _ p1, ← p2, m2]
    exact (w.out i a m1).1
  have tsub : ∀ {H' F'}, Same F F' → Same F' H' → Same (tupsOf F F') H' := fun {H' F'} e e3 a o q => by
    unfold tupsOf at q
    split at q
    · exact e3 _ _ q
    · exact e3 _ _ (e _ _ q)
  have tg : ∀ {F'}, (∀ a o, F' a = some o → G a = none) → ∀ a o, tupsOf F F' a = some o → G a = none := fun {F'} g a o q => by
    unfold tupsOf at q
    split at q
    · exact g a o q
    · exact w.fg a o q
  refine ⟨lessG G H, f1, R1, fun H' F' e1 e2 R2 => ?_, fun s0 d0 v0 H' F' e1 e2 ip R2 => ?_⟩
  · obtain ⟨fps', w'⟩ := R2
    refine ⟨fq, fun i s d q => ?_, fq_nd, fun i j a m1 m2 => w.dis i j a (fq_in i a m1).1 (fq_in j a m2).1, fun i a m => ?_, w.len, tsub (f1.trans e1) w'.sub, w'.gsub, tg w'.fg⟩
    · obtain ⟨v, q1, q2⟩ := w.slot i s d q
      rw [fq_eq i s d q]
      exact ⟨v, q1, q2.mono (tupsOf_same (f1.trans e1)) fun a _ o z => e2 a o z⟩
    · obtain ⟨g1, g2, o, g3⟩ := w.out i a (fq_in i a m).1
      exact ⟨key e1 e2 w'.sub i a m, g2, o, e2 _ _ g3⟩
  · obtain ⟨fps', w'⟩ := R2
    have new0 : ∀ a, a ∈ fps' 0 → F' a = none := fun a m => (w'.out 0 a m).1
    have apart : ∀ i a, a ∈ fps' 0 → a ∈ fq i → False := fun i a m1 m2 => by
      obtain ⟨o, p1, _⟩ := fp1 i a (fq_in i a m2).1
      have := e1 _ _ p1
      rw [new0 a m1] at this; cases this
    refine ⟨shiftF (fps' 0) fq, fun i s d q => ?_, fun i => ?_, fun i j a m1 m2 => ?_, fun i a m => ?_, by simp [← w.len], tsub (f1.trans e1) w'.sub, w'.gsub, tg w'.fg⟩
    · cases i with
      | zero =>
        simp at q; obtain ⟨rfl, rfl⟩ := q
        obtain ⟨v, q1, q2⟩ := w'.slot 0 _ _ rfl
        exact ⟨v, by simpa using q1, q2.tups ip⟩
      | succ i =>
        obtain ⟨v, q1, q2⟩ := w.slot i s d (by simpa using q)
        refine ⟨v, by simpa using q1, ?_⟩
        show Ow K H' (tupsOf F F') s d v (fq i)
        rw [fq_eq i s d (by simpa using q)]
        exact q2.mono (tupsOf_same (f1.trans e1)) fun a _ o z => e2 a o z
    · cases i with
      | zero => exact w'.nd 0
      | succ i => exact fq_nd i
    · cases i with
      | zero =>
        cases j with
        | zero => rfl
        | succ j => exact (apart j a m1 m2).elim
      | succ i =>
        cases j with
        | zero => exact (apart i a m2 m1).elim
        | succ j => exact congrArg _ (w.dis i j a (fq_in i a m1).1 (fq_in j a m2).1)
    · cases i with
      | zero =>
        obtain ⟨g1, g2, g3⟩ := w'.out 0 a m
        refine ⟨?_, g2, g3⟩
        unfold tupsOf
        rw [g1]
        show F a = none
        cases z : F a with
        | none => rfl
        | some u => have := e1 _ _ (f1 _ _ z); rw [g1] at this; cases this
      | succ i =>
        obtain ⟨g1, g2, o, g3⟩ := w.out i a (fq_in i a m).1
        exact ⟨key e1 e2 w'.sub i a m, g2, o, e2 _ _ g3⟩
end
section
variable {X : Cx} {e : Expr} {es : List Expr} {s : Sh} {f : Sto → Option D} {fs : Sto → Option (List D)} {ft : Sto → Option Bool}
def vBor (s : Sh) (f : Sto → Option D) : Sto → Option D := fun ρ => (f (frzAll ρ)).bind fun d => if plainS s d then some d else none
def tBor (f : Sto → Option Bool) : Sto → Option Bool := fun ρ => f (frzAll ρ)
theorem vBor_some {ρ : Sto} {d : D} (h : vBor s f ρ = some d) : f (frzAll ρ) = some d ∧ plainS s d = true := by
  unfold vBor at h
  obtain ⟨x, q1, q2⟩ := bind_some' h
  split at q2
  · cases q2; exact ⟨q1, by assumption⟩
  · cases q2
theorem PTV.bor (h : PTV X e ft) : PTV X e (tBor ft) := by
  refine pt_imp h fun σ H Q ⟨G, ρ, F, d, q, R, k⟩ => ?_
  obtain ⟨F1, f1, R1, b1, _⟩ := R.borrow
  exact ⟨G, _, F1, d, q, R1, fun H' F' s1 s2 R' => k H' _ (tupsOf_same (f1.trans s1)) s2 (b1 H' F' s1 s2 R')⟩
theorem PV.bor (h : PV X .z e f) : PV X .z e (vBor .z f) := by
  refine pe_imp h fun σ H Q ⟨G, ρ, F, d, q, R, k⟩ => ?_
  obtain ⟨q1, q2⟩ := vBor_some q
  obtain ⟨F1, f1, R1, b1, _⟩ := R.borrow
  exact ⟨G, _, F1, d, q1, R1, fun v H' F' s1 s2 R' ⟨fp, r⟩ => k v H' _ (tupsOf_same (f1.trans s1)) s2 (b1 H' F' s1 s2 R') ⟨[], Rp.tups d v q2 r.1, rfl⟩⟩
theorem FP.bor (h : FP X s e f) : FP X s e (vBor s f) := by
  refine pe_imp h fun σ H Q ⟨G, ρ, F, d, q, R, k⟩ => ?_
  obtain ⟨q1, q2⟩ := vBor_some q
  obtain ⟨F1, f1, R1, _, b2⟩ := R.borrow
  exact ⟨G, _, F1, d, q1, R1, fun v H' F' s1 s2 R' => k v H' _ (tupsOf_same (f1.trans s1)) s2 (b2 s d v H' F' s1 s2 q2 R')⟩
end
end VL

set_option Elab.async false
set_option linter.all false
set_option maxRecDepth 100000
/-! VLv: places through fields, owned fields, tuple targets with stores, parallel stores of what is owned. -/
noncomputable section
namespace VL
open PySem L2

/-! ### a field's place -/
def fpos (f : Str) : List Str → Option Nat
  | [] => none
  | n :: ns => if f == n then some 0 else (fpos f ns).map (· + 1)
theorem fpos_zip {f : Str} {β : Type} : ∀ {ns : List Str} {vs : List β} {k : Nat} {v : β}, fpos f ns = some k → vs[k]? = some v → (ns.zip vs).lookup f = some v ∧ ns[k]? = some f
  | [], _, _, _, e, _ => by cases e
  | n :: ns, [], k, v, _, e => by simp at e
  | n :: ns, u :: vs, k, v, e, e2 => by
    unfold fpos at e
    simp only [List.zip_cons_cons, List.lookup_cons]
    cases hb : f == n with
    | true =>
      rw [hb] at e
      simp at e; subst e
      simp at e2; subst e2
      exact ⟨rfl, by simp [eq_of_beq hb]⟩
    | false =>
      rw [hb] at e
      simp only [Bool.false_eq_true, if_false] at e
      obtain ⟨j, e3, rfl⟩ := map_some' e
      have := fpos_zip (vs := vs) (v := v) e3 (by simpa using e2)
      exact ⟨this.1, by simpa using this.2⟩
/-- the instance node at a place, a field's number -/
def fldAt (i : Nat) (C : Addr) (f : Str) (ρ : Sto) (ps : List Nat) : Option Nat := match nodeAt i ρ ps with
  | some (.obj _, .obj C' ns ds) => if C' = C ∧ ns.length = ds.length then fpos f ns else none
  | _ => none
def lFld (i : Nat) (C : Addr) (f : Str) (fo : Sto → Option (List Nat)) : Sto → Option (List Nat) := fun ρ => (fo ρ).bind fun ps => (fldAt i C f ρ ps).map fun j => ps ++ [j]
theorem fpos_lt {f : Str} : ∀ {ns : List Str} {k : Nat}, fpos f ns = some k → k < ns.length
  | [], _, e => by cases e
  | n :: ns, k, e => by
    unfold fpos at e
    split at e
    · cases e; simp
    · obtain ⟨j, e3, rfl⟩ := map_some' e
      have := fpos_lt e3
      simp; omega
section
variable {X : Cx} {o : Expr} {C : Addr} {f : Str} {pos : Pos} {i : Nat}
theorem lv_fld {fo : Sto → Option (List Nat)} (c : FldC X.K C f) (ho : LV X i o fo) (hb : attributeBase o f X.env (eval o X.env) = eval o X.env := by rfl) : LV X i (.Attribute o f pos) (lFld i C f fo) := by
  refine pe_imp (pe_fld ho hb) fun σ H Q ⟨G, ρ, F, ps, q, R, k⟩ => ?_
  unfold lFld at q
  obtain ⟨ps0, q1, q⟩ := bind_some' q
  obtain ⟨j, q3, rfl⟩ := map_some' q
  refine ⟨G, ρ, F, ps0, q1, R, fun v H1 F1 f1 h1 R1 ⟨v0, z0, at1⟩ => ?_⟩
  unfold fldAt at q3
  split at q3
  · rename_i g C' ns ds hn
    split at q3
    · rename_i hh
      obtain ⟨hC, hl⟩ := hh
      subst hC
      have hj := fpos_lt q3
      -- the node in the heap
      have nd : ∃ a dx vs, v = .ref a ∧ H1 a = some (.ins C' dx (ns.zip vs)) ∧ ns.length = vs.length := by
        have hn' := hn
        unfold nodeAt at hn'
        split at hn'
        · rename_i sh d0 q7
          obtain ⟨u, q8, R3⟩ := R1.move q7
          rw [z0] at q8; cases q8
          obtain ⟨v1, G', at2, R4, _⟩ := R3.zoom hn'
          cases at1.inj at2
          obtain ⟨fp', a, dx, vs, fp'', rfl, ha', ho', _⟩ := R4.get0
          exact ⟨a, dx, vs, rfl, ha', ho'.length.2⟩
        · cases hn'
      obtain ⟨a, dx, vs, rfl, ha, hv⟩ := nd
      have hk : vs[j]? = some vs[j] := by simp [show j < vs.length by omega]
      obtain ⟨e1, e2⟩ := fpos_zip q3 hk
      exact ⟨a, _, dx, _, vs[j], rfl, ha, c.cl, c.na, e1, k _ H1 F1 f1 h1 R1 ⟨v0, z0, at1.snoc1 (.inr ⟨_, _, _, f, ha, zip_get e2 hk⟩)⟩⟩
    · cases q3
  · cases q3
/-- self.f = e, a new field that is owned -/
def sFldO (i : Nat) (C : Addr) (f : Str) (s : Sh) (fe : Sto → Option (D × Sto)) : Sto → Option Fl := fun ρ => (fe ρ).bind fun x => match x.2[i]? with
  | some (some (.obj g, .obj C' ns ds)) => if C' = C ∧ f ∉ ns ∧ ns.length < 50 ∧ Sh.eqb (g f) s = true then some (.nx (x.2.set i (some (.obj g, .obj C (ns ++ [f]) (ds ++ [x.1]))))) else none
  | _ => none
theorem sv_fldO {x : Str} {px pos' : Pos} {e : Expr} {rs s : Sh} {io : List Nat} {fe : Sto → Option (D × Sto)} (hN : X.N[i]? = some x) (hv : Vis X.env.scope x) (c : FldC X.K C f) (he : EF X s e fe) (hs : swapsWith e (some (.Attribute (.Name x px) f pos')) pos.line X.env = pure false := by rfl)
    (hd : (x == ("__debug__" : Str)) = false := by decide) (hcd : (x == ("__classdict__" : Str)) = false := by decide) :
    SV X rs io (.Assign [.Attribute (.Name x px) f pos'] e pos) (sFldO i C f s fe) := by
  refine ps_imp (ps_fld (pe_var hN hv hd hcd) he hs) fun Z σ H ⟨G, ρ, F, fl, q, R, k⟩ => ?_
  unfold sFldO at q
  obtain ⟨⟨d, ρ1⟩, q1, q⟩ := bind_some' q
  split at q
  · rename_i g C' ns ds q2
    split at q
    · rename_i hh
      obtain ⟨rfl, hf, hn, hgz⟩ := hh
      cases q
      have hgf : g f = s := Sh.eq_of hgz
      refine ⟨G, ρ, F, d, ρ1, q1, R, fun v H1 F1 f1 R1 => ?_⟩
      obtain ⟨u, q3, R2⟩ := R1.move (i := i + 1) (by simpa using q2)
      simp only [List.getElem?_cons_succ, List.set_cons_succ] at q3 R2
      obtain ⟨fps, w⟩ := R2
      obtain ⟨u', p1, p2⟩ := w.slot 0 _ _ rfl
      simp at p1; subst p1
      obtain ⟨a, dx, vs, fp', rfl, ha, ho, hfp⟩ := p2
      obtain ⟨u2, p3, p4⟩ := w.slot 1 _ _ rfl
      simp at p3; subst p3
      have hl := ho.length
      have hz : (ns.zip vs).map (·.1) = ns := by rw [List.map_fst_zip]; omega
      refine ⟨.ref a, q3, a, _, dx, _, rfl, ha, c.cl, c.na, ?_, ?_⟩
      · rw [List.length_zip]; omega
      · have hput : putF f v (ns.zip vs) = (ns ++ [f]).zip (vs ++ [v]) := by
          rw [putF_new (by rw [hz]; exact hf), List.zip_append hl.2]; rfl
        rw [hput]
        have n0 := w.nd 0
        rw [hfp] at n0
        have a0 : a ∈ fps 0 := by rw [hfp]; exact List.mem_cons_self
        have x1 : ∀ b, b ∈ fps 1 → b ∉ fps 0 := fun b m m2 => by have := w.dis _ _ b m m2; cases this
        have na1 : a ∉ fps 1 := fun m => x1 a m a0
        have R3 : Rel X.K G (some (.obj g, .obj C' (ns ++ [f]) (ds ++ [d])) :: ρ1.set i none) (some (.ref a) :: σ) (L2.upd H1 a (.ins C' dx ((ns ++ [f]).zip (vs ++ [v])))) F1 := by
          refine w.front (xs := [_, _]) (ys := [_, _]) (xs' := [_]) (ys' := [_]) rfl rfl (fun _ => a :: (fp' ++ fps 1)) (fun j s' d' q => ?_) (fun j _ => ?_) (fun j k b hj hk _ _ => by simp at hj hk; omega) (fun j b hj m => ?_) (fun b o hb e => ?_) (fun j b hj m => ?_)
          · cases j with
            | zero =>
              simp at q; obtain ⟨rfl, rfl⟩ := q
              refine ⟨_, rfl, a, dx, vs ++ [v], fp' ++ fps 1, rfl, upd_same, ?_, rfl⟩
              exact OwF.snoc (R := fun n => Ow X.K (L2.upd H1 a (.ins C' dx ((ns ++ [f]).zip (vs ++ [v])))) F1 (g n)) (f := f) (d := d) (v := v) (g := fps 1) (by show Ow _ _ _ (g f) d v _; rw [hgf]; exact p4.upd na1)
                (OwF.mono ho fun n d v f m r => Ow.upd r fun z => (List.nodup_cons.mp n0).1 (m a z))
            | succ j => simp at q
          · refine List.nodup_cons.mpr ⟨fun m => ?_, List.nodup_append.mpr ⟨(List.nodup_cons.mp n0).2, w.nd 1, fun y m1 z m2 e => ?_⟩⟩
            · rcases List.mem_append.mp m with m | m
              · exact (List.nodup_cons.mp n0).1 m
              · exact na1 m
            · subst e; exact x1 y m2 (by rw [hfp]; exact List.mem_cons_of_mem _ m1)
          · rcases List.mem_cons.mp m with rfl | m
            · exact ⟨0, by simp, a0⟩
            · rcases List.mem_append.mp m with m | m
              · exact ⟨0, by simp, by rw [hfp]; exact List.mem_cons_of_mem _ m⟩
              · exact ⟨1, by simp, m⟩
          · rw [upd_ne]
            · exact e
            · rintro rfl; exact hb 0 (by simp) a0
          · by_cases hb : b = a
            · subst hb; exact ⟨_, upd_same⟩
            · rw [upd_ne hb]
              rcases List.mem_cons.mp m with z | m
              · exact (hb z).elim
              · rcases List.mem_append.mp m with m | m
                · exact (w.out 0 b (by rw [hfp]; exact List.mem_cons_of_mem _ m)).2.2
                · exact (w.out 1 b m).2.2
        have R4 := R3.store (i := i)
        rw [List.set_set] at R4
        rw [set_self q3] at R4
        exact k σ _ F1 f1 (Pin.refl _ _) R4
    · cases q
  · cases q
end

/-! ### tuple targets whose parts are stores -/
def tGFs (K : PySem.W.Frag) (ws : List Nat) (g : List D → Sto → Option Sto) : TGs := fun vs σ H Q => ∃ G ρ F ds ρ', g ds ρ = some ρ' ∧ Rel K G ρ σ H F ∧ RpL K F ds vs ∧
  ∀ σ' H' F', Same F F' → Dif ws σ σ' → Rel K G ρ' σ' H' F' → Q σ' H'
abbrev PGFs (X : Cx) (ws : List Nat) (tg : List Expr) (g : List D → Sto → Option Sto) : Prop := PGs X tg (tGFs X.K ws g)
section
variable {X : Cx} {pos : Pos} {ws ws2 : List Nat}
theorem pgfs_nil : PGFs X [] [] gsNil := by
  refine pgs_imp pgs_nil fun vs σ H Q ⟨G, ρ, F, ds, ρ', q, R, r, k⟩ => ?_
  cases ds with
  | nil =>
    cases q
    exact ⟨RpL.nil_inv r, k σ H F (Same.refl _) (Dif.refl _ _) R⟩
  | cons d ds => cases q
theorem pgfs_cons {e : Expr} {es : List Expr} {g : D → Sto → Option Sto} {h : List D → Sto → Option Sto} (h1 : PGF X ws .z e g) (h2 : PGFs X ws2 es h)
    (hs : (assignEach (e :: es) X.env).map (·.2) = assign e X.env :: (assignEach es X.env).map (·.2) := by rfl) : PGFs X (ws ++ ws2) (e :: es) (gsCons g h) := by
  refine pgs_imp (pgs_cons h1 h2 hs) fun vs σ H Q ⟨G, ρ, F, ds, ρ', q, R, r, k⟩ => ?_
  cases ds with
  | nil => cases q
  | cons d ds =>
    obtain ⟨v, rest, rfl, r1, r2⟩ := RpL.cons_inv r
    have q : (g d ρ).bind (h ds) = some ρ' := q
    obtain ⟨ρ1, q1, q⟩ := bind_some' q
    refine ⟨v, rest, rfl, G, ρ, F, d, ρ1, q1, R.addz r1, fun σ1 H1 F1 f1 d1 R1 => ?_⟩
    exact ⟨G, ρ1, F1, ds, ρ', q, R1, RpL.mono f1 _ _ r2, fun σ2 H2 F2 f2 d2 R2 => k σ2 H2 F2 (f1.trans f2) ((d1.mono fun j m => List.mem_append_left _ m).trans (d2.mono fun j m => List.mem_append_right _ m)) R2⟩
theorem pgf_tup {es : List Expr} {k : Nat} {g : List D → Sto → Option Sto} {n : Nat} (hc : X.calm = true) (h : PGFs X ws es g)
    (hn : (assignEach es X.env).length = n := by rfl) (hst : (assignEach es X.env).findIdx? (·.1) = none := by rfl) : PGF X ws .z (.Tuple es k pos) (gTupF n g) := by
  refine pg_imp (L2.pg_tup hc h hn hst) fun v σ H Q ⟨G, ρ, F, d, ρ', q, R, k⟩ => ?_
  obtain ⟨fp, r⟩ := R.get0
  cases d <;> simp only [gTupF] at q <;> try cases q
  rename_i ds
  split at q
  · rename_i hl
    obtain ⟨a, vs, rfl, ht, hr⟩ := r.1.tup
    exact ⟨a, vs, rfl, Same.tupT R.sub ht, by rw [← RpL.length hr]; exact hl, G, ρ, F, ds, ρ', q, R.drop, hr, k⟩
  · cases q
/-- a, b = x, y, what is owned among them -/
def sPar2 (i j : Nat) (s1 s2 : Sh) (fa fb : Sto → Option (D × Sto)) : Sto → Option Fl := fun ρ => (fa ρ).bind fun x => (fb x.2).map fun y => .nx ((y.2.set i (some (s1, x.1))).set j (some (s2, y.1)))
theorem sv_par2 {i j : Nat} {x y : Str} {a b : Expr} {s1 s2 rs : Sh} {io : List Nat} {fa fb : Sto → Option (D × Sto)} {px py pt pos : Pos} {kt k2 pt2} (hc : X.calm = true) (hN : X.N.Nodup) (hi : X.N[i]? = some x) (hj : X.N[j]? = some y) (hij : i ≠ j)
    (hx : X.env.scope.names.lookup x = some .local) (hy : X.env.scope.names.lookup y = some .local) (ha : EF X s1 a fa) (hb : EF X s2 b fb) (hwi : io.contains i = false) (hwj : io.contains j = false)
    (hw : swappedStores [.Tuple [.Name x px, .Name y py] kt pt] (.Tuple [a, b] k2 pt2) X.env = pure (some [x, y]))
    (hs : swapsWithSole [.Tuple [.Name x px, .Name y py] kt pt] (.Tuple [a, b] k2 pt2) pos.line X.env = pure false := by rfl)
    (hs1 : starEach (a :: [b]) X.env = (false, eval a X.env) :: starEach [b] X.env := by rfl) (hs2 : starEach (b :: []) X.env = (false, eval b X.env) :: starEach [] X.env := by rfl) :
    SV X rs io (.Assign [.Tuple [.Name x px, .Name y py] kt pt] (.Tuple [a, b] k2 pt2) pos) (sPar2 i j s1 s2 fa fb) := by
  refine ps_imp (ps_par hc hN hi hj hij hx hy (pa_cons ha (pa_cons hb pa_nil hs2) hs1) hw hs) fun Z σ H ⟨G, ρ, F, fl, q, R, k⟩ => ?_
  unfold sPar2 at q
  obtain ⟨⟨d, ρ1⟩, q1, q⟩ := bind_some' q
  obtain ⟨⟨e, ρ2⟩, q2, q3⟩ := map_some' q
  subst q3
  refine ⟨G, ρ, F, d, ρ1, q1, R, fun v H1 F1 f1 R1 => ?_⟩
  obtain ⟨G', R2, back⟩ := R1.frame
  refine ⟨G', ρ1, F1, e, ρ2, q2, R2, fun w H2 F2 f2 R3 => ?_⟩
  have R4 := back _ _ H2 F2 f2 R3
  have R5 := R4.store (i := i + 1)
  simp only [List.set_cons_succ] at R5
  have R6 := R5.store (i := j)
  exact ⟨v, w, rfl, k _ H2 F2 (f1.trans f2) (((Dif.set (i := i)).pin (by simp at hwi ⊢; exact hwi)).trans ((Dif.set (i := j)).pin (by simp at hwj ⊢; exact hwj))) R6⟩
/-- name = what a rule of its own reads -/
theorem sv_ofAsg {st : Stmt} {T : TE} {i : Nat} {s rs : Sh} {io : List Nat} {fe : Sto → Option (D × Sto)} (h : PS X st (tAsg T (gName i))) (hT : ∀ σ H Q, tEF X.K s fe σ H Q → T σ H Q) (hw : io.contains i = false) : SV X rs io st (sSet i s fe) := by
  refine ps_imp h fun Z σ H ⟨G, ρ, F, fl, q, R, k⟩ => ?_
  unfold sSet at q
  obtain ⟨⟨d, ρ1⟩, q1, rfl⟩ := map_some' q
  exact hT σ H _ ⟨G, ρ, F, d, ρ1, q1, R, fun v H1 F1 f1 R1 => k _ H1 F1 f1 ((Dif.set (i := i)).pin (by simp at hw ⊢; exact hw)) R1.store⟩
/-- x is not y, of bools -/
def dNotB : D → D → Option D
  | .bl a, .bl b => some (.bl (!decide (a = b)))
  | _, _ => none
theorem od_notB {K : PySem.W.Frag} {s1 s2 : Sh} : OpD K s1 s2 rNotB dNotB := by
  intro x y d q G ρ σ H F v u Q R hx hy kk
  cases x <;> cases y <;> simp only [dNotB] at q <;> try cases q
  obtain ⟨fp, hx⟩ := hx
  obtain ⟨fp', hy⟩ := hy
  exact ⟨_, _, (hx.sc rfl).bl, (hy.sc rfl).bl, kk _ H F (Same.refl _) (Same.refl _) R (by simp only [Rp])⟩
end
end VL

set_option Elab.async false
set_option linter.all false
set_option maxRecDepth 100000
/-! VLw: comprehensions with effects, with two fors; zip; displays; methods that change their object. -/
noncomputable section
namespace VL
open PySem PySem.Spec PyProof.Rows L2

/-! ### comprehensions with effects -/
/-- the items made, the store behind -/
def lcE (vs : List Nat) (g : D → Sto → Option Sto) (ft : Sto → Option (Bool × Sto)) (fe : Sto → Option (D × Sto)) : List D → Sto → Option (List D × Sto)
  | [], ρ => some ([], ρ)
  | x :: xs, ρ => (g x (wipeS ρ vs)).bind fun ρ1 => (ft ρ1).bind fun b => if b.1 then (fe b.2).bind fun y => (lcE vs g ft fe xs (patch vs ρ y.2)).map fun ys => (y.1 :: ys.1, ys.2) else lcE vs g ft fe xs (patch vs ρ b.2)
def eLc (vs : List Nat) (fi : Sto → Option (List D)) (g : D → Sto → Option Sto) (ft : Sto → Option (Bool × Sto)) (fe : Sto → Option (D × Sto)) : Sto → Option (D × Sto) := fun ρ =>
  if PlainAt ρ vs then (fi ρ).bind fun ds => if ds.length ≤ 1000000 then (lcE vs g ft fe ds ρ).map fun r => (D.lst r.1, r.2) else none else none
theorem plainAt_patch {vs : List Nat} {ρ ρ1 : Sto} (h : PlainAt ρ vs = true) : PlainAt (VL.patch vs ρ ρ1) vs = true := by
  refine List.all_eq_true.mpr fun j m => ?_
  have h1 := List.all_eq_true.mp h j m
  by_cases hj : j < ρ.length
  · rw [patch_get hj]
    simp only [m, if_true]
    rw [List.getElem?_eq_getElem hj] at h1 ⊢
    simpa using h1
  · rw [List.getElem?_eq_none (by unfold VL.patch; simpa using hj)]
theorem tLcE_of {K : PySem.W.Frag} {s : Sh} {ws vs : List Nat} {fi : Sto → Option (List D)} {g : D → Sto → Option Sto} {ft : Sto → Option (Bool × Sto)} {fe : Sto → Option (D × Sto)} (gok : ∀ d ρ ρ', g d ρ = some ρ' → Kept ws ρ ρ') (hw' : ∀ j ∈ ws, j ∈ vs)
    (σ : L2.St) (H : Hp) (Q : VK) (h : tEF K (.seq s) (eLc vs fi g ft fe) σ H Q) : tLc (tIP K fi) (tG K ws g) (tET K ft) (tEF K s fe) vs σ H Q := by
  obtain ⟨G, ρ, F, d, ρz, q, R, k⟩ := h
  unfold eLc at q
  split at q
  · rename_i pl
    obtain ⟨ds, q1, q⟩ := bind_some' q
    split at q
    · rename_i hlen
      obtain ⟨⟨ys, ρy⟩, q2, q3⟩ := map_some' q
      cases q3
      refine ⟨G, ρ, F, ds, q1, R, fun J H1 F1 f1 h1 R1 it => ?_⟩
      intro L hL
      have R1L : Rel K G (some (.seq s, .lst []) :: ρ) (some (.ref L) :: σ) (upd H1 L (.lst [])) F1 := R1.addNew hL ⟨L, [], [], rfl, upd_same, ⟨rfl, rfl⟩, rfl⟩
      refine ⟨fun i m H' => m = ds.length - i ∧ i ≤ ds.length ∧ ∃ F' ρi acc rest, Same F1 F' ∧ PlainAt ρi vs = true ∧ Rel K G (some (.seq s, .lst acc) :: ρi) (some (.ref L) :: σ) H' F' ∧ lcE vs g ft fe (ds.drop i) ρi = some (rest, ρy) ∧ acc ++ rest = ys ∧ acc.length ≤ i, ⟨ds.length, by simp, Nat.zero_le _, F1, ρ, [], ys, Same.refl _, pl, R1L, by simpa using q2, rfl, Nat.le_refl _⟩, ?_⟩
      rintro i m H2 ⟨rfl, hi, F2, ρi, acc, rest, f2, pli, R2, l2, e2, al⟩
      by_cases hlt : i < ds.length
      · refine .inr ⟨it.go i H2 F2 hlt f2 R2.sub, fun H' => i + 1 ≤ ds.length ∧ ∃ F' ρi acc rest, Same F1 F' ∧ PlainAt ρi vs = true ∧ Rel K G (some (.seq s, .lst acc) :: ρi) (some (.ref L) :: σ) H' F' ∧ lcE vs g ft fe (ds.drop (i + 1)) ρi = some (rest, ρy) ∧ acc ++ rest = ys ∧ acc.length ≤ i + 1, fun H' p => ⟨ds.length - (i + 1), by omega, rfl, p⟩, fun x H3 y3 => ?_⟩
        have hd : ds[i]? = some ds[i] := by simp [hlt]
        obtain ⟨F3, f3, h3, R3, r3⟩ := it.yld i H2 x H3 y3 _ hd G _ _ F2 f2 R2
        rw [List.drop_eq_getElem_cons hlt] at l2
        unfold lcE at l2
        obtain ⟨ρ1, p1, l2⟩ := bind_some' l2
        obtain ⟨G', R4, back⟩ := R3.frame
        refine ⟨G', _, F3, _, ρ1, p1, R4.wipe vs, r3, fun σ5 H5 F5 f5 h5 d5 R5 => ⟨d5.wipe hw', ?_⟩⟩
        have d5' : Dif vs σ σ5 := ⟨by have := d5.len; rw [wipe_length] at this; exact this, fun j hj => by rw [d5.at' j fun m => hj (hw' j m), wipe_ne hj]⟩
        obtain ⟨⟨b, ρb⟩, p2, l2⟩ := bind_some' l2
        refine ⟨G', ρ1, F5, b, ρb, p2, R5, fun H6 F6 f6 R6 => ?_⟩
        cases b with
        | false =>
          simp only [Bool.false_eq_true, if_false] at l2 ⊢
          exact ⟨hlt, F6, _, acc, rest, f2.trans (f3.trans (f5.trans f6)), plainAt_patch pli, back _ σ H6 F6 (f5.trans f6) (Rel.patch R4 R6 (f5.trans f6) pli d5'), l2, e2, by omega⟩
        | true =>
          simp only [if_true] at l2 ⊢
          obtain ⟨⟨y, ρy'⟩, p3, l2⟩ := bind_some' l2
          obtain ⟨⟨rest', ρr⟩, p4, l2⟩ := map_some' l2
          cases l2
          refine ⟨G', ρb, F6, y, ρy', p3, R6, fun v H7 F7 f7 R7 => ?_⟩
          obtain ⟨G2, R8, back2⟩ := R7.frame
          have ff : Same F3 F7 := f5.trans (f6.trans f7)
          have R9 := back _ _ H7 F7 ff (back2 _ σ H7 F7 (Same.refl _) (Rel.patch R4 R8 ff pli d5'))
          obtain ⟨a, us, ea, ha, hl, R10⟩ := R9.snoc
          cases ea
          refine ⟨us, ha, ?_, hlt, F7, _, acc ++ [y], rest', f2.trans (f3.trans ff), plainAt_patch pli, R10, p4, by rw [← e2]; simp, by simp; omega⟩
          rw [hl]
          exact Nat.lt_of_le_of_lt (Nat.le_trans al (Nat.le_trans hi hlen)) (by rw [sizeLine_eq]; decide)
      · have e : i = ds.length := by omega
        subst e
        rw [List.drop_length] at l2
        cases l2
        rw [List.append_nil] at e2
        subst e2
        exact .inl ⟨it.stop H2 F2 f2 R2.sub, k _ H2 F2 (f1.trans f2) R2⟩
    · cases q
  · cases q
section
variable {X : Cx} {elt tg iter : Expr} {ifs : List Expr} {scope : Scope} {own : List (Str × Nat)} {ws : List Nat} {pos : Pos} {s : Sh} {fi : Sto → Option (List D)} {g : D → Sto → Option Sto} {ft : Sto → Option (Bool × Sto)} {fe : Sto → Option (D × Sto)}
theorem ptsE_nil : PTs X [] (tET X.K (upT fun _ => some true)) := by
  refine ⟨fun pins s σ H Q I ⟨G, ρ, F, b, ρ', q, R, k⟩ => ?_⟩
  cases q
  exact pts_nil.run pins s σ H Q I (k H F (Same.refl _) R)
theorem ptsE_one {c : Expr} (h : ETV X c ft) : PTs X [c] (tET X.K ft) := pts_one h
theorem ef_lc (hc : X.calm = true) (hN : X.N.Nodup) (hi : IPV X tg iter fi) (ok : BlkOk X.N X.env.scope scope own)
    (hg : Blk X scope fun Y => PGV Y ws tg g) (ht : Blk X scope fun Y => PTs Y ifs (tET Y.K ft)) (he : Blk X scope fun Y => EF Y s elt fe)
    (hw : (ws.all fun j => (own.map (·.2)).contains j) = true) (hs : ∀ x, foldedSetIterable iter X.env x = pure x := by intro _; rfl) :
    EF X (.seq s) (.ListComp elt [⟨tg, iter, ifs, 0⟩] scope pos) (eLc (own.map (·.2)) fi g ft fe) :=
  pe_imp (pe_lc (te := tEF X.K s fe) (tt := tET X.K ft) (g := tG X.K ws g) hc hN hi ok (fun s H C cl fp => (hg s H C cl fp).pg) ht he hs)
    (tLcE_of (hg ({} : Shared) (fun _ => none) 0 [] []).ok fun j m => by simpa using List.all_eq_true.mp hw j m)
theorem sv_setLcE {i : Nat} {y : Str} {py spos : Pos} {rs : Sh} {io : List Nat} (hc : X.calm = true) (hN : X.N.Nodup) (hy : X.N[i]? = some y) (hyl : X.env.scope.names.lookup y = some .local)
    (hsw : swapsWith (.ListComp elt [⟨tg, iter, ifs, 0⟩] scope pos) (some (.Name y py)) spos.line X.env = pure true) (hi : IPV X tg iter fi) (ok : BlkOk X.N X.env.scope scope own)
    (hg : Blk X scope fun Y => PGV Y ws tg g) (ht : Blk X scope fun Y => PTs Y ifs (tET Y.K ft)) (he : Blk X scope fun Y => EF Y s elt fe)
    (hw : (ws.all fun j => (own.map (·.2)).contains j) = true) (hio : io.contains i = false) (hs : ∀ x, foldedSetIterable iter X.env x = pure x := by intro _; rfl) :
    SV X rs io (.Assign [.Name y py] (.ListComp elt [⟨tg, iter, ifs, 0⟩] scope pos) spos) (sSet i (.seq s) (eLc (own.map (·.2)) fi g ft fe)) :=
  sv_ofAsg (ps_setLc (te := tEF X.K s fe) (tt := tET X.K ft) (g := tG X.K ws g) hc hN hy hyl hsw hi ok (fun s H C cl fp => (hg s H C cl fp).pg) ht he hs)
    (tLcE_of (hg ({} : Shared) (fun _ => none) 0 [] []).ok fun j m => by simpa using List.all_eq_true.mp hw j m) hio
end

/-! ### two fors -/
/-- the items that a comprehension with two fors makes -/
def lc2L (vs1 : List Nat) (g : D → Sto → Option Sto) (ft : Sto → Option Bool) (fi1 : Sto → Option (List D)) (g1 : D → Sto → Option Sto) (ft1 : Sto → Option Bool) (fe : Sto → Option D) (ρ : Sto) : List D → Option (List D)
  | [] => some []
  | x :: xs => (g x ρ).bind fun ρ1 => (ft ρ1).bind fun b => if b then (if PlainAt ρ1 vs1 then (fi1 ρ1).bind fun ds1 => (lcL g1 ft1 fe (wipeS ρ1 vs1) ds1).bind fun ys => (lc2L vs1 g ft fi1 g1 ft1 fe ρ xs).map fun zs => ys ++ zs else none) else lc2L vs1 g ft fi1 g1 ft1 fe ρ xs
def vLc2 (vs vs1 : List Nat) (fi : Sto → Option (List D)) (g : D → Sto → Option Sto) (ft : Sto → Option Bool) (fi1 : Sto → Option (List D)) (g1 : D → Sto → Option Sto) (ft1 : Sto → Option Bool) (fe : Sto → Option D) : Sto → Option D := fun ρ =>
  if PlainAt ρ vs then (fi ρ).bind fun ds => (lc2L vs1 g ft fi1 g1 ft1 fe (wipeS ρ vs) ds).bind fun ys => if ys.length ≤ 1000000 then some (D.lst ys) else none else none
theorem tLc2_of {K : PySem.W.Frag} {s : Sh} {ws ws1 vs vs1 : List Nat} {fi fi1 : Sto → Option (List D)} {g g1 : D → Sto → Option Sto} {ft ft1 : Sto → Option Bool} {fe : Sto → Option D} (gok : ∀ d ρ ρ', g d ρ = some ρ' → Kept ws ρ ρ') (gok1 : ∀ d ρ ρ', g1 d ρ = some ρ' → Kept ws1 ρ ρ') (hw' : ∀ j ∈ ws, j ∈ vs) (hw1 : ∀ j ∈ ws1, j ∈ vs1)
    (σ : L2.St) (H : Hp) (Q : VK) (h : tPF K (.seq s) (vLc2 vs vs1 fi g ft fi1 g1 ft1 fe) σ H Q) : tLc2 (tIP K fi) (tG K ws g) (tPT K ft) (tIP K fi1) (tG K ws1 g1) (tPT K ft1) (tPF K s fe) vs vs1 σ H Q := by
  obtain ⟨G, ρ, F, d, q, R, k⟩ := h
  unfold vLc2 at q
  split at q
  · rename_i pl
    obtain ⟨ds, q1, q⟩ := bind_some' q
    obtain ⟨ys, q2, q⟩ := bind_some' q
    split at q
    · rename_i hlen
      cases q
      refine ⟨G, ρ, F, ds, q1, R, fun J H1 F1 f1 h1 R1 it => ?_⟩
      intro L hL
      have R1L : Rel K G (some (.seq s, .lst []) :: ρ) (some (.ref L) :: σ) (upd H1 L (.lst [])) F1 := R1.addNew hL ⟨L, [], [], rfl, upd_same, ⟨rfl, rfl⟩, rfl⟩
      refine ⟨fun i m H' => m = ds.length - i ∧ i ≤ ds.length ∧ ∃ F' acc rest, Same F1 F' ∧ Same H1 H' ∧ Rel K G (some (.seq s, .lst acc) :: ρ) (some (.ref L) :: σ) H' F' ∧ lc2L vs1 g ft fi1 g1 ft1 fe (wipeS ρ vs) (ds.drop i) = some rest ∧ acc ++ rest = ys, ⟨ds.length, by simp, Nat.zero_le _, F1, [], ys, Same.refl _, Same.upd hL, R1L, by simpa using q2, rfl⟩, ?_⟩
      rintro i m H2 ⟨rfl, hi, F2, acc, rest, f2, h2, R2, l2, e2⟩
      by_cases hlt : i < ds.length
      · refine .inr ⟨it.go i H2 F2 hlt f2 R2.sub, fun H' => i + 1 ≤ ds.length ∧ ∃ F' acc rest, Same F1 F' ∧ Same H1 H' ∧ Rel K G (some (.seq s, .lst acc) :: ρ) (some (.ref L) :: σ) H' F' ∧ lc2L vs1 g ft fi1 g1 ft1 fe (wipeS ρ vs) (ds.drop (i + 1)) = some rest ∧ acc ++ rest = ys, fun H' p => ⟨ds.length - (i + 1), by omega, rfl, p⟩, fun x H3 y3 => ?_⟩
        have hd : ds[i]? = some ds[i] := by simp [hlt]
        obtain ⟨F3, f3, h3, R3, r3⟩ := it.yld i H2 x H3 y3 _ hd G _ _ F2 f2 R2
        rw [List.drop_eq_getElem_cons hlt] at l2
        unfold lc2L at l2
        obtain ⟨ρ1, p1, l2⟩ := bind_some' l2
        obtain ⟨G', R4, back⟩ := R3.frame
        refine ⟨G', _, F3, _, ρ1, p1, R4.wipe vs, r3, fun σ5 H5 F5 f5 h5 d5 R5 => ⟨d5.wipe hw', ?_⟩⟩
        have d5' : Dif vs σ σ5 := ⟨by have := d5.len; rw [wipe_length] at this; exact this, fun j hj => by rw [d5.at' j fun m => hj (hw' j m), wipe_ne hj]⟩
        have dk : ∀ j, j ∉ vs → ρ1[j]? = ρ[j]? := fun j hj => by rw [(gok _ _ _ p1).2 j fun m => hj (hw' j m), wipeS_ne hj]
        obtain ⟨b, p2, l2⟩ := bind_some' l2
        refine ⟨G', ρ1, F5, b, p2, R5, fun H6 F6 f6 h6 R6 => ?_⟩
        cases b with
        | false =>
          simp only [Bool.false_eq_true, if_false] at l2 ⊢
          exact ⟨hlt, F6, acc, rest, f2.trans (f3.trans (f5.trans f6)), h2.trans (h3.trans (h5.trans h6)), back ρ σ H6 F6 (f5.trans f6) (Rel.back R4 R6 (f5.trans f6) pl d5' dk), l2, e2⟩
        | true =>
          simp only [if_true] at l2 ⊢
          split at l2
          · rename_i pl1
            obtain ⟨ds1, p3, l2⟩ := bind_some' l2
            obtain ⟨ys1, p4, l2⟩ := bind_some' l2
            obtain ⟨zs, p5, l2⟩ := map_some' l2
            subst l2
            refine ⟨G', ρ1, F6, ds1, p3, R6, fun J1 H7 F7 f7 h7 R7 it1 => ?_⟩
            -- the inner walk: the list is ahead of the block's store
            have R7L : Rel K G (some (.seq s, .lst acc) :: ρ1) (some (.ref L) :: σ5) H7 F7 := back _ _ H7 F7 (f5.trans (f6.trans f7)) R7
            have ff7 : Same F2 F7 := f3.trans (f5.trans (f6.trans f7))
            have hh7 : Same H2 H7 := h3.trans (h5.trans (h6.trans h7))
            refine ⟨fun j m H' => m = ds1.length - j ∧ j ≤ ds1.length ∧ ∃ F' acc1 rest1, Same F7 F' ∧ Same H1 H' ∧ Rel K G (some (.seq s, .lst (acc ++ acc1)) :: ρ1) (some (.ref L) :: σ5) H' F' ∧ lcL g1 ft1 fe (wipeS ρ1 vs1) (ds1.drop j) = some rest1 ∧ acc1 ++ rest1 = ys1, ⟨ds1.length, by simp, Nat.zero_le _, F7, [], ys1, Same.refl _, h2.trans hh7, by simpa using R7L, by simpa using p4, rfl⟩, ?_⟩
            rintro j m H8 ⟨rfl, hj, F8, acc1, rest1, f8, h8, R8, l8, e8⟩
            by_cases hlt1 : j < ds1.length
            · refine .inr ⟨it1.go j H8 F8 hlt1 f8 R8.sub, fun H' => j + 1 ≤ ds1.length ∧ ∃ F' acc1 rest1, Same F7 F' ∧ Same H1 H' ∧ Rel K G (some (.seq s, .lst (acc ++ acc1)) :: ρ1) (some (.ref L) :: σ5) H' F' ∧ lcL g1 ft1 fe (wipeS ρ1 vs1) (ds1.drop (j + 1)) = some rest1 ∧ acc1 ++ rest1 = ys1, fun H' p => ⟨ds1.length - (j + 1), by omega, rfl, p⟩, fun x1 H9 y9 => ?_⟩
              have hd1 : ds1[j]? = some ds1[j] := by simp [hlt1]
              obtain ⟨F9, f9, h9, R9, r9⟩ := it1.yld j H8 x1 H9 y9 _ hd1 G _ _ F8 f8 R8
              rw [List.drop_eq_getElem_cons hlt1] at l8
              unfold lcL at l8
              obtain ⟨ρ2, p6, l8⟩ := bind_some' l8
              obtain ⟨G9, R10, back9⟩ := R9.frame
              refine ⟨G9, _, F9, _, ρ2, p6, R10.wipe vs1, r9, fun σa Ha Fa fa ha da Ra => ⟨da.wipe hw1, ?_⟩⟩
              have da' : Dif vs1 σ5 σa := ⟨by have := da.len; rw [wipe_length] at this; exact this, fun j hj => by rw [da.at' j fun m => hj (hw1 j m), wipe_ne hj]⟩
              have dk1 : ∀ j, j ∉ vs1 → ρ2[j]? = ρ1[j]? := fun j hj => by rw [(gok1 _ _ _ p6).2 j fun m => hj (hw1 j m), wipeS_ne hj]
              obtain ⟨b1, p7, l8⟩ := bind_some' l8
              refine ⟨G9, ρ2, Fa, b1, p7, Ra, fun Hb Fb fb hb Rb => ?_⟩
              cases b1 with
              | false =>
                simp only [Bool.false_eq_true, if_false] at l8 ⊢
                exact ⟨hlt1, Fb, acc1, rest1, f8.trans (f9.trans (fa.trans fb)), h8.trans (h9.trans (ha.trans hb)), back9 ρ1 σ5 Hb Fb (fa.trans fb) (Rel.back R10 Rb (fa.trans fb) pl1 da' dk1), l8, e8⟩
              | true =>
                simp only [if_true] at l8 ⊢
                obtain ⟨y, p8, l8⟩ := bind_some' l8
                obtain ⟨rest', p9, l8⟩ := map_some' l8
                subst l8
                refine ⟨G9, ρ2, Fb, y, p8, Rb, fun v Hc Fc fc hc Rc => ?_⟩
                obtain ⟨G2, Rd, back2⟩ := Rc.frame
                have ff : Same F9 Fc := fa.trans (fb.trans fc)
                have Re := back9 _ _ Hc Fc ff (back2 ρ1 σ5 Hc Fc (Same.refl _) (Rel.back R10 Rd ff pl1 da' dk1))
                obtain ⟨a, us, ea, hha, hl, Rf⟩ := Re.snoc
                cases ea
                have hyl : (acc ++ acc1).length < ys.length := by
                  have := congrArg List.length e2
                  have e9 := congrArg List.length e8
                  simp at this e9 ⊢
                  omega
                refine ⟨us, hha, ?_, hlt1, Fc, acc1 ++ [y], rest', f8.trans (f9.trans ff), fun b o q => ?_, by rw [← List.append_assoc]; exact Rf, p9, by rw [← e8]; simp⟩
                · rw [hl]
                  exact Nat.lt_of_lt_of_le hyl (Nat.le_trans hlen (by rw [sizeLine_eq]; decide))
                · rw [upd_ne (ne_of_none q hL)]
                  exact (h8.trans (h9.trans (ha.trans (hb.trans hc)))) b o q
            · have e : j = ds1.length := by omega
              subst e
              rw [List.drop_length] at l8
              cases l8
              rw [List.append_nil] at e8
              subst e8
              refine .inl ⟨it1.stop H8 F8 f8 R8.sub, hlt, F8, acc ++ acc1, zs, f2.trans (ff7.trans f8), h8, ?_, p5, by rw [← e2]; simp⟩
              -- back to the outer store
              obtain ⟨G8, Ra, back8⟩ := R8.frame
              exact back8 ρ σ H8 F8 (Same.refl _) (Rel.back R4 Ra (f5.trans (f6.trans (f7.trans f8))) pl d5' dk)
          · cases l2
      · have e : i = ds.length := by omega
        subst e
        rw [List.drop_length] at l2
        cases l2
        rw [List.append_nil] at e2
        subst e2
        exact .inl ⟨it.stop H2 F2 f2 R2.sub, k _ H2 F2 (f1.trans f2) (h1.trans h2) R2⟩
    · cases q
  · cases q
section
variable {X : Cx} {elt tg iter tg1 iter1 : Expr} {ifs ifs1 : List Expr} {scope : Scope} {own : List (Str × Nat)} {ws ws1 vs1 : List Nat} {pos : Pos} {s : Sh} {fi fi1 : Sto → Option (List D)} {g g1 : D → Sto → Option Sto} {ft ft1 : Sto → Option Bool} {fe : Sto → Option D}
theorem fp_lc2 (hc : X.calm = true) (hN : X.N.Nodup) (hi : IPV X tg iter fi) (ok : BlkOk X.N X.env.scope scope own) (hv : (vs1.all fun i => (own.map (·.2)).contains i) = true)
    (hg : Blk X scope fun Y => PGV Y ws tg g) (ht : Blk X scope fun Y => PTs Y ifs (tPT Y.K ft)) (hi1 : Blk X scope fun Y => IPV Y tg1 iter1 fi1) (hg1 : Blk X scope fun Y => PGV Y ws1 tg1 g1) (ht1 : Blk X scope fun Y => PTs Y ifs1 (tPT Y.K ft1)) (he : Blk X scope fun Y => FP Y s elt fe)
    (hw : (ws.all fun j => (own.map (·.2)).contains j) = true) (hw1 : (ws1.all fun j => vs1.contains j) = true) (hs : ∀ x, foldedSetIterable iter X.env x = pure x := by intro _; rfl) (hs1 : ∀ env x, foldedSetIterable iter1 env x = pure x := by intro _ _; rfl) :
    FP X (.seq s) (.ListComp elt [⟨tg, iter, ifs, 0⟩, ⟨tg1, iter1, ifs1, 0⟩] scope pos) (vLc2 (own.map (·.2)) vs1 fi g ft fi1 g1 ft1 fe) :=
  pe_imp (pe_lc2 (te := tPF X.K s fe) (tt := tPT X.K ft) (tt1 := tPT X.K ft1) (g := tG X.K ws g) (g1 := tG X.K ws1 g1) hc hN hi ok (fun i m => by simpa using List.all_eq_true.mp hv i m) (fun s H C cl fp => (hg s H C cl fp).pg) ht hi1 (fun s H C cl fp => (hg1 s H C cl fp).pg) ht1 he hs hs1)
    (tLc2_of (hg ({} : Shared) (fun _ => none) 0 [] []).ok (hg1 ({} : Shared) (fun _ => none) 0 [] []).ok (fun j m => by simpa using List.all_eq_true.mp hw j m) fun j m => by simpa using List.all_eq_true.mp hw1 j m)
theorem sv_setLc2 {i : Nat} {y : Str} {py spos : Pos} {rs : Sh} {io : List Nat} (hc : X.calm = true) (hN : X.N.Nodup) (hy : X.N[i]? = some y) (hyl : X.env.scope.names.lookup y = some .local)
    (hsw : swapsWith (.ListComp elt [⟨tg, iter, ifs, 0⟩, ⟨tg1, iter1, ifs1, 0⟩] scope pos) (some (.Name y py)) spos.line X.env = pure true) (hi : IPV X tg iter fi) (ok : BlkOk X.N X.env.scope scope own) (hv : (vs1.all fun i => (own.map (·.2)).contains i) = true)
    (hg : Blk X scope fun Y => PGV Y ws tg g) (ht : Blk X scope fun Y => PTs Y ifs (tPT Y.K ft)) (hi1 : Blk X scope fun Y => IPV Y tg1 iter1 fi1) (hg1 : Blk X scope fun Y => PGV Y ws1 tg1 g1) (ht1 : Blk X scope fun Y => PTs Y ifs1 (tPT Y.K ft1)) (he : Blk X scope fun Y => FP Y s elt fe)
    (hw : (ws.all fun j => (own.map (·.2)).contains j) = true) (hw1 : (ws1.all fun j => vs1.contains j) = true) (hio : io.contains i = false) (hs : ∀ x, foldedSetIterable iter X.env x = pure x := by intro _; rfl) (hs1 : ∀ env x, foldedSetIterable iter1 env x = pure x := by intro _ _; rfl) :
    SV X rs io (.Assign [.Name y py] (.ListComp elt [⟨tg, iter, ifs, 0⟩, ⟨tg1, iter1, ifs1, 0⟩] scope pos) spos) (sSet i (.seq s) (up (vLc2 (own.map (·.2)) vs1 fi g ft fi1 g1 ft1 fe))) :=
  sv_ofAsg (ps_setLc2 (te := tPF X.K s fe) (tt := tPT X.K ft) (tt1 := tPT X.K ft1) (g := tG X.K ws g) (g1 := tG X.K ws1 g1) hc hN hy hyl hsw hi ok (fun i m => by simpa using List.all_eq_true.mp hv i m) (fun s H C cl fp => (hg s H C cl fp).pg) ht hi1 (fun s H C cl fp => (hg1 s H C cl fp).pg) ht1 he hs hs1)
    (fun σ H Q h => tLc2_of (hg ({} : Shared) (fun _ => none) 0 [] []).ok (hg1 ({} : Shared) (fun _ => none) 0 [] []).ok (fun j m => by simpa using List.all_eq_true.mp hw j m) (fun j m => by simpa using List.all_eq_true.mp hw1 j m) σ H Q (by
      obtain ⟨G, ρ, F, d, ρ', q, R, k⟩ := h
      obtain ⟨q1, rfl⟩ := up_some q
      exact ⟨G, ρ', F, d, q1, R, fun v H' F' f1 h1 R1 => k v H' F' f1 R1⟩)) hio
end
end VL

set_option Elab.async false
set_option linter.all false
set_option maxRecDepth 100000
/-! VLx: dicts walked (locked), zip, displays of dicts, methods that change their object. -/
noncomputable section
namespace VL
open PySem PySem.Spec PyProof.Rows L2 RZ

/-! ### a dict locked and unlocked -/
def isDic : HO → Bool
  | .dK _ => true
  | .dT _ => true
  | _ => false
/-- u, locked or not -/
def OrFrz (u o : HO) : Prop := o = u ∨ ∃ z, o = .frz z u
def LkR (F F' : Hp) : Prop := ∀ a o, F a = some o → ∃ o', F' a = some o' ∧ (o' = o ∨ ∃ u, isDic u = true ∧ OrFrz u o ∧ OrFrz u o')
section
variable {K : PySem.W.Frag} {G H H' F F' : Hp} {ρ : Sto} {σ : L2.St}
theorem LkR.plain {a : Addr} {o : HO} (e : LkR F F') (h : F a = some o) (n : ∀ u, isDic u = true → ¬ OrFrz u o) : F' a = some o := by
  obtain ⟨o', h', rfl | ⟨u, du, q, _⟩⟩ := e a o h
  · exact h'
  · exact (n u du q).elim
theorem LkR.lst {a : Addr} {vs : List V} (e : LkR F F') (h : F a = some (.lst vs)) : F' a = some (.lst vs) := e.plain h fun u du q => by
  rcases q with rfl | ⟨z, q⟩
  · cases du
  · cases q
theorem LkR.ins {a : Addr} {C dx : Addr} {fs : List (Str × V)} (e : LkR F F') (h : F a = some (.ins C dx fs)) : F' a = some (.ins C dx fs) := e.plain h fun u du q => by
  rcases q with rfl | ⟨z, q⟩
  · cases du
  · cases q
theorem LkR.rdN {a : Addr} {u0 : HO} (e : LkR F F') (n : isDic u0 = false) (n2 : ∀ z u, u0 ≠ .frz z u) (h : Rd F a u0) : Rd F' a u0 := by
  rcases h with h | ⟨z, h⟩
  · exact .inl (e.plain h fun u du q => by
      rcases q with rfl | ⟨z, q⟩
      · rw [n] at du; cases du
      · exact n2 _ _ q)
  · exact .inr ⟨z, e.plain h fun u du q => by
      rcases q with rfl | ⟨z, q⟩
      · cases du
      · cases q; rw [n] at du; cases du⟩
theorem LkR.rdD {a : Addr} {u0 : HO} (e : LkR F F') (d : isDic u0 = true) (h : Rd F a u0) : Rd F' a u0 := by
  have fin : ∀ o, F a = some o → OrFrz u0 o → Rd F' a u0 := fun o h1 h2 => by
    obtain ⟨o', h', rfl | ⟨u, du, q1, q2⟩⟩ := e a o h1
    · rcases h2 with rfl | ⟨z, rfl⟩
      · exact .inl h'
      · exact .inr ⟨z, h'⟩
    · have eu : u = u0 := by
        rcases h2 with rfl | ⟨z, rfl⟩
        · rcases q1 with rfl | ⟨z, rfl⟩
          · rfl
          · cases d
        · rcases q1 with rfl | ⟨z', q1⟩
          · cases du
          · cases q1; rfl
      subst eu
      rcases q2 with rfl | ⟨z, rfl⟩
      · exact .inl h'
      · exact .inr ⟨z, h'⟩
  rcases h with h | ⟨z, h⟩
  · exact fin _ h (.inl rfl)
  · exact fin _ h (.inr ⟨z, rfl⟩)
mutual
theorem Rp.lk (e : LkR F F') : ∀ (d : D) (v : V), Rp K F d v → Rp K F' d v
  | .non, _, h => h
  | .bl _, _, h => h
  | .int _, _, h => h
  | .str _, _, h => h
  | .tup ds, v, h => by
    obtain ⟨a, vs, e1, h1, h2⟩ := h.tup
    simp only [Rp]
    refine ⟨a, vs, e1, ?_, RpL.lk e ds vs h2⟩
    rcases h1 with h | h
    · exact .inl (e.rdN rfl (by intro _ _ z; cases z) h)
    · exact .inr h
  | .lst ds, v, h => by
    obtain ⟨a, vs, e1, h1, h2⟩ := h.lstH
    simp only [Rp]
    exact ⟨a, vs, e1, e.lst h1, RpL.lk e ds vs h2⟩
  | .lstK ds, v, h => by
    simp only [Rp] at h ⊢
    obtain ⟨a, vs, e1, h1, h2⟩ := h
    refine ⟨a, vs, e1, ?_, RpL.lk e ds vs h2⟩
    rcases h1 with h | h
    · exact .inl (e.rdN rfl (by intro _ _ z; cases z) h)
    · exact .inr h
  | .dicK ks ds, v, h => by
    simp only [Rp] at h ⊢
    obtain ⟨a, vs, e1, h1, h3, h2⟩ := h
    exact ⟨a, vs, e1, e.rdD rfl h1, h3, RpL.lk e ds vs h2⟩
  | .dicT ks ds, v, h => by
    simp only [Rp] at h ⊢
    obtain ⟨a, vs, e1, h1, h3, h2⟩ := h
    exact ⟨a, vs, e1, e.rdD rfl h1, h3, RpL.lk e ds vs h2⟩
  | .obj C ns ds, v, h => by
    simp only [Rp] at h ⊢
    obtain ⟨a, dx, vs, e1, h1, h3, h2⟩ := h
    exact ⟨a, dx, vs, e1, e.ins h1, h3, RpL.lk e ds vs h2⟩
  | .fn _, _, h => h
theorem RpL.lk (e : LkR F F') : ∀ (ds : List D) (vs : List V), RpL K F ds vs → RpL K F' ds vs
  | [], _, h => h
  | d :: ds, vs, h => by
    obtain ⟨v, r, rfl, h1, h2⟩ := RpL.cons_inv h
    exact RpL.cons (Rp.lk e d v h1) (RpL.lk e ds r h2)
end
/-- the owned part is as it was, the frozen part is read as before -/
theorem Ow.re (e : ∀ d v, Rp K F d v → Rp K F' d v) : ∀ {s : Sh} {d : D} {v : V} {fp : List Addr}, Ow K H F s d v fp → (∀ a ∈ fp, ∀ o, H a = some o → H' a = some o) → Ow K H' F' s d v fp := by
  intro s
  induction s with
  | z => intro d v fp h _; exact ⟨e _ _ h.1, h.2⟩
  | seq s ih =>
    intro d v fp h k
    cases d with
    | lst ds =>
      obtain ⟨a, vs, fp', e1, e2, h, rfl⟩ := h
      exact ⟨a, vs, fp', e1, k a List.mem_cons_self _ e2, OwL.mono h (fun d v f m q => ih q fun b hb => k b (List.mem_cons_of_mem _ (m b hb))), rfl⟩
    | dicK ks ds =>
      obtain ⟨a, vs, fp', e1, e2, e3, h, rfl⟩ := h
      exact ⟨a, vs, fp', e1, k a List.mem_cons_self _ e2, e3, OwL.mono h (fun d v f m q => ih q fun b hb => k b (List.mem_cons_of_mem _ (m b hb))), rfl⟩
    | dicT ks ds =>
      obtain ⟨a, vs, fp', e1, e2, e3, h, rfl⟩ := h
      exact ⟨a, vs, fp', e1, k a List.mem_cons_self _ e2, e3, OwL.mono h (fun d v f m q => ih q fun b hb => k b (List.mem_cons_of_mem _ (m b hb))), rfl⟩
    | _ => exact ⟨e _ _ h.1, h.2⟩
  | obj f ih =>
    intro d v fp h k
    cases d with
    | obj C ns ds =>
      obtain ⟨a, dx, vs, fp', e1, e2, h, rfl⟩ := h
      exact ⟨a, dx, vs, fp', e1, k a List.mem_cons_self _ e2, OwF.mono h (fun n d v f m q => ih n q fun b hb => k b (List.mem_cons_of_mem _ (m b hb))), rfl⟩
    | _ => exact ⟨e _ _ h.1, h.2⟩
theorem Rel.relock {a : Addr} {o o' u : HO} (R : Rel K G ρ σ H F) (h : F a = some o) (du : isDic u = true) (h1 : OrFrz u o) (h2 : OrFrz u o') : Rel K G ρ σ (L2.upd H a o') (L2.upd F a o') := by
  obtain ⟨fps, w⟩ := R
  have hG := w.fg a o h
  have ne : ∀ i b, b ∈ fps i → b ≠ a := fun i b m z => by
    have := (w.out i b m).1
    rw [z, h] at this; cases this
  have lk : LkR F (L2.upd F a o') := fun b p q => by
    by_cases z : b = a
    · subst z
      rw [h] at q; cases q
      exact ⟨o', upd_same, .inr ⟨u, du, h1, h2⟩⟩
    · exact ⟨p, by rw [upd_ne z]; exact q, .inl rfl⟩
  refine ⟨fps, fun i s d q => ?_, w.nd, w.dis, fun i b m => ?_, w.len, fun b p q => ?_, fun b p q => ?_, fun b p q => ?_⟩
  · obtain ⟨v, q1, q2⟩ := w.slot i s d q
    exact ⟨v, q1, q2.re (fun d v => Rp.lk lk d v) fun b m p z => by rw [upd_ne (ne i b m)]; exact z⟩
  · obtain ⟨g1, g2, p, g3⟩ := w.out i b m
    exact ⟨by rw [upd_ne (ne i b m)]; exact g1, g2, p, by rw [upd_ne (ne i b m)]; exact g3⟩
  · by_cases z : b = a
    · subst z; rw [upd_same] at q ⊢; exact q
    · rw [upd_ne z] at q ⊢; exact w.sub b p q
  · rw [upd_ne (fun z => by rw [z, hG] at q; cases q)]
    exact w.gsub b p q
  · by_cases z : b = a
    · rw [z]; exact hG
    · rw [upd_ne z] at q; exact w.fg b p q
theorem same_relock {a : Addr} {u z : HO} {F1 : Hp} (h : F a = some u) (e : Same (L2.upd F a z) F1) : Same F (L2.upd F1 a u) := fun b p q => by
  by_cases y : b = a
  · subst y; rw [h] at q; cases q; exact upd_same
  · rw [upd_ne y]; exact e b p (by rw [upd_ne y]; exact q)
end

/-! ### the keys walked -/
def keyD : L2.Key → D
  | .inl i => .int i
  | .inr x => .str x
theorem keyD_rp {K : PySem.W.Frag} {F : Hp} (k : L2.Key) : Rp K F (keyD k) (kV k) := by
  cases k <;> simp only [keyD, Rp] <;> rfl
theorem itv_keys {K : PySem.W.Frag} {F : Hp} {a : Addr} {z : Obj} {kvs : List (L2.Key × V)} (h : F a = some (.frz z (.dK kvs))) : ItV K (Itk a z kvs) (kvs.map fun p => keyD p.1) F := by
  refine ⟨fun i H F' hi s1 s2 => ⟨s2 _ _ (s1 _ _ h), by simpa using hi⟩, fun H F' s1 s2 => ⟨s2 _ _ (s1 _ _ h), by simp⟩, fun i H x H' y d q G ρ σ F' s1 R => ?_⟩
  obtain ⟨rfl, k, v, e, rfl⟩ := y
  rw [List.getElem?_map, e] at q
  cases q
  exact ⟨F', Same.refl _, Same.refl _, R, keyD_rp k⟩
/-- the name of a dict in slot i, walked while it is locked -/
def tIK (K : PySem.W.Frag) (i : Nat) : TI := fun σ H R => ∃ G ρ F a z kvs, σ[i]? = some (some (.ref a)) ∧ F a = some (.frz z (.dK kvs)) ∧ Rel K G ρ σ H F ∧
  (ItV K (Itk a z kvs) (kvs.map fun p => keyD p.1) F → R (Itk a z kvs) H)
theorem ip_keys {X : Cx} {tg : Expr} {i : Nat} {x : Str} {pos : Pos} (hN : X.N[i]? = some x) (hv : Vis X.env.scope x) (hd : (x == ("__debug__" : Str)) = false := by decide) (hcd : (x == ("__classdict__" : Str)) = false := by decide) : PI X tg (.Name x pos) (tIK X.K i) := by
  refine pi_imp (pi_keys (pe_var hN hv hd hcd)) fun σ H Q ⟨G, ρ, F, a, z, kvs, h1, h2, R, k⟩ => ?_
  exact ⟨.ref a, h1, a, z, rfl, .inl ⟨kvs, R.sub _ _ h2, k (itv_keys h2)⟩⟩
/-- the turns of a pure comprehension -/
theorem tLc_core {K : PySem.W.Frag} {s : Sh} {ws vs : List Nat} {J : It} {ds ys : List D} {g : D → Sto → Option Sto} {ft : Sto → Option Bool} {fe : Sto → Option D} {G H1 F1 : Hp} {ρ : Sto} {σ : L2.St} {Q : VK} (gok : ∀ d ρ ρ', g d ρ = some ρ' → Kept ws ρ ρ') (hw' : ∀ j ∈ ws, j ∈ vs)
    (R1 : Rel K G ρ σ H1 F1) (it : ItV K J ds F1) (pl : PlainAt ρ vs = true) (hlen : ds.length ≤ 1000000) (q2 : lcL g ft fe (wipeS ρ vs) ds = some ys)
    (k : ∀ v H' F', Same F1 F' → Same H1 H' → Rel K G (some (.seq s, .lst ys) :: ρ) (some v :: σ) H' F' → Q v H') :
    ∀ L, H1 L = none → ∃ W : Nat → Nat → Hp → Prop, (∃ m, W 0 m (L2.upd H1 L (.lst []))) ∧ ∀ i m H, W i m H →
      (J.stop i H ∧ Q (.ref L) H) ∨ (J.go i H ∧ ∃ Nx : Hp → Prop, (∀ H', Nx H' → ∃ m', m' < m ∧ W (i + 1) m' H') ∧ ∀ x H', J.yld i H x H' → tG K ws g x (wipe σ vs) H' fun σ2 H2 => wipe σ2 vs = wipe σ vs ∧ tPT K ft σ2 H2 fun b H3 =>
        if b = true then tPF K s fe σ2 H3 fun y H4 => ∃ acc, H4 L = some (.lst acc) ∧ acc.length < sizeLine ∧ Nx (L2.upd H4 L (.lst (acc ++ [y]))) else Nx H3) := by
  intro L hL
  have R1L : Rel K G (some (.seq s, .lst []) :: ρ) (some (.ref L) :: σ) (L2.upd H1 L (.lst [])) F1 := R1.addNew hL ⟨L, [], [], rfl, upd_same, ⟨rfl, rfl⟩, rfl⟩
  refine ⟨fun i m H' => m = ds.length - i ∧ i ≤ ds.length ∧ ∃ F' acc rest, Same F1 F' ∧ Same H1 H' ∧ Rel K G (some (.seq s, .lst acc) :: ρ) (some (.ref L) :: σ) H' F' ∧ lcL g ft fe (wipeS ρ vs) (ds.drop i) = some rest ∧ acc ++ rest = ys ∧ acc.length ≤ i, ⟨ds.length, by simp, Nat.zero_le _, F1, [], ys, Same.refl _, Same.upd hL, R1L, by simpa using q2, rfl, Nat.le_refl _⟩, ?_⟩
  rintro i m H2 ⟨rfl, hi, F2, acc, rest, f2, h2, R2, l2, e2, al⟩
  by_cases hlt : i < ds.length
  · refine .inr ⟨it.go i H2 F2 hlt f2 R2.sub, fun H' => i + 1 ≤ ds.length ∧ ∃ F' acc rest, Same F1 F' ∧ Same H1 H' ∧ Rel K G (some (.seq s, .lst acc) :: ρ) (some (.ref L) :: σ) H' F' ∧ lcL g ft fe (wipeS ρ vs) (ds.drop (i + 1)) = some rest ∧ acc ++ rest = ys ∧ acc.length ≤ i + 1, fun H' p => ⟨ds.length - (i + 1), by omega, rfl, p⟩, fun x H3 y3 => ?_⟩
    have hd : ds[i]? = some ds[i] := by simp [hlt]
    obtain ⟨F3, f3, h3, R3, r3⟩ := it.yld i H2 x H3 y3 _ hd G _ _ F2 f2 R2
    rw [List.drop_eq_getElem_cons hlt] at l2
    unfold lcL at l2
    obtain ⟨ρ1, p1, l2⟩ := bind_some' l2
    obtain ⟨G', R4, back⟩ := R3.frame
    refine ⟨G', _, F3, _, ρ1, p1, R4.wipe vs, r3, fun σ5 H5 F5 f5 h5 d5 R5 => ⟨d5.wipe hw', ?_⟩⟩
    have d5' : Dif vs σ σ5 := ⟨by have := d5.len; rw [wipe_length] at this; exact this, fun j hj => by rw [d5.at' j fun m => hj (hw' j m), wipe_ne hj]⟩
    obtain ⟨b, p2, l2⟩ := bind_some' l2
    refine ⟨G', ρ1, F5, b, p2, R5, fun H6 F6 f6 h6 R6 => ?_⟩
    have dk : ∀ j, j ∉ vs → ρ1[j]? = ρ[j]? := fun j hj => by rw [(gok _ _ _ p1).2 j fun m => hj (hw' j m), wipeS_ne hj]
    cases b with
    | false =>
      simp only [Bool.false_eq_true, if_false] at l2 ⊢
      exact ⟨hlt, F6, acc, rest, f2.trans (f3.trans (f5.trans f6)), h2.trans (h3.trans (h5.trans h6)), back ρ σ H6 F6 (f5.trans f6) (Rel.back R4 R6 (f5.trans f6) pl d5' dk), l2, e2, by omega⟩
    | true =>
      simp only [if_true] at l2 ⊢
      obtain ⟨y, p3, l2⟩ := bind_some' l2
      obtain ⟨rest', p4, l2⟩ := map_some' l2
      subst l2
      refine ⟨G', ρ1, F6, y, p3, R6, fun v H7 F7 f7 h7 R7 => ?_⟩
      obtain ⟨G2, R8, back2⟩ := R7.frame
      have ff : Same F3 F7 := f5.trans (f6.trans f7)
      have R9 := back _ _ H7 F7 ff (back2 ρ σ H7 F7 (Same.refl _) (Rel.back R4 R8 ff pl d5' dk))
      obtain ⟨a, us, ea, ha, hl, R10⟩ := R9.snoc
      cases ea
      refine ⟨us, ha, ?_, hlt, F7, acc ++ [y], rest', f2.trans (f3.trans ff), fun b o q => ?_, R10, p4, by rw [← e2]; simp, by simp; omega⟩
      · rw [hl]
        exact Nat.lt_of_le_of_lt (Nat.le_trans al (Nat.le_trans hi hlen)) (by rw [sizeLine_eq]; decide)
      · rw [upd_ne (ne_of_none q hL)]
        exact (h2.trans (h3.trans (h5.trans (h6.trans h7)))) b o q
  · have e : i = ds.length := by omega
    subst e
    rw [List.drop_length] at l2
    cases l2
    rw [List.append_nil] at e2
    subst e2
    exact .inl ⟨it.stop H2 F2 f2 R2.sub, k _ H2 F2 f2 h2 R2⟩
/-- [.. for x in d ..], d a frozen dict in slot i -/
def vLcK (vs : List Nat) (i : Nat) (g : D → Sto → Option Sto) (ft : Sto → Option Bool) (fe : Sto → Option D) : Sto → Option D := fun ρ => match ρ[i]? with
  | some (some (.z, .dicK ks _)) => if PlainAt ρ vs then if ks.length ≤ 1000000 then (lcL g ft fe (wipeS ρ vs) (ks.map keyD)).map D.lst else none else none
  | _ => none
section
variable {X : Cx} {elt tg : Expr} {ifs : List Expr} {scope : Scope} {own : List (Str × Nat)} {ws : List Nat} {pos pn : Pos} {x : Str} {i : Nat} {s : Sh} {g : D → Sto → Option Sto} {ft : Sto → Option Bool} {fe : Sto → Option D}
theorem pe_or {e : Expr} {t u : TE} (h : PE X e t) (h' : PE X e u) : PE X e (fun σ H Q => t σ H Q ∨ u σ H Q) :=
  ⟨fun pins s σ H Q I q => q.elim (h.run pins s σ H Q I) (h'.run pins s σ H Q I)⟩
theorem tLcK_of {vs : List Nat} (gok : ∀ d ρ ρ', g d ρ = some ρ' → Kept ws ρ ρ') (hw' : ∀ j ∈ ws, j ∈ vs) (σ : L2.St) (H : Hp) (Q : VK) (h : tPF X.K (.seq s) (vLcK vs i g ft fe) σ H Q) :
    tLockE (tLc (tIK X.K i) (tG X.K ws g) (tPT X.K ft) (tPF X.K s fe) vs) σ H Q ∨ tLc (tIK X.K i) (tG X.K ws g) (tPT X.K ft) (tPF X.K s fe) vs σ H Q := by
  obtain ⟨G, ρ, F, d, q, R, k⟩ := h
  unfold vLcK at q
  split at q
  · rename_i ks ds q1
    split at q
    · rename_i pl
      split at q
      · rename_i hlen
        obtain ⟨ys, q2, rfl⟩ := map_some' q
        obtain ⟨v, e1, r1⟩ := R.getz q1
        simp only [Rp] at r1
        obtain ⟨a, vs', rfl, hrd, hl, hr⟩ := r1
        have ek : ((ks.zip vs').map fun p => keyD p.1) = ks.map keyD := by
          rw [show (fun p : L2.Key × V => keyD p.1) = keyD ∘ Prod.fst from rfl, ← List.map_map, List.map_fst_zip (by rw [hl, RpL.length hr]; exact Nat.le_refl _)]
        rcases hrd with hF | ⟨z0, hF⟩
        · refine .inl ⟨a, .dK (ks.zip vs'), R.sub _ _ hF, trivial, fun od => ?_⟩
          have R1 := R.relock (o' := .frz od (.dK (ks.zip vs'))) hF (u := .dK (ks.zip vs')) rfl (.inl rfl) (.inr ⟨od, rfl⟩)
          refine ⟨G, ρ, _, a, od, _, e1, upd_same, R1, fun it => ?_⟩
          rw [ek] at it
          refine tLc_core (s := s) (fe := fe) (Q := fun v H' => H' a = some (.frz od (.dK (ks.zip vs'))) ∧ Q v (L2.upd H' a (.dK (ks.zip vs')))) gok hw' R1 it pl (by simpa using hlen) q2 fun v H' F' f1 h1 R2 => ?_
          have hF' : F' a = some (.frz od (.dK (ks.zip vs'))) := f1 _ _ upd_same
          refine ⟨R2.sub _ _ hF', ?_⟩
          have R3 := R2.relock (o' := .dK (ks.zip vs')) hF' (u := .dK (ks.zip vs')) rfl (.inr ⟨od, rfl⟩) (.inl rfl)
          exact k v _ _ (same_relock hF f1) (same_relock (R.sub _ _ hF) h1) R3
        · refine .inr ⟨G, ρ, F, a, z0, _, e1, hF, R, fun it => ?_⟩
          rw [ek] at it
          exact tLc_core (s := s) (fe := fe) (Q := Q) gok hw' R it pl (by simpa using hlen) q2 k
      · cases q
    · cases q
  · cases q
theorem fp_lcK {hN0 : X.N[i]? = some x} (hc : X.calm = true) (hN : X.N.Nodup) (hv : Vis X.env.scope x) (ok : BlkOk X.N X.env.scope scope own)
    (hg : Blk X scope fun Y => PGV Y ws tg g) (ht : Blk X scope fun Y => PTs Y ifs (tPT Y.K ft)) (he : Blk X scope fun Y => FP Y s elt fe)
    (hw : (ws.all fun j => (own.map (·.2)).contains j) = true) (hd : (x == ("__debug__" : Str)) = false := by decide) (hcd : (x == ("__classdict__" : Str)) = false := by decide) (hs : ∀ v, foldedSetIterable (.Name x pn) X.env v = pure v := by intro _; rfl) :
    FP X (.seq s) (.ListComp elt [⟨tg, .Name x pn, ifs, 0⟩] scope pos) (vLcK (own.map (·.2)) i g ft fe) :=
  have h := pe_lc (te := tPF X.K s fe) (tt := tPT X.K ft) (g := tG X.K ws g) hc hN (ip_keys hN0 hv hd hcd) ok (fun s H C cl fp => (hg s H C cl fp).pg) ht he hs
  pe_imp (pe_or (pe_lock h) h) (tLcK_of (hg ({} : Shared) (fun _ => none) 0 [] []).ok fun j m => by simpa using List.all_eq_true.mp hw j m)
theorem ps_or {st : Stmt} {t u : TS} (h : PS X st t) (h' : PS X st u) : PS X st (fun D σ H => t D σ H ∨ u D σ H) :=
  ⟨fun pins s σ H D I q => q.elim (h.run pins s σ H D I) (h'.run pins s σ H D I)⟩
end

/-! ### zip -/
def dZip (xs ys : List D) : List D := (xs.zip ys).map fun p => .tup [p.1, p.2]
theorem dZip_get {xs ys : List D} {i : Nat} {d : D} (h : (dZip xs ys)[i]? = some d) : ∃ x y, xs[i]? = some x ∧ ys[i]? = some y ∧ d = .tup [x, y] := by
  unfold dZip at h
  rw [List.getElem?_map] at h
  obtain ⟨⟨x, y⟩, q, rfl⟩ := map_some' h
  have := List.getElem?_zip_eq_some.mp q
  exact ⟨x, y, this.1, this.2, rfl⟩
theorem dZip_len (xs ys : List D) : (dZip xs ys).length = min xs.length ys.length := by unfold dZip; simp
section
variable {K : PySem.W.Frag} {F : Hp} {a b : Addr} {vs us : List V} {xs ys : List D}
theorem pair_put {G H F2 : Hp} {ρ : Sto} {σ : L2.St} {T : Addr} {d e : D} {x y : V} (R : Rel K G ρ σ H F2) (hT : H T = none) (rx : Rp K F2 d x) (ry : Rp K F2 e y) :
    ∃ F', Same F2 F' ∧ Same H (L2.upd H T (.tup [x, y])) ∧ Rel K G ρ σ (L2.upd H T (.tup [x, y])) F' ∧ Rp K F' (.tup [d, e]) (.ref T) := by
  obtain ⟨R1, f1, h1, r1⟩ := R.putTup (ds := [d, e]) (vs := [x, y]) (RpL.cons rx (RpL.cons ry RpL.nil)) hT
  exact ⟨_, f1, h1, R1, r1⟩
theorem itv_zipL (h : SqL K F a vs) (r : RpL K F xs vs) (h2 : SqL K F b us) (r2 : RpL K F ys us) : ItV K (Itz K a b) (dZip xs ys) F := by
  have hl := RpL.length r
  have hl2 := RpL.length r2
  refine ⟨fun i H F' hi s1 s2 => ?_, fun H F' s1 s2 => ⟨vs, us, Same.seq (s1.trans s2) h, Same.seq (s1.trans s2) h2, by rw [dZip_len]; omega⟩, fun i H x H' y d q G ρ σ F' s1 R => ?_⟩
  · rw [dZip_len] at hi
    exact ⟨vs, us, vs[i]'(by omega), us[i]'(by omega), Same.seq (s1.trans s2) h, Same.seq (s1.trans s2) h2, by simp [show i < vs.length by omega], by simp [show i < us.length by omega]⟩
  · obtain ⟨T, x, y, rfl, hT, rfl, y1, y2⟩ := y
    obtain ⟨d1, d2, p1, p2, rfl⟩ := dZip_get q
    have e1 := y1 vs (Same.seq (s1.trans R.sub) h)
    have e2 := y2 us (Same.seq (s1.trans R.sub) h2)
    exact pair_put R hT (Rp.mono s1 _ _ (RpL.get2 r i d1 x p1 e1)) (Rp.mono s1 _ _ (RpL.get2 r2 i d2 y p2 e2))
theorem itv_zipT (h : SqT K F a vs) (r : RpL K F xs vs) (h2 : SqT K F b us) (r2 : RpL K F ys us) : ItV K (ItzT K a b) (dZip xs ys) F := by
  have hl := RpL.length r
  have hl2 := RpL.length r2
  refine ⟨fun i H F' hi s1 s2 => ?_, fun H F' s1 s2 => ⟨vs, us, Same.tupT (s1.trans s2) h, Same.tupT (s1.trans s2) h2, by rw [dZip_len]; omega⟩, fun i H x H' y d q G ρ σ F' s1 R => ?_⟩
  · rw [dZip_len] at hi
    exact ⟨vs, us, vs[i]'(by omega), us[i]'(by omega), Same.tupT (s1.trans s2) h, Same.tupT (s1.trans s2) h2, by simp [show i < vs.length by omega], by simp [show i < us.length by omega]⟩
  · obtain ⟨T, x, y, rfl, hT, rfl, y1, y2⟩ := y
    obtain ⟨d1, d2, p1, p2, rfl⟩ := dZip_get q
    have e1 := y1 vs (Same.tupT (s1.trans R.sub) h)
    have e2 := y2 us (Same.tupT (s1.trans R.sub) h2)
    exact pair_put R hT (Rp.mono s1 _ _ (RpL.get2 r i d1 x p1 e1)) (Rp.mono s1 _ _ (RpL.get2 r2 i d2 y p2 e2))
end
def vZip (fs : Sto → Option (List D)) : Sto → Option (List D) := fun ρ => match fs ρ with
  | some [.tup xs, .tup ys] => some (dZip xs ys)
  | some [.lst xs, .lst ys] => some (dZip xs ys)
  | _ => none
theorem ip_zip {X : Cx} {e e2 : Expr} {fs : Sto → Option (List D)} {p pos tpos : Pos} {elts : List Expr} {kk : Nat} (hg : Gl X "zip") (hm : X.mg "zip" = none) (ha : PAV X [e, e2] fs)
    (hs : starEach [e, e2] X.env = (false, eval e X.env) :: starEach [e2] X.env := by rfl) (hpl : (backTo pos (starEach [e2] X.env)).any (·.1) = false := by rfl) :
    IPV X (.Tuple elts kk tpos) (.Call (.Name "zip" p) [e, e2] [] pos) (vZip fs) := by
  refine pi_imp (pi_zipA hg hm ha hs hpl) fun σ H Q ⟨G, ρ, F, ds, q, R, k⟩ => ?_
  unfold vZip at q
  split at q
  · rename_i xs ys q1
    cases q
    refine ⟨G, ρ, F, _, q1, R, fun us H1 F1 f1 h1 R1 r1 => ?_⟩
    obtain ⟨v, r, rfl, r2, r3⟩ := RpL.cons_inv r1
    obtain ⟨w, r', rfl, r4, r5⟩ := RpL.cons_inv r3
    have r5 := RpL.nil_inv r5
    subst r5
    obtain ⟨a, vs, rfl, g1, g2⟩ := r2.tup
    obtain ⟨b, us, rfl, g3, g4⟩ := r4.tup
    exact ⟨a, b, vs, us, rfl, .inr ⟨Same.tupT R1.sub g1, Same.tupT R1.sub g3, k _ H1 F1 f1 h1 R1 (itv_zipT g1 g2 g3 g4)⟩⟩
  · rename_i xs ys q1
    cases q
    refine ⟨G, ρ, F, _, q1, R, fun us H1 F1 f1 h1 R1 r1 => ?_⟩
    obtain ⟨v, r, rfl, r2, r3⟩ := RpL.cons_inv r1
    obtain ⟨w, r', rfl, r4, r5⟩ := RpL.cons_inv r3
    have r5 := RpL.nil_inv r5
    subst r5
    obtain ⟨a, vs, rfl, g1, g2⟩ := r2.lst
    obtain ⟨b, us, rfl, g3, g4⟩ := r4.lst
    exact ⟨a, b, vs, us, rfl, .inl ⟨Same.seq R1.sub g1, Same.seq R1.sub g3, k _ H1 F1 f1 h1 R1 (itv_zipL g1 g2 g3 g4)⟩⟩
  · cases q

/-! ### displays of dicts -/
/-- {} -/
theorem fp_dnew {X : Cx} {pos : Pos} : FP X (.seq .z) (.Dict [] [] pos) (vC (.dicK [] [])) := by
  refine pe_imp pe_dnewK fun σ H Q ⟨G, ρ, F, d, q, R, k⟩ => ?_
  cases q
  intro p hp
  exact k _ _ F (Same.refl _) (Same.upd hp) (R.addNew hp ⟨p, [], [], rfl, upd_same, rfl, ⟨rfl, rfl⟩, rfl⟩)
/-- {k: v} -/
def vDisp1 (fk fv : Sto → Option D) : Sto → Option D := fun ρ => (fk ρ).bind fun x => (fv ρ).bind fun y => (dKey x).map fun k => .dicK [k] [y]
theorem fp_disp1 {X : Cx} {pos : Pos} {k v : Expr} {fk fv : Sto → Option D} (hk : PV X .z k fk) (hv : PV X .z v fv) : FP X (.seq .z) (.Dict [some k] [v] pos) (vDisp1 fk fv) := by
  refine pe_imp (pe_disp (pps_cons hk hv pps_nil) (by rfl) (by rfl) (fun z => by cases z) (by show 1 ≤ 15; decide)) fun σ H Q ⟨G, ρ, F, d, q, R, kk⟩ => ?_
  unfold vDisp1 at q
  obtain ⟨x, q1, q⟩ := bind_some' q
  obtain ⟨y, q2, q⟩ := bind_some' q
  obtain ⟨c, q3, rfl⟩ := map_some' q
  intro p hp
  -- the new dict is hidden while the parts are read
  have R0 : Rel X.K G (some (.seq .z, .dicK [] []) :: ρ) (some (.ref p) :: σ) (L2.upd H p (.dK [])) F := R.addNew hp ⟨p, [], [], rfl, upd_same, rfl, ⟨rfl, rfl⟩, rfl⟩
  obtain ⟨G', R1, back⟩ := R0.frame
  refine ⟨G', ρ, F, x, q1, R1, fun w H1 F1 f1 h1 R2 ⟨fp, r1⟩ => ?_⟩
  refine ⟨G', ρ, F1, y, q2, R2, fun u H2 F2 f2 h2 R3 ⟨fp2, r2⟩ => ?_⟩
  have hk := dKey_rp q3 (Rp.mono f2 _ _ r1.1)
  subst hk
  have R4 := back ρ σ H2 F2 (f1.trans f2) R3
  have hp2 : H2 p = some (.dK []) := (h1.trans h2) _ _ upd_same
  refine ⟨hp2, [(c, u)], rfl, by simp, ?_⟩
  have R5 := R4.put1 (d' := .dicK [c] [y]) (o' := .dK [(c, u)]) (fun fp ⟨a', vs', fp', e1, _, _, ho', e2⟩ => by cases e1; rw [e2, (OwL.unz ho').2]) ⟨p, [u], [], rfl, upd_same, rfl, OwL.z (RpL.cons r2.1 RpL.nil), rfl⟩
  refine kk _ _ F2 (f1.trans f2) (fun b o q => ?_) R5
  show L2.upd H2 p (.dK [(c, u)]) b = some o
  rw [upd_ne (ne_of_none q hp)]
  exact (h1.trans h2) b o (by rw [upd_ne (ne_of_none q hp)]; exact q)

/-! ### o.m(..), o what slot j owns -/
def eMethIO (n j : Nat) (C : Addr) (mn : Str) (sh : Sh) (m : List D → Option (D × D)) (fs : Sto → Option (List D)) : Sto → Option (D × Sto) := fun ρ => match ρ[j]? with
  | some (some (s, .obj C' ns ds)) => if Sh.eqb s sh ∧ C' = C ∧ mn ∉ ns then (fs ρ).bind fun xs => if xs.length + 1 = n then (m (.obj C' ns ds :: xs)).map fun r => (r.1, ρ.set j (some (sh, r.2))) else none else none
  | _ => none
section
variable {X : Cx} {k n : Nat} {f : Addr} {fd : FuncData} {ps : List Str} {rs : Sh} {mi : List D → Option (D × D)} {p pos apos : Pos} {e : Expr} {es : List Expr} {j : Nat} {x mn : Str} {C : Addr} {g : Str → Sh}
theorem ef_methIO {fs : Sto → Option (List D)} {pl : Sem Bool} (hN : X.N[j]? = some x) (hv : Vis X.env.scope x) (c : Cls X.K C) (hm : Meth X.K C mn f) (Fn : FnOk X.prog X.w X.K X.mg X.base CX0 k f fd ps (spIO X.K n 0 (.obj g) rs mi)) (hr : Room k X.A) (hb : Binds X.K fd ps [])
    (ha : PAV X (e :: es) fs) (hd : (x == ("__debug__" : Str)) = false := by decide) (hcd : (x == ("__classdict__" : Str)) = false := by decide) (hst : starEach (e :: es) X.env = (false, eval e X.env) :: starEach es X.env := by rfl) (hpl : (backTo pos (starEach es X.env)).any (·.1) = false := by rfl)
    (ht : eval (.Call (.Attribute (.Name x p) mn apos) (e :: es) [] pos) X.env = (do
      let ov ← eval (.Name x p) X.env
      standAt apos.atName
      let (f, first) ← holding [ov] (getMethod ov mn pl)
      callWith pos f first (backTo pos (starEach (e :: es) X.env)) (backToKw pos (keywordEach [] X.env))) := by rfl) :
    EF X rs (.Call (.Attribute (.Name x p) mn apos) (e :: es) [] pos) (eMethIO n j C mn (.obj g) mi fs) := by
  refine pe_imp (pe_meth (pe_var hN hv hd hcd) c hm Fn hr hb .nil pass0 ha hst hpl ht) fun σ H Q ⟨G, ρ, F, d, ρ', q, R, kq⟩ => ?_
  unfold eMethIO at q
  split at q
  · rename_i s C' ns ds hj
    split at q
    · rename_i hh
      obtain ⟨hs, hC, hns⟩ := hh
      have hs := Sh.eq_of hs
      subst hs
      obtain ⟨xs, q1, q⟩ := bind_some' q
      split at q
      · rename_i hl
        obtain ⟨⟨r, d'⟩, q2, q3⟩ := map_some' q
        cases q3
        subst hC
        obtain ⟨v, fp, e1, a, dx, vs, fp', rfl, ha', ho', _⟩ := R.get hj
        refine ⟨_, e1, a, dx, _, rfl, ha', zip_none hns, G, ρ, F, xs, q1, R, fun us H1 F1 f1 h1 R1 r1 => ?_⟩
        have ok : ArgOk X.K F1 0 j σ (.obj C' ns ds :: xs) (.ref a :: us) := ⟨by simp [RpL.length r1], fun i d v hi e2 e3 => by
          cases i with
          | zero => exact (hi rfl).elim
          | succ i => exact RpL.get2 r1 i d v (by simpa using e2) (by simpa using e3), .ref a, rfl, e1⟩
        obtain ⟨Gc, _, _, _, _, R2, back⟩ := R1.argsIO ok hj rfl
        refine ⟨.obj C' ns ds :: xs, F1, Gc, _, _, by simpa using hl, q2, by rw [List.append_nil]; exact R2, fun v H2 F2 f2 R3 => ?_⟩
        rw [List.append_nil] at R3
        exact kq v H2 F2 (f1.trans f2) (back _ _ _ H2 F2 f2 R3).1
      · cases q
    · cases q
  · cases q
end
end VL

set_option Elab.async false
set_option linter.all false
set_option maxRecDepth 100000
/-! VLy: sorted(set(a tuple or a list)); the new words made to run. -/
noncomputable section
namespace VL
open PySem PySem.Spec PyProof.Rows L2

def rSetA (K : PySem.W.Frag) (w : World) : List V → Hp → VK → Prop := fun vs H Q => ∃ (a : Addr) (ns : List Int), vs = [V.ref a] ∧ (SqL K H a (ns.map V.int) ∨ SqT K H a (ns.map V.int)) ∧ ns.length + 1 < scanBound ∧
  ∀ (p : Addr) (c : Nat), H p = none → c ≤ ns.length → Q (.ref p) (L2.upd H p (SetO w p (fun j => decide (j ∈ ns)) c))
section
variable {X : Cx}
theorem cr_setA (hc : X.calm = true) : CallR X (.type "set") (rSetA X.K X.w) := by
  intro pins s σ H vs us Q I r h
  obtain ⟨a, ns, rfl, hs, hb, q⟩ := h
  rw [Vals.ref1 r]
  rcases hs with hs | hs
  · obtain ⟨its, rv, hl, _⟩ := I.list hs
    refine set_of_list ns (I.ok.hd hc) hl.isList (by simpa using rv.ints) hb fun h2 tk c R hc2 k => ?_
    exact ⟨.ref _, L2.upd H s.heap.objs.size (SetO X.w s.heap.objs.size _ c), I.laid (t' := tk) k (Nat.le_refl _) (setO_new R), rfl, q _ c (I.hok.fresh (Nat.le_refl _)) hc2⟩
  · obtain ⟨its, rv, hl, _⟩ := I.tuple hs
    refine call_set_tupI ns (I.ok.hd hc) hl (by simpa using rv.ints) hb fun h2 tk c R hc2 k => ?_
    exact ⟨.ref _, L2.upd H s.heap.objs.size (SetO X.w s.heap.objs.size _ c), I.laid (t' := tk) k (Nat.le_refl _) (setO_new R), rfl, q _ c (I.hok.fresh (Nat.le_refl _)) hc2⟩
def dSortedSetA : D → Option D
  | .lst ds => (dInts ds).bind fun ns => if ns.length < 64 then some (.lst ((sset ns).map .int)) else none
  | .tup ds => (dInts ds).bind fun ns => if ns.length < 64 then some (.lst ((sset ns).map .int)) else none
  | _ => none
theorem fp_ssetA {e : Expr} {s : Sh} {f : Sto → Option D} {p1 p2 pos1 pos2 : Pos} (hm : X.mg "sorted" = none) (hm2 : X.mg "set" = none) (hc : X.calm = true) (ha : PV X s e f) (hG : Gl X "sorted") (hG2 : Gl X "set")
    (he : starEach (e :: []) X.env = (false, eval e X.env) :: starEach [] X.env := by rfl) (hpl : (backTo pos2 (starEach [] X.env)).any (·.1) = false := by rfl)
    (he1 : starEach (.Call (.Name "set" p2) [e] [] pos2 :: []) X.env = (false, eval (.Call (.Name "set" p2) [e] [] pos2) X.env) :: starEach [] X.env := by rfl) (hpl1 : (backTo pos1 (starEach [] X.env)).any (·.1) = false := by rfl) :
    FP X (.seq .z) (.Call (.Name "sorted" p1) [.Call (.Name "set" p2) [e] [] pos2] [] pos1) (v1 dSortedSetA f) := by
  refine pe_imp (pe_callB (cr_sortedSet hc) hG hm (by decide +kernel) (pa1 (pe_callTy (cr_setA hc) hG2 hm2 (by decide +kernel) (pa1 ha he) (by decide) (by decide) he hpl) he1) (by decide) (by decide) he1 hpl1) fun σ H Q ⟨G, ρ, F, d, q, R, k⟩ => ?_
  obtain ⟨x, q1, q2⟩ := v1_some q
  have fin : ∀ (ns : List Int) (ds : List D), dInts ds = some ns → ns.length < 64 → d = .lst ((sset ns).map .int) → (x = .lst ds ∨ x = .tup ds) → tCB (rSortedSet X.w) (tCons (tCB (rSetA X.K X.w) (tCons (tP X.K s f) tNil)) tNil) σ H Q := fun ns ds q3 h64 ed ex => by
    subst ed
    have hds := dInts_some q3
    subst hds
    refine ⟨G, ρ, F, _, q1, R, fun v H1 F1 f1 h1 R1 r1 => ?_⟩
    have cont : ∀ a, v = .ref a → (SqL X.K H1 a (ns.map V.int) ∨ SqT X.K H1 a (ns.map V.int)) → rSetA X.K X.w [v] H1 fun v H => rSortedSet X.w [v] H Q := fun a ea hS => by
      subst ea
      refine ⟨a, ns, rfl, hS, scan64 h64, fun p c hp hcl => ?_⟩
      refine ⟨p, _, c, rfl, upd_same, by omega, fun ms p2 hs hmem hlen hp2 => ?_⟩
      have e : ms = sset ns := strict_ext hs (sset_sorted ns) fun k => by rw [hmem, sset_mem]; simp
      subst e
      have R2 : Rel X.K G ρ σ _ F1 := R1.grow (Same.upd (o := SetO X.w p (fun j => decide (j ∈ ns)) c) hp)
      exact k _ _ F1 f1 (h1.trans ((Same.upd hp).trans (Same.upd hp2))) (R2.addLst (RpL.ints _) hp2)
    rcases ex with rfl | rfl
    · obtain ⟨a, vs, rfl, hS, hr⟩ := Rp.lst (Ow.whole R1 r1)
      have := RpL.ints_inv hr
      subst this
      exact cont a rfl (.inl hS)
    · obtain ⟨a, vs, rfl, hS, hr⟩ := Rp.tup (Ow.whole R1 r1)
      have := RpL.ints_inv hr
      subst this
      exact cont a rfl (.inr hS)
  cases x <;> simp only [dSortedSetA] at q2 <;> try cases q2
  all_goals
    rename_i ds
    obtain ⟨ns, q3, q4⟩ := bind_some' q2
    split at q4
    · rename_i h64
      cases q4
      exact fin ns ds q3 h64 rfl (by first | exact .inl rfl | exact .inr rfl)
    · cases q4
end
end VL
namespace VL
open PySem L2
/-- a class's method, as its callers see it -/
structure Mt (P : Program) (w : World) (K : PySem.W.Frag) (mg : Str → Option Value) (base : Heap) (C : Addr) (mn : Str) (ps : List Str) (k : Nat) (sp : Sp) where
  f : Addr
  fd : FuncData
  ok : FnOk P w K mg base CX0 k f fd ps sp
  me : Meth K C mn f
  b : Binds K fd ps []
end VL

set_option Elab.async false
set_option linter.all false
set_option maxRecDepth 100000
/-! VLz: list(range(..)), tuple(range(..)). -/
noncomputable section
namespace VL
open PySem PySem.Spec PyProof.Rows L2 L2
theorem rgV_rp {K : PySem.W.Frag} {F : Hp} {i j : Int} : RpL K F (dRange i j) (rgV i j) := by
  have e1 : dRange i j = ((List.range (j - i).toNat).map fun k : Nat => i + (k : Int)).map D.int := by
    unfold dRange; rw [List.map_map]; rfl
  have e2 : rgV i j = ((List.range (j - i).toNat).map fun k : Nat => i + (k : Int)).map V.int := by
    unfold rgV; rw [List.map_map]; rfl
  rw [e1, e2]
  exact RpL.ints _
def vRgL1 (tup : Bool) (f : Sto → Option D) : Sto → Option D := fun ρ => match f ρ with
  | some (.int j) => if 0 ≤ j ∧ j ≤ 1000000 then some (if tup then .tup (dRange 0 j) else .lst (dRange 0 j)) else none
  | _ => none
def vRgL2 (tup : Bool) (f g : Sto → Option D) : Sto → Option D := fun ρ => match f ρ, g ρ with
  | some (.int i), some (.int j) => if 0 ≤ i ∧ i ≤ 1000000 ∧ 0 ≤ j ∧ j ≤ 1000000 then some (if tup then .tup (dRange i j) else .lst (dRange i j)) else none
  | _, _ => none
section
variable {X : Cx} {a b : Expr} {f g : Sto → Option D} {p p2 pos pos2 : Pos}
theorem fp_lstRg1 (hm : X.mg "list" = none) (hm2 : X.mg "range" = none) (ha : PV X .z a f) (hc : X.calm = true) (hg : Gl X "list") (hg2 : Gl X "range") (na : starEach [a] X.env = (false, eval a X.env) :: starEach [] X.env := by rfl) (na2 : starEach [.Call (.Name "range" p2) [a] [] pos2] X.env = (false, eval (.Call (.Name "range" p2) [a] [] pos2) X.env) :: starEach [] X.env := by rfl) :
    FP X (.seq .z) (.Call (.Name "list" p) [.Call (.Name "range" p2) [a] [] pos2] [] pos) (vRgL1 false f) := by
  refine pe_imp (pe_listRg hc hg hm (prg_1 hg2 hm2 ha na) na2) fun σ H Q ⟨G, ρ, F, d, q, R, k⟩ => ?_
  unfold vRgL1 at q
  split at q
  · rename_i j q1
    split at q
    · rename_i hj
      cases q
      refine ⟨G, ρ, F, _, q1, R, fun v H1 F1 f1 h1 R1 ⟨fp, r1⟩ => ⟨j, r1.1.int, RgOk.of_le (by omega) (by omega) (by omega) (by omega), fun p hp => k _ _ F1 f1 (h1.trans (Same.upd hp)) ?_⟩⟩
      exact R1.addLst rgV_rp hp
    · cases q
  · cases q
theorem fp_lstRg2 (hm : X.mg "list" = none) (hm2 : X.mg "range" = none) (ha : PV X .z a f) (hb : PV X .z b g) (hc : X.calm = true) (hg : Gl X "list") (hg2 : Gl X "range") (na : starEach [a, b] X.env = (false, eval a X.env) :: starEach [b] X.env := by rfl) (nb : (backTo pos2 (starEach [b] X.env)).any (·.1) = false := by rfl) (nb2 : starEach [b] X.env = (false, eval b X.env) :: starEach [] X.env := by rfl) (na2 : starEach [.Call (.Name "range" p2) [a, b] [] pos2] X.env = (false, eval (.Call (.Name "range" p2) [a, b] [] pos2) X.env) :: starEach [] X.env := by rfl) :
    FP X (.seq .z) (.Call (.Name "list" p) [.Call (.Name "range" p2) [a, b] [] pos2] [] pos) (vRgL2 false f g) := by
  refine pe_imp (pe_listRg hc hg hm (prg_2 hg2 hm2 ha hb na (nb2) (by exact nb)) na2) fun σ H Q ⟨G, ρ, F, d, q, R, k⟩ => ?_
  unfold vRgL2 at q
  split at q
  · rename_i i j q1 q2
    split at q
    · rename_i hj
      cases q
      refine ⟨G, ρ, F, _, q1, R, fun v H1 F1 f1 h1 R1 ⟨fp, r1⟩ => ⟨G, ρ, F1, _, q2, R1, fun u H2 F2 f2 h2 R2 ⟨fp2, r2⟩ => ⟨i, j, r1.1.int, r2.1.int, RgOk.of_le (by omega) (by omega) (by omega) (by omega), fun p hp => k _ _ F2 (f1.trans f2) ((h1.trans h2).trans (Same.upd hp)) ?_⟩⟩⟩
      exact R2.addLst rgV_rp hp
    · cases q
  · cases q
theorem pv_tupRg1 (hm : X.mg "tuple" = none) (hm2 : X.mg "range" = none) (ha : PV X .z a f) (hc : X.calm = true) (hg : Gl X "tuple") (hg2 : Gl X "range") (na : starEach [a] X.env = (false, eval a X.env) :: starEach [] X.env := by rfl) (na2 : starEach [.Call (.Name "range" p2) [a] [] pos2] X.env = (false, eval (.Call (.Name "range" p2) [a] [] pos2) X.env) :: starEach [] X.env := by rfl) :
    PV X .z (.Call (.Name "tuple" p) [.Call (.Name "range" p2) [a] [] pos2] [] pos) (vRgL1 true f) := by
  refine pe_imp (pe_tupRg hc hg hm (prg_1 hg2 hm2 ha na) na2) fun σ H Q ⟨G, ρ, F, d, q, R, k⟩ => ?_
  unfold vRgL1 at q
  split at q
  · rename_i j q1
    split at q
    · rename_i hj
      cases q
      refine ⟨G, ρ, F, _, q1, R, fun v H1 F1 f1 h1 R1 ⟨fp, r1⟩ => ⟨j, r1.1.int, RgOk.of_le (by omega) (by omega) (by omega) (by omega), fun p hp => ?_⟩⟩
      obtain ⟨R2, f2, h2, r2⟩ := R1.putTup (rgV_rp (i := 0) (j := j)) hp
      exact k _ _ _ (f1.trans f2) (h1.trans h2) R2 ⟨[], r2, rfl⟩
    · cases q
  · cases q
end
/-- y = [.. for x in d ..], d a dict -/
theorem sv_setLcK {X : Cx} {elt tg : Expr} {ifs : List Expr} {scope : Scope} {own : List (Str × Nat)} {ws : List Nat} {pos pn py spos : Pos} {x y : Str} {i j : Nat} {s rs : Sh} {io : List Nat} {g : D → Sto → Option Sto} {ft : Sto → Option Bool} {fe : Sto → Option D} {hN0 : X.N[i]? = some x} (hc : X.calm = true) (hN : X.N.Nodup) (hv : Vis X.env.scope x)
    (hy : X.N[j]? = some y) (hyl : X.env.scope.names.lookup y = some .local) (hsw : swapsWith (.ListComp elt [⟨tg, .Name x pn, ifs, 0⟩] scope pos) (some (.Name y py)) spos.line X.env = pure true) (ok : BlkOk X.N X.env.scope scope own)
    (hg : Blk X scope fun Y => PGV Y ws tg g) (ht : Blk X scope fun Y => PTs Y ifs (tPT Y.K ft)) (he : Blk X scope fun Y => FP Y s elt fe)
    (hw : (ws.all fun j => (own.map (·.2)).contains j) = true) (hio : io.contains j = false) (hd : (x == ("__debug__" : Str)) = false := by decide) (hcd : (x == ("__classdict__" : Str)) = false := by decide) (hs : ∀ v, foldedSetIterable (.Name x pn) X.env v = pure v := by intro _; rfl) :
    SV X rs io (.Assign [.Name y py] (.ListComp elt [⟨tg, .Name x pn, ifs, 0⟩] scope pos) spos) (sSet j (.seq s) (up (vLcK (own.map (·.2)) i g ft fe))) := by
  have h := ps_setLc (te := tPF X.K s fe) (tt := tPT X.K ft) (g := tG X.K ws g) hc hN hy hyl hsw (ip_keys hN0 hv hd hcd) ok (fun s H C cl fp => (hg s H C cl fp).pg) ht he hs
  refine ps_imp (ps_or (ps_lock h) h) fun Z σ H ⟨G, ρ, F, fl, q, R, k⟩ => ?_
  unfold sSet at q
  obtain ⟨⟨d, ρ1⟩, q1, rfl⟩ := map_some' q
  obtain ⟨q2, rfl⟩ := up_some q1
  have w : tPF X.K (.seq s) (vLcK (own.map (·.2)) i g ft fe) σ H (fun x H1 => gName j x σ H1 Z.nx) := ⟨G, ρ1, F, d, q2, R, fun v H1 F1 f1 h1 R1 => k _ H1 F1 f1 ((Dif.set (i := j)).pin (by simp at hio ⊢; exact hio)) R1.store⟩
  exact tLcK_of (hg ({} : Shared) (fun _ => none) 0 [] []).ok (fun j m => by simpa using List.all_eq_true.mp hw j m) σ H _ w

theorem tDIn_of {X : Cx} {s : Sh} {fo fi : Sto → Option D} (hs : flat1 s = true) (σ : L2.St) (H : Hp) (Q : VK) (h : tP X.K .z (v2 dDIn fi fo) σ H Q) : tDIn (tP X.K .z fi) (tP X.K s fo) σ H Q := by
  obtain ⟨G, ρ, F, d, q, R, k⟩ := h
  obtain ⟨y, x, q2, q1, q3⟩ := v2_some q
  cases x <;> simp only [dDIn] at q3 <;> try cases q3
  rename_i ks ds
  obtain ⟨c, q4, q5⟩ := map_some' q3
  subst q5
  refine ⟨G, ρ, F, y, q2, R, fun u H1 F1 f1 h1 R1 ⟨fp, r1⟩ => ?_⟩
  refine ⟨G, ρ, F1, _, q1, R1, fun v H2 F2 f2 h2 R2 r2 => ?_⟩
  obtain ⟨a, vs, rfl, hd, hr⟩ := Ow.dicK hs R2.sub r2
  have hk := dKey_kV q4 r1.1
  subst hk
  refine ⟨a, valV (ks.zip vs) c, rfl, .inl ⟨_, c, hd, rfl, rfl⟩, ?_⟩
  have e : (valV (ks.zip vs) c).isSome = (dlook ks ds c).isSome := by
    cases q : dlook ks ds c with
    | none => rw [(valV_rp hr).2 q]; rfl
    | some x => obtain ⟨w, e, _⟩ := (valV_rp hr).1 x q; rw [e]; rfl
  rw [e]
  exact k _ H2 F2 (f1.trans f2) (h1.trans h2) R2 ⟨[], Rp.mkbl, rfl⟩
theorem pt_din {X : Cx} {o i : Expr} {pos : Pos} {s : Sh} {fo fi : Sto → Option D} (hs : flat1 s = true) (hu : X.A.units + 1 < cLine) (hi : PV X .z i fi) (ho : PV X s o fo) (hb : behindInMarks .In o = false) : PTV X (.Compare i [.In] [o] pos) (vB (v2 dDIn fi fo)) := by
  refine pt_imp (pt_cmp (pc_din hu hi ho) hb) fun σ H Q ⟨G, ρ, F, d, q, R, k⟩ => ?_
  unfold vB at q
  split at q
  · rename_i b q2
    cases q
    refine tDIn_of hs σ H _ ⟨G, ρ, F, _, q2, R, fun v H1 F1 f1 h1 R1 ⟨fp, r1⟩ => ?_⟩
    have e : v = .bl d := by simpa only [Rp] using r1.1
    exact ⟨d, e, k H1 F1 f1 h1 R1⟩
  · cases q

theorem tDNotIn_of {X : Cx} {s : Sh} {fo fi : Sto → Option D} (hs : flat1 s = true) (σ : L2.St) (H : Hp) (Q : VK) (h : tP X.K .z (v2 dDNotIn fi fo) σ H Q) : tDNotIn (tP X.K .z fi) (tP X.K s fo) σ H Q := by
  obtain ⟨G, ρ, F, d, q, R, k⟩ := h
  obtain ⟨y, x, q2, q1, q3⟩ := v2_some q
  cases x <;> simp only [dDNotIn] at q3 <;> try cases q3
  rename_i ks ds
  obtain ⟨c, q4, q5⟩ := map_some' q3
  subst q5
  refine ⟨G, ρ, F, y, q2, R, fun u H1 F1 f1 h1 R1 ⟨fp, r1⟩ => ?_⟩
  refine ⟨G, ρ, F1, _, q1, R1, fun v H2 F2 f2 h2 R2 r2 => ?_⟩
  obtain ⟨a, vs, rfl, hd, hr⟩ := Ow.dicK hs R2.sub r2
  have hk := dKey_kV q4 r1.1
  subst hk
  refine ⟨a, valV (ks.zip vs) c, rfl, .inl ⟨_, c, hd, rfl, rfl⟩, ?_⟩
  have e : (valV (ks.zip vs) c).isSome = (dlook ks ds c).isSome := by
    cases q : dlook ks ds c with
    | none => rw [(valV_rp hr).2 q]; rfl
    | some x => obtain ⟨w, e, _⟩ := (valV_rp hr).1 x q; rw [e]; rfl
  rw [e]
  exact k _ H2 F2 (f1.trans f2) (h1.trans h2) R2 ⟨[], Rp.mkbl, rfl⟩
theorem pt_dnotin {X : Cx} {o i : Expr} {pos : Pos} {s : Sh} {fo fi : Sto → Option D} (hs : flat1 s = true) (hu : X.A.units + 1 < cLine) (hi : PV X .z i fi) (ho : PV X s o fo) (hb : behindInMarks .NotIn o = false) : PTV X (.Compare i [.NotIn] [o] pos) (vB (v2 dDNotIn fi fo)) := by
  refine pt_imp (pt_cmp (pc_dnotin hu hi ho) hb) fun σ H Q ⟨G, ρ, F, d, q, R, k⟩ => ?_
  unfold vB at q
  split at q
  · rename_i b q2
    cases q
    refine tDNotIn_of hs σ H _ ⟨G, ρ, F, _, q2, R, fun v H1 F1 f1 h1 R1 ⟨fp, r1⟩ => ?_⟩
    have e : v = .bl d := by simpa only [Rp] using r1.1
    exact ⟨d, e, k H1 F1 f1 h1 R1⟩
  · cases q
end VL

set_option Elab.async false
set_option linter.all false
set_option maxRecDepth 100000
/-! VNb: plain laws: the newer words made to run. -/
noncomputable section
namespace VL
open PySem PySem.Spec PyProof.Rows L2
section
variable (ρ : Sto) (x : Slot) (s : Sh) (d : D) (ds : List D) (f fa fb fk fv : Sto → Option D) (t : Sto → Option Bool)
@[simp] theorem q_frz0 : frzAll [] = [] := id rfl
@[simp] theorem q_frzC : frzAll (x :: ρ) = (x.map fun sd => (.z, sd.2)) :: frzAll ρ := id rfl
@[simp] theorem q_vBor : vBor s f ρ = (f (frzAll ρ)).bind fun d => if plainS s d then some d else none := id rfl
@[simp] theorem q_tBor : tBor t ρ = t (frzAll ρ) := id rfl
@[simp] theorem q_plz : plainS .z d = immD d := by cases d <;> rfl
@[simp] theorem q_pll : plainS (.seq s) (.lst ds) = ds.all (plainS s) := id rfl
@[simp] theorem q_pld (ks : List L2.Key) : plainS (.seq s) (.dicK ks ds) = ds.all (plainS s) := id rfl
@[simp] theorem q_im0 : immD .non = true := id rfl
@[simp] theorem q_im1 (b : Bool) : immD (.bl b) = true := id rfl
@[simp] theorem q_im2 (i : Int) : immD (.int i) = true := id rfl
@[simp] theorem q_im3 (z : Str) : immD (.str z) = true := id rfl
@[simp] theorem q_im4 : immD (.tup ds) = immL ds := id rfl
@[simp] theorem q_iml0 : immL [] = true := id rfl
@[simp] theorem q_imlc : immL (d :: ds) = (immD d && immL ds) := id rfl
theorem immL_all : ∀ {ds : List D}, (∀ d ∈ ds, immD d = true) → immL ds = true
  | [], _ => rfl
  | d :: ds, h => by rw [q_imlc, h d List.mem_cons_self, immL_all fun e m => h e (List.mem_cons_of_mem _ m)]; rfl
@[simp] theorem q_iml_int {ι : Type} (F : ι → Int) (xs : List ι) : immL (xs.map fun i => D.int (F i)) = true := immL_all fun d m => by
  obtain ⟨i, _, rfl⟩ := List.mem_map.mp m; rfl
theorem all_plz {ds : List D} (h : ∀ d ∈ ds, immD d = true) : ds.all (plainS .z) = true := List.all_eq_true.mpr fun d m => by rw [q_plz]; exact h d m
@[simp] theorem q_all_int {ι : Type} (F : ι → Int) (xs : List ι) : (xs.map fun i => D.int (F i)).all (plainS .z) = true := all_plz fun d m => by
  obtain ⟨i, _, rfl⟩ := List.mem_map.mp m; rfl
@[simp] theorem q_vB2 (m : List D → Option D) (fs : Sto → Option (List D)) : vB2 m fs ρ = (fs ρ).bind m := id rfl
@[simp] theorem q_max2 (i j : Int) : dMax2 [.int i, .int j] = some (.int (if j > i then j else i)) := id rfl
@[simp] theorem q_min2 (i j : Int) : dMin2 [.int i, .int j] = some (.int (if j < i then j else i)) := id rfl
@[simp] theorem q_sPar2 (i j : Nat) (s1 s2 : Sh) (ga gb : Sto → Option (D × Sto)) : sPar2 i j s1 s2 ga gb ρ = (ga ρ).bind fun x => (gb x.2).map fun y => .nx ((y.2.set i (some (s1, x.1))).set j (some (s2, y.1))) := id rfl
@[simp] theorem q_vDisp1 : vDisp1 fk fv ρ = (fk ρ).bind fun x => (fv ρ).bind fun y => (dKey x).map fun k => .dicK [k] [y] := id rfl
@[simp] theorem q_dKey (i : Int) : dKey (.int i) = some (.inl i) := id rfl
@[simp] theorem q_dDGet (ks : List L2.Key) (y : D) : dDGet (.dicK ks ds) y = (dKey y).bind fun k => dlook ks ds k := id rfl
@[simp] theorem q_dDIn (ks : List L2.Key) (y : D) : dDIn y (.dicK ks ds) = (dKey y).map fun k => .bl (dlook ks ds k).isSome := by cases y <;> rfl
@[simp] theorem q_dDNotIn (ks : List L2.Key) (y : D) : dDNotIn y (.dicK ks ds) = (dKey y).map fun k => .bl (!(dlook ks ds k).isSome) := by cases y <;> rfl
@[simp] theorem q_sDPutV (i : Nat) (fi : Sto → Option D) (fe : Sto → Option (D × Sto)) : sDPutV i fi fe ρ = (fe ρ).bind fun x => match x.2[i]? with
  | some (some (.seq .z, .dicK ks ds)) => (fi x.2).bind fun y => (dKey y).bind fun k => if ks.length < 1000000 then some (.nx (x.2.set i (some (.seq .z, .dicK (dputK ks ds k x.1).1 (dputK ks ds k x.1).2)))) else none
  | _ => none := id rfl
@[simp] theorem q_isB (a b : Bool) : dIsB (.bl a) (.bl b) = some (.bl (decide (a = b))) := id rfl
@[simp] theorem q_notB (a b : Bool) : dNotB (.bl a) (.bl b) = some (.bl (!decide (a = b))) := id rfl
@[simp] theorem q_vRgL1 (b : Bool) : vRgL1 b f ρ = (match f ρ with | some (.int j) => if 0 ≤ j ∧ j ≤ 1000000 then some (if b then .tup (dRange 0 j) else .lst (dRange 0 j)) else none | _ => none) := id rfl
@[simp] theorem q_lFld (i : Nat) (C : Addr) (n : Str) (fo : Sto → Option (List Nat)) : lFld i C n fo ρ = (fo ρ).bind fun ps => (fldAt i C n ρ ps).map fun j => ps ++ [j] := id rfl
@[simp] theorem q_lIx (i : Nat) (fo : Sto → Option (List Nat)) : lIx i fo f ρ = (fo ρ).bind fun ps => (f ρ).bind fun x => (lstIx i ρ ps x).map fun j => ps ++ [j] := id rfl
end
/-- a method of data that is an instance -/
def methD (n : Nat) (C : Addr) (mn : Str) (m : List D → Option D) (fs : Option (List D)) (o : D) : Option D := match o with
  | .obj C' ns ds => if C' = C ∧ mn ∉ ns then fs.bind fun xs => if xs.length + 1 = n then m (.obj C' ns ds :: xs) else none else none
  | _ => none
@[simp] theorem q_vMeth (n : Nat) (C : Addr) (mn : Str) (m : List D → Option D) (fo : Sto → Option D) (fs : Sto → Option (List D)) (ρ : Sto) : vMeth n C mn m fo fs ρ = (fo ρ).bind (methD n C mn m (fs ρ)) := by
  unfold vMeth methD
  cases fo ρ with
  | none => rfl
  | some o => cases o <;> rfl
@[simp] theorem q_vMake (n : Nat) (C : Addr) (mi : List D → Option (D × D)) (fs : Sto → Option (List D)) (ρ : Sto) : vMake n C mi fs ρ = (fs ρ).bind (dMake n C mi) := id rfl
/-- two fors -/
theorem lc2L_eq {ι κ : Type} {vs1 : List Nat} {g g1 : D → Sto → Option Sto} {ft ft1 : Sto → Option Bool} {fi1 : Sto → Option (List D)} {fe : Sto → Option D} {ρ : Sto} {I : ι → D} {J : ι → κ → D} {E : ι → κ → D} {p : ι → Bool} {ys : ι → List κ} {p1 : ι → κ → Bool} : ∀ {xs : List ι},
    (∀ x ∈ xs, ∃ ρ1, g (I x) ρ = some ρ1 ∧ ft ρ1 = some (p x) ∧ (p x = true → PlainAt ρ1 vs1 = true ∧ fi1 ρ1 = some ((ys x).map (J x)) ∧ ∀ y ∈ ys x, ∃ ρ2, g1 (J x y) (wipeS ρ1 vs1) = some ρ2 ∧ ft1 ρ2 = some (p1 x y) ∧ (p1 x y = true → fe ρ2 = some (E x y)))) →
    lc2L vs1 g ft fi1 g1 ft1 fe ρ (xs.map I) = some (((xs.filter p).map fun x => ((ys x).filter (p1 x)).map (E x)).flatten)
  | [], _ => rfl
  | x :: xs, h => by
    obtain ⟨ρ1, h1, h2, h3⟩ := h x List.mem_cons_self
    have ih := lc2L_eq (xs := xs) fun y m => h y (List.mem_cons_of_mem _ m)
    rw [List.map_cons]
    unfold lc2L
    rw [h1, Option.bind_some, h2, Option.bind_some, ih]
    cases q : p x with
    | true =>
      obtain ⟨a, b, c⟩ := h3 q
      rw [List.filter_cons_of_pos q]
      simp only [if_true]
      rw [if_pos a, b, Option.bind_some, lcL_eq c]
      simp
    | false => rw [List.filter_cons_of_neg (by simp [q])]; simp
theorem vLc2_eq {ι κ : Type} {vs vs1 : List Nat} {fi : Sto → Option (List D)} {g g1 : D → Sto → Option Sto} {ft ft1 : Sto → Option Bool} {fi1 : Sto → Option (List D)} {fe : Sto → Option D} {ρ : Sto} {I : ι → D} {J : ι → κ → D} {E : ι → κ → D} {p : ι → Bool} {ys : ι → List κ} {p1 : ι → κ → Bool} {xs : List ι}
    (hp : PlainAt ρ vs = true) (hi : fi ρ = some (xs.map I)) (hl : (((xs.filter p).map fun x => ((ys x).filter (p1 x)).map (E x)).flatten).length ≤ 1000000)
    (h : ∀ x ∈ xs, ∃ ρ1, g (I x) (wipeS ρ vs) = some ρ1 ∧ ft ρ1 = some (p x) ∧ (p x = true → PlainAt ρ1 vs1 = true ∧ fi1 ρ1 = some ((ys x).map (J x)) ∧ ∀ y ∈ ys x, ∃ ρ2, g1 (J x y) (wipeS ρ1 vs1) = some ρ2 ∧ ft1 ρ2 = some (p1 x y) ∧ (p1 x y = true → fe ρ2 = some (E x y)))) :
    vLc2 vs vs1 fi g ft fi1 g1 ft1 fe ρ = some (.lst (((xs.filter p).map fun x => ((ys x).filter (p1 x)).map (E x)).flatten)) := by
  unfold vLc2
  rw [if_pos hp, hi, Option.bind_some, lc2L_eq h, Option.bind_some, if_pos hl]
/-- with no tests -/
theorem flat_len {ι κ : Type} (xs : List ι) (ys : ι → List κ) (n m : Nat) (h1 : xs.length ≤ n) (h2 : ∀ x ∈ xs, (ys x).length ≤ m) : (xs.map ys).flatten.length ≤ n * m := by
  induction xs generalizing n with
  | nil => simp
  | cons x xs ih =>
    rw [List.map_cons, List.flatten_cons, List.length_append]
    have a := h2 x List.mem_cons_self
    cases n with
    | zero => simp at h1
    | succ n =>
      have b := ih n (by simpa using h1) fun y m => h2 y (List.mem_cons_of_mem _ m)
      rw [Nat.succ_mul]; omega
theorem vLc2_map {ι κ : Type} {vs vs1 : List Nat} {fi : Sto → Option (List D)} {g g1 : D → Sto → Option Sto} {fi1 : Sto → Option (List D)} {fe : Sto → Option D} {ρ : Sto} {I : ι → D} {J : ι → κ → D} {E : ι → κ → D} {ys : ι → List κ} {xs : List ι}
    (hp : PlainAt ρ vs = true) (hi : fi ρ = some (xs.map I)) (n m : Nat) (h1 : xs.length ≤ n) (h2 : ∀ x ∈ xs, (ys x).length ≤ m) (hnm : n * m ≤ 1000000)
    (h : ∀ x ∈ xs, ∃ ρ1, g (I x) (wipeS ρ vs) = some ρ1 ∧ PlainAt ρ1 vs1 = true ∧ fi1 ρ1 = some ((ys x).map (J x)) ∧ ∀ y ∈ ys x, ∃ ρ2, g1 (J x y) (wipeS ρ1 vs1) = some ρ2 ∧ fe ρ2 = some (E x y)) :
    vLc2 vs vs1 fi g (fun _ => some true) fi1 g1 (fun _ => some true) fe ρ = some (.lst ((xs.map fun x => (ys x).map (E x)).flatten)) := by
  rw [vLc2_eq (p := fun _ => true) (p1 := fun _ _ => true) (ys := ys) (E := E) hp hi ?_ fun x mx => by
    obtain ⟨ρ1, a, b, c, d⟩ := h x mx
    exact ⟨ρ1, a, rfl, fun _ => ⟨b, c, fun y my => by
      obtain ⟨ρ2, e, f⟩ := d y my
      exact ⟨ρ2, e, rfl, fun _ => f⟩⟩⟩]
  · congr 2
    rw [List.filter_eq_self.mpr fun _ _ => rfl]
    congr 1
    exact List.map_congr_left fun x _ => by rw [List.filter_eq_self.mpr fun _ _ => rfl]
  · rw [List.filter_eq_self.mpr fun _ _ => rfl]
    refine Nat.le_trans (flat_len xs _ n m h1 fun x mx => ?_) hnm
    rw [List.filter_eq_self.mpr fun _ _ => rfl, List.length_map]
    exact h2 x mx
/-- a dict's keys walked -/
theorem vLcK_eq {ι : Type} {vs : List Nat} {i : Nat} {g : D → Sto → Option Sto} {ft : Sto → Option Bool} {fe : Sto → Option D} {ρ : Sto} {I : ι → L2.Key} {E : ι → D} {p : ι → Bool} {xs : List ι} {ds : List D} (hd : ρ[i]? = some (some (.z, .dicK (xs.map I) ds))) (hp : PlainAt ρ vs = true) (hl : xs.length ≤ 1000000)
    (h : ∀ x ∈ xs, ∃ ρ1, g (keyD (I x)) (wipeS ρ vs) = some ρ1 ∧ ft ρ1 = some (p x) ∧ (p x = true → fe ρ1 = some (E x))) : vLcK vs i g ft fe ρ = some (.lst ((xs.filter p).map E)) := by
  unfold vLcK
  rw [hd]
  simp only
  rw [if_pos hp, if_pos (by simpa using hl), List.map_map, lcL_eq (I := keyD ∘ I) h]
  rfl
theorem wipeS_len (ρ : Sto) : ∀ vs : List Nat, (wipeS ρ vs).length = ρ.length := wipeS_length
/-- a comprehension with effects: a fold over the items -/
theorem lcE_eq {ι : Type} {vs : List Nat} {g : D → Sto → Option Sto} {ft : Sto → Option (Bool × Sto)} {fe : Sto → Option (D × Sto)} {I : ι → D} (P : Nat → List D → Sto → Prop) : ∀ {xs : List ι} {k : Nat} {acc : List D} {ρ : Sto}, P k acc ρ →
    (∀ j x acc ρ, xs[j]? = some x → P (k + j) acc ρ → ∃ ρ1 b ρ2, g (I x) (wipeS ρ vs) = some ρ1 ∧ ft ρ1 = some (b, ρ2) ∧ (b = true → ∃ y ρ3, fe ρ2 = some (y, ρ3) ∧ P (k + j + 1) (acc ++ [y]) (patch vs ρ ρ3)) ∧ (b = false → P (k + j + 1) acc (patch vs ρ ρ2))) →
    ∃ ys ρ', lcE vs g ft fe (xs.map I) ρ = some (ys, ρ') ∧ P (k + xs.length) (acc ++ ys) ρ'
  | [], k, acc, ρ, h, _ => ⟨[], ρ, rfl, by simpa using h⟩
  | x :: xs, k, acc, ρ, h, step => by
    obtain ⟨ρ1, b, ρ2, h1, h2, h3, h4⟩ := step 0 x acc ρ rfl h
    have nx : ∀ j y acc ρ, xs[j]? = some y → P (k + 1 + j) acc ρ → ∃ ρ1 b ρ2, g (I y) (wipeS ρ vs) = some ρ1 ∧ ft ρ1 = some (b, ρ2) ∧ (b = true → ∃ y ρ3, fe ρ2 = some (y, ρ3) ∧ P (k + 1 + j + 1) (acc ++ [y]) (patch vs ρ ρ3)) ∧ (b = false → P (k + 1 + j + 1) acc (patch vs ρ ρ2)) := fun j y acc ρ e p => by
      have := step (j + 1) y acc ρ (by simpa using e) (by rw [show k + (j + 1) = k + 1 + j by omega]; exact p)
      rw [show k + (j + 1) = k + 1 + j by omega] at this
      exact this
    cases b with
    | true =>
      obtain ⟨y, ρ3, h5, h6⟩ := h3 rfl
      obtain ⟨ys, ρ', e1, e2⟩ := lcE_eq (k := k + 1) P h6 nx
      refine ⟨y :: ys, ρ', ?_, by rw [List.length_cons, show k + (xs.length + 1) = k + 1 + xs.length by omega]; simpa using e2⟩
      rw [List.map_cons]
      unfold lcE
      rw [h1, Option.bind_some, h2, Option.bind_some]
      simp only [if_true]
      rw [h5, Option.bind_some, e1]; rfl
    | false =>
      obtain ⟨ys, ρ', e1, e2⟩ := lcE_eq (k := k + 1) P (h4 rfl) nx
      refine ⟨ys, ρ', ?_, by rw [List.length_cons, show k + (xs.length + 1) = k + 1 + xs.length by omega]; exact e2⟩
      rw [List.map_cons]
      unfold lcE
      rw [h1, Option.bind_some, h2, Option.bind_some]
      simp only [Bool.false_eq_true, if_false]
      exact e1
/-- a loop that may hand back: the first item that is not let through -/
theorem forL_all {ι : Type} {g : D → Sto → Option Sto} {b : Sto → Option Fl} {I : ι → D} (P : Sto → Prop) (ok : ι → Bool) (r : ι → D) : ∀ {xs : List ι} {ρ : Sto}, P ρ →
    (∀ x ∈ xs, ∀ ρ, P ρ → ∃ ρ1 ρ2, g (I x) ρ = some ρ1 ∧ (if ok x then (b ρ1 = some (.nx ρ2) ∨ b ρ1 = some (.ct ρ2)) ∧ P ρ2 else b ρ1 = some (.rt (r x) ρ2))) →
    ∃ ρ', P ρ' ∧ forL g b (xs.map I) ρ = some (.nx ρ') ∧ xs.all ok = true ∨ ∃ x, forL g b (xs.map I) ρ = some (.rt (r x) ρ') ∧ xs.find? (fun x => !ok x) = some x
  | [], ρ, h, _ => ⟨ρ, .inl ⟨h, rfl, rfl⟩⟩
  | x :: xs, ρ, h, step => by
    obtain ⟨ρ1, ρ2, h1, h2⟩ := step x List.mem_cons_self ρ h
    cases q : ok x with
    | true =>
      rw [q] at h2
      simp only [if_true] at h2
      obtain ⟨ρ', w⟩ := forL_all P ok r (xs := xs) h2.2 fun y m => step y (List.mem_cons_of_mem _ m)
      have e : forL g b ((x :: xs).map I) ρ = forL g b (xs.map I) ρ2 := by
        rw [List.map_cons]
        conv => lhs; unfold forL
        rw [h1, Option.bind_some]
        rcases h2.1 with h2 | h2 <;> rw [h2]
      refine ⟨ρ', w.imp (fun ⟨a, c, d⟩ => ⟨a, by rw [e]; exact c, by simp [q]; simpa using d⟩) fun ⟨y, a, c⟩ => ⟨y, by rw [e]; exact a, by rw [List.find?_cons]; simp [q]; simpa using c⟩⟩
    | false =>
      rw [q] at h2
      simp only [Bool.false_eq_true, if_false] at h2
      refine ⟨ρ2, .inr ⟨x, ?_, by rw [List.find?_cons]; simp [q]⟩⟩
      rw [List.map_cons]
      unfold forL
      rw [h1, Option.bind_some, h2]
end VL

set_option Elab.async false
set_option linter.all false
set_option maxRecDepth 100000
/-! VMa: sum of a list or a tuple. -/
noncomputable section
namespace VL
open PySem PySem.Spec PyProof.Rows L2
def rSumA (K : PySem.W.Frag) : List V → Hp → VK → Prop := fun vs H Q => ∃ (a : Addr) (ns : List Int), vs = [V.ref a] ∧ (SqL K H a (ns.map V.int) ∨ SqT K H a (ns.map V.int)) ∧ Q (.int ns.sum) H
theorem cr_sumA {X : Cx} (hc : X.calm = true) : CallR X (.builtin "sum") (rSumA X.K) := by
  intro pins s σ H vs us Q I r h
  obtain ⟨a, ns, rfl, hs, q⟩ := h
  rw [Vals.ref1 r]
  rcases hs with hs | hs
  · obtain ⟨its, rv, hl, _⟩ := I.list hs
    exact sum_raw (I.ok.hd hc) hl.isList rv.ints fun h' tk t' hk => ⟨.int _, H, I.kept hk, ⟨_, rfl⟩, q⟩
  · obtain ⟨its, rv, hl, _⟩ := I.tuple hs
    have hi := rv.ints
    obtain ⟨xs, e⟩ := hi.allInts.items
    have hn : numsOf (intItems xs).toList = ns := by rw [← e]; exact hi.numsOf
    rw [nums_intItems] at hn
    have hl : s.heap.IsTuple a its.toArray := hl
    rw [e] at hl
    refine PySem.W.ktm_sumG (I.ok.hd hc) hl fun h' tk t' hk => ?_
    have e2 : preSum (numAt xs) xs.size = ns.sum := by rw [preSum_eq, List.take_of_length_le (by simp), hn]
    rw [e2]
    exact ⟨.int _, H, I.kept hk, ⟨_, rfl⟩, q⟩
def dSumA : D → Option D
  | .lst ds => (dInts ds).map fun ns => .int ns.sum
  | .tup ds => (dInts ds).map fun ns => .int ns.sum
  | _ => none
theorem cd_sumA {K : PySem.W.Frag} {s : Sh} : CallD K s (rSumA K) dSumA := by
  intro x d q G ρ σ H F v Q R h k
  cases x <;> simp only [dSumA] at q <;> try cases q
  · obtain ⟨ns, q1, rfl⟩ := map_some' q
    obtain ⟨a, vs, rfl, h3, h4⟩ := (Ow.whole R h).tup
    have := dInts_some q1
    subst this
    have := RpL.ints_inv h4
    subst this
    exact ⟨a, ns, rfl, .inr h3, k _ H F (Same.refl _) (Same.refl _) R Rp.mkint⟩
  · obtain ⟨ns, q1, rfl⟩ := map_some' q
    obtain ⟨a, vs, rfl, h3, h4⟩ := (Ow.whole R h).lst
    have := dInts_some q1
    subst this
    have := RpL.ints_inv h4
    subst this
    exact ⟨a, ns, rfl, .inl h3, k _ H F (Same.refl _) (Same.refl _) R Rp.mkint⟩
section
variable {X : Cx} {e : Expr} {s : Sh} {f : Sto → Option D} {p pos : Pos}
theorem pv_sumA (hb : X.mg "sum" = none) (hc : X.calm = true) (ha : PV X s e f) (hG : Gl X "sum") (he : starEach (e :: []) X.env = (false, eval e X.env) :: starEach [] X.env := by rfl) (hpl : (backTo pos (starEach [] X.env)).any (·.1) = false := by rfl) : PV X .z (.Call (.Name "sum" p) [e] [] pos) (v1 dSumA f) :=
  pv_b1 hG hb (by decide) (by decide) he hpl (cr_sumA hc) (by decide +kernel) cd_sumA ha
end
@[simp] theorem dSumA_int {ι : Type} (L : ι → Int) (xs : List ι) : dSumA (.lst (xs.map fun k => D.int (L k))) = some (.int (xs.map L).sum) := by simp [dSumA]
@[simp] theorem dSumA_intT {ι : Type} (L : ι → Int) (xs : List ι) : dSumA (.tup (xs.map fun k => D.int (L k))) = some (.int (xs.map L).sum) := by simp [dSumA]
end VL

set_option Elab.async false
set_option linter.all false
set_option maxRecDepth 100000
/-! VNc: plain laws: more words made to run. -/
noncomputable section
namespace VL
open PySem PySem.Spec PyProof.Rows L2
@[simp] theorem dNe_int (i j : Int) : dNe (.int i) (.int j) = some (.bl (i != j)) := by simp [dNe, bne]
/-- an if whose test is known -/
theorem sIf_t {t : Sto → Option Bool} {a b : Sto → Option Fl} {ρ : Sto} (c : Bool) (h : t ρ = some c) : sIf (upT t) a b ρ = if c then a ρ else b ρ := by
  simp only [q_sIf, q_upT, h, Option.map_some, Option.bind_some]
/-- a while loop by a measure; it may hand back -/
theorem whileL_meas {t : Sto → Option (Bool × Sto)} {b : Sto → Option Fl} (P : Nat → Sto → Prop) (R : D → Prop)
    (step : ∀ m ρ, P m ρ → ∃ c, t ρ = some (c, ρ) ∧ (c = true → (∃ ρ' m', (b ρ = some (.nx ρ') ∨ b ρ = some (.ct ρ')) ∧ m' < m ∧ P m' ρ') ∨ ∃ d ρ', b ρ = some (.rt d ρ') ∧ R d)) :
    ∀ (k m : Nat) (ρ : Sto), m < k → P m ρ → (∃ ρ' m', whileL t b k ρ = some (.nx ρ') ∧ P m' ρ' ∧ t ρ' = some (false, ρ')) ∨ ∃ d ρ', whileL t b k ρ = some (.rt d ρ') ∧ R d
  | 0, m, ρ, h, _ => absurd h (Nat.not_lt_zero _)
  | k + 1, m, ρ, h, p => by
    obtain ⟨c, e, q⟩ := step m ρ p
    unfold whileL
    rw [e, Option.bind_some]
    cases c with
    | false => exact .inl ⟨ρ, m, rfl, p, e⟩
    | true =>
      simp only [if_true]
      rcases q rfl with ⟨ρ', m', hb, hm, p'⟩ | ⟨d, ρ', hb, r⟩
      · have ih := whileL_meas P R step k m' ρ' (by omega) p'
        rcases hb with hb | hb <;> (rw [hb]; exact ih)
      · rw [hb]; exact .inr ⟨d, ρ', rfl, r⟩
/-! ### dicts whose keys are the sides -/
def keysK (ks : List Nat) : List L2.Key := ks.map fun k : Nat => .inl (k : Int)
theorem dlook_get : ∀ {ks : List Nat} {ps : List D} {i k : Nat} {p : D}, ks.Nodup → ks[i]? = some k → ps[i]? = some p → dlook (keysK ks) ps (.inl (k : Int)) = some p
  | [], _, _, _, _, _, h, _ => by simp at h
  | c :: ks, [], _, _, _, _, _, h => by simp at h
  | c :: ks, d :: ps, 0, k, p, _, h1, h2 => by
    simp at h1 h2
    subst h1 h2
    simp [dlook, keysK]
  | c :: ks, d :: ps, i + 1, k, p, hn, h1, h2 => by
    obtain ⟨hc, hn⟩ := List.nodup_cons.mp hn
    have ih := dlook_get (ks := ks) (ps := ps) (i := i) hn (by simpa using h1) (by simpa using h2)
    have m : k ∈ ks := List.mem_of_getElem? (by simpa using h1)
    have ne : c ≠ k := fun e => hc (e ▸ m)
    unfold dlook keysK at ih ⊢
    simp only [List.map_cons, List.zip_cons_cons, List.find?_cons]
    rw [decide_eq_false (by simp; omega)]
    exact ih
theorem dlook_some {ks : List Nat} {ps : List D} {k : Nat} (hl : ks.length = ps.length) : (dlook (keysK ks) ps (.inl (k : Int))).isSome = decide (k ∈ ks) := by
  induction ks generalizing ps with
  | nil => simp [dlook, keysK]
  | cons c ks ih =>
    cases ps with
    | nil => simp at hl
    | cons p ps =>
      have ih := ih (ps := ps) (by simpa using hl)
      by_cases e : c = k
      · subst e; simp [dlook, keysK]
      · have : dlook (keysK (c :: ks)) (p :: ps) (.inl (k : Int)) = dlook (keysK ks) ps (.inl (k : Int)) := by
          unfold dlook keysK
          simp only [List.map_cons, List.zip_cons_cons, List.find?_cons]
          rw [decide_eq_false (by simp; omega)]
        rw [this, ih]
        have : ¬ k = c := fun z => e z.symm
        simp [this]
theorem dputK_new {ks : List Nat} {ps : List D} {k : Nat} {v : D} (h : k ∉ ks) : dputK (keysK ks) ps (.inl (k : Int)) v = (keysK (ks ++ [k]), ps ++ [v]) := by
  unfold dputK
  rw [if_neg (by unfold keysK; simp; intro x hx e; exact h ((show x = k by omega) ▸ hx))]
  simp [keysK]
end VL

set_option Elab.async false
set_option linter.all false
set_option maxRecDepth 100000
/-! VNd: plain laws: bits. -/
noncomputable section
namespace VL
open PySem PySem.Spec PyProof.Rows L2
def bitI (r : Int) (j : Nat) : Bool := Builtin.bitAnd (r / 2 ^ j) 1 == 1
theorem bitAnd_one (x : Int) : Builtin.bitAnd x 1 = x % 2 := bitAnd_m1 x
theorem bitI_nat (r j : Nat) : bitI (r : Int) j = r.testBit j := by
  unfold bitI
  rw [bitAnd_one, Nat.testBit_eq_decide_div_mod_eq]
  have e : ((r : Int) / 2 ^ j % 2) = ((r / 2 ^ j % 2 : Nat) : Int) := by push_cast; rfl
  rw [e]
  by_cases h : r / 2 ^ j % 2 = 1
  · simp [h]
  · simp [h]; omega
theorem bitv_nat (r j : Nat) : Builtin.bitAnd ((r : Int) / 2 ^ j) 1 = if r.testBit j then 1 else 0 := by
  rw [bitAnd_one, Nat.testBit_eq_decide_div_mod_eq]
  have e : ((r : Int) / 2 ^ j % 2) = ((r / 2 ^ j % 2 : Nat) : Int) := by push_cast; rfl
  rw [e]
  by_cases h : r / 2 ^ j % 2 = 1
  · simp [h]
  · have : r / 2 ^ j % 2 = 0 := by omega
    simp [this]
theorem tb_add {r l : Nat} (h : r.testBit l = false) (j : Nat) : (r + 2 ^ l).testBit j = (r.testBit j || decide (j = l)) := by
  have hp : 0 < 2 ^ (l + 1) := Nat.two_pow_pos _
  have e : r = 2 ^ (l + 1) * (r / 2 ^ (l + 1)) + r % 2 ^ (l + 1) := (Nat.div_add_mod _ _).symm
  generalize r / 2 ^ (l + 1) = a at e
  have hb : r % 2 ^ (l + 1) < 2 ^ (l + 1) := Nat.mod_lt _ hp
  generalize r % 2 ^ (l + 1) = b at e hb
  subst e
  have p2 : 2 ^ (l + 1) = 2 ^ l + 2 ^ l := by rw [Nat.pow_succ]; omega
  rw [Nat.testBit_two_pow_mul_add _ hb, if_pos (by omega)] at h
  have hl : b < 2 ^ l := by
    by_cases hc : b < 2 ^ l
    · exact hc
    · have e2 : b = 2 ^ l + (b - 2 ^ l) := by omega
      rw [e2, Nat.testBit_two_pow_add_eq, Nat.testBit_lt_two_pow (by omega)] at h
      cases h
  have e3 : 2 ^ (l + 1) * a + b + 2 ^ l = 2 ^ (l + 1) * a + (2 ^ l + b) := by omega
  rw [e3, Nat.testBit_two_pow_mul_add _ (show 2 ^ l + b < 2 ^ (l + 1) by omega), Nat.testBit_two_pow_mul_add _ hb]
  by_cases h1 : j < l + 1
  · rw [if_pos h1, if_pos h1]
    by_cases h2 : j = l
    · subst h2
      rw [Nat.testBit_two_pow_add_eq, h]; simp
    · rw [Nat.testBit_two_pow_add_gt (by omega)]; simp [h2]
  · rw [if_neg h1, if_neg h1]
    have : j ≠ l := by omega
    simp [this]
/-- a bit taken out -/
theorem tb_sub {m l : Nat} (h : m.testBit l = true) : ∃ r, m = r + 2 ^ l ∧ r.testBit l = false ∧ ∀ j, m.testBit j = (r.testBit j || decide (j = l)) := by
  let r := m ^^^ 2 ^ l
  have hb : ∀ j, r.testBit j = (m.testBit j ^^ decide (l = j)) := fun j => by
    show (m ^^^ 2 ^ l).testBit j = _
    rw [Nat.testBit_xor, Nat.testBit_two_pow]
  have h0 : r.testBit l = false := by rw [hb, h]; simp
  have e : m = r + 2 ^ l := Nat.eq_of_testBit_eq fun j => by
    rw [tb_add h0, hb]
    by_cases c : j = l
    · subst c; simp [h]
    · have : ¬ l = j := fun z => c z.symm
      simp [c, this]
  exact ⟨r, e, h0, fun j => by conv => lhs; rw [e]
                               rw [tb_add h0]⟩
/-- the number whose bits below n are told -/
theorem bits_of (n : Nat) (c : Nat → Bool) : ∃ m, m < 2 ^ n ∧ ∀ i, i < n → m.testBit i = c i := by
  induction n with
  | zero => exact ⟨0, by decide, fun i hi => absurd hi (Nat.not_lt_zero _)⟩
  | succ n ih =>
    obtain ⟨m, hm, hb⟩ := ih
    have h0 : m.testBit n = false := Nat.testBit_lt_two_pow hm
    have p2 : 2 ^ (n + 1) = 2 ^ n + 2 ^ n := by rw [Nat.pow_succ]; omega
    cases hc : c n with
    | false =>
      refine ⟨m, by omega, fun i hi => ?_⟩
      by_cases e : i = n
      · subst e; rw [h0, hc]
      · exact hb i (by omega)
    | true =>
      refine ⟨m + 2 ^ n, by omega, fun i hi => ?_⟩
      rw [tb_add h0]
      by_cases e : i = n
      · subst e; simp [hc]
      · rw [hb i (by omega)]; simp [e]
theorem no_bits {n m : Nat} (hm : m < 2 ^ n) (h : ∀ i, i < n → m.testBit i = false) : m = 0 := Nat.eq_of_testBit_eq fun j => by
  rw [Nat.zero_testBit]
  by_cases c : j < n
  · exact h j c
  · exact Nat.testBit_lt_two_pow (Nat.lt_of_lt_of_le hm (Nat.pow_le_pow_right (by decide) (by omega)))
end VL

set_option Elab.async false
set_option linter.all false
set_option maxRecDepth 100000
/-! VNe: plain laws: == of texts and rows, greatest and least. -/
noncomputable section
namespace VL
open PySem PySem.Spec PyProof.Rows L2
theorem toPyL_ints (xs : List Int) : toPyL (xs.map D.int) = some (xs.map PyData.int) := by
  induction xs with
  | nil => rfl
  | cons x xs ih => simp only [List.map_cons, toPyL, toPy, ih]
theorem lay_ints (xs : List Int) : PyData.canLayAll0 (xs.map PyData.int) = true := by
  induction xs with
  | nil => rfl
  | cons x xs ih => simp only [List.map_cons, PyData.canLayAll0, PyData.canLay0, ih, Bool.and_self]
theorem dep_ints (xs : List Int) : PyData.depthAll (xs.map PyData.int) = 0 := by
  induction xs with
  | nil => rfl
  | cons x xs ih => simp only [List.map_cons, PyData.depthAll, PyData.depth, ih]; rfl
theorem eqvAll_ints : ∀ (xs ys : List Int), PyData.eqvAll (xs.map PyData.int) (ys.map PyData.int) = decide (xs = ys)
  | [], [] => by simp [PyData.eqvAll]
  | [], y :: ys => by simp [PyData.eqvAll]
  | x :: xs, [] => by simp [PyData.eqvAll]
  | x :: xs, y :: ys => by
    simp only [List.map_cons, PyData.eqvAll, PyData.eqv, eqvAll_ints xs ys]
    by_cases h : x = y
    · subst h; simp
    · simp [h]
theorem deq_str {a b : Str} (ha : PyData.strOk a = true := by decide +kernel) (hb : PyData.strOk b = true := by decide +kernel) : deq (.str a) (.str b) = some (a == b) := by
  simp only [deq, toPy, SeqAt.shaped, PyData.canLay0, PyData.depth, PyData.eqv, ha, hb]
  rfl
theorem shp_tup (xs : List Int) : SeqAt.shaped (.tuple (xs.map PyData.int)) = true := by
  simp only [SeqAt.shaped, PyData.canLay0, PyData.depth, lay_ints, dep_ints]; rfl
theorem shp_lst (xs : List Int) : SeqAt.shaped (.list (xs.map PyData.int)) = true := by
  simp only [SeqAt.shaped, PyData.canLay0, PyData.depth, lay_ints, dep_ints]; rfl
theorem deq_tups (xs ys : List Int) : deq (.tup (xs.map D.int)) (.tup (ys.map D.int)) = some (decide (xs = ys)) := by
  simp only [deq, toPy, toPyL_ints, Option.map_some, shp_tup, Bool.and_self, if_true, PyData.eqv, eqvAll_ints]
theorem deq_lsts (xs ys : List Int) : deq (.lst (xs.map D.int)) (.lst (ys.map D.int)) = some (decide (xs = ys)) := by
  simp only [deq, toPy, toPyL_ints, Option.map_some, shp_lst, Bool.and_self, if_true, PyData.eqv, eqvAll_ints]
theorem dEq_str {a b : Str} (ha : PyData.strOk a = true := by decide +kernel) (hb : PyData.strOk b = true := by decide +kernel) : dEq (.str a) (.str b) = some (.bl (a == b)) := by simp only [dEq, deq_str ha hb, Option.map_some]
theorem dNe_str {a b : Str} (ha : PyData.strOk a = true := by decide +kernel) (hb : PyData.strOk b = true := by decide +kernel) : dNe (.str a) (.str b) = some (.bl (!(a == b))) := by simp only [dNe, deq_str ha hb, Option.map_some]
theorem dEq_lsts (xs ys : List Int) : dEq (.lst (xs.map D.int)) (.lst (ys.map D.int)) = some (.bl (decide (xs = ys))) := by simp only [dEq, deq_lsts, Option.map_some]
theorem dNe_lsts (xs ys : List Int) : dNe (.lst (xs.map D.int)) (.lst (ys.map D.int)) = some (.bl (!decide (xs = ys))) := by simp only [dNe, deq_lsts, Option.map_some]
@[simp] theorem dNe_bl (i j : Bool) : dNe (.bl i) (.bl j) = some (.bl (i != j)) := by simp [dNe, bne]
theorem imax_of {ns : List Int} {m : Int} (h1 : m ∈ ns) (h2 : ∀ y ∈ ns, y ≤ m) : imax ns = some m := by
  cases ns with
  | nil => cases h1
  | cons a as =>
    obtain ⟨x, y⟩ := foldl_max as a
    have p := h2 _ x
    have q := y m h1
    show some _ = some _
    rw [show as.foldl max a = m by omega]
theorem imin_of {ns : List Int} {m : Int} (h1 : m ∈ ns) (h2 : ∀ y ∈ ns, m ≤ y) : imin ns = some m := by
  cases ns with
  | nil => cases h1
  | cons a as =>
    obtain ⟨x, y⟩ := foldl_min as a
    have p := h2 _ x
    have q := y m h1
    show some _ = some _
    rw [show as.foldl min a = m by omega]
theorem imax_spec {ns : List Int} (h : ns ≠ []) : ∃ m, imax ns = some m ∧ m ∈ ns ∧ ∀ y ∈ ns, y ≤ m := by
  cases ns with
  | nil => exact (h rfl).elim
  | cons a as => exact ⟨_, rfl, foldl_max as a⟩
theorem imin_spec {ns : List Int} (h : ns ≠ []) : ∃ m, imin ns = some m ∧ m ∈ ns ∧ ∀ y ∈ ns, m ≤ y := by
  cases ns with
  | nil => exact (h rfl).elim
  | cons a as => exact ⟨_, rfl, foldl_min as a⟩
@[simp] theorem q_dMax (ns : List Int) : dMax (.lst (ns.map D.int)) = (imax ns).map .int := by simp only [dMax, dInts_map, Option.bind_some]
@[simp] theorem q_dMin (ns : List Int) : dMin (.lst (ns.map D.int)) = (imin ns).map .int := by simp only [dMin, dInts_map, Option.bind_some]
theorem q_dMaxF {ι : Type} (F : ι → Int) (xs : List ι) : dMax (.lst (xs.map fun i => D.int (F i))) = (imax (xs.map F)).map .int := by
  have := q_dMax (xs.map F)
  rw [List.map_map] at this
  exact this
theorem q_dMinF {ι : Type} (F : ι → Int) (xs : List ι) : dMin (.lst (xs.map fun i => D.int (F i))) = (imin (xs.map F)).map .int := by
  have := q_dMin (xs.map F)
  rw [List.map_map] at this
  exact this
theorem flatDs_ints (ns : List Int) : flatDs (ns.map D.int) = some (ns.map V.int) := by
  induction ns with
  | nil => rfl
  | cons n ns ih => simp only [List.map_cons, flatDs, flatD, ih]
theorem inV_ints (i : Int) (ns : List Int) : inV (.int i) (ns.map V.int) = decide (i ∈ ns) := by
  unfold inV
  induction ns with
  | nil => simp
  | cons n ns ih =>
    rw [List.map_cons, List.any_cons, ih]
    by_cases h : n = i
    · subst h; simp [eqV]
    · have : ¬ i = n := fun z => h z.symm
      simp [eqV, h, this]
theorem dIn_tup (i : Int) (ns : List Int) : dIn (.int i) (.tup (ns.map D.int)) = some (.bl (decide (i ∈ ns))) := by
  simp only [dIn, din, flatD, dItems, flatDs_ints, Option.map_some, inV_ints]
theorem dIn_lst (i : Int) (ns : List Int) : dIn (.int i) (.lst (ns.map D.int)) = some (.bl (decide (i ∈ ns))) := by
  simp only [dIn, din, flatD, dItems, flatDs_ints, Option.map_some, inV_ints]
theorem dNotIn_tup (i : Int) (ns : List Int) : dNotIn (.int i) (.tup (ns.map D.int)) = some (.bl (!decide (i ∈ ns))) := by
  simp only [dNotIn, din, flatD, dItems, flatDs_ints, Option.map_some, inV_ints]
theorem dNotIn_lst (i : Int) (ns : List Int) : dNotIn (.int i) (.lst (ns.map D.int)) = some (.bl (!decide (i ∈ ns))) := by
  simp only [dNotIn, din, flatD, dItems, flatDs_ints, Option.map_some, inV_ints]
/-- the same of sides -/
theorem mem_cast {i : Nat} {L : List Nat} : ((i : Int) ∈ L.map fun j : Nat => (j : Int)) ↔ i ∈ L := by
  simp only [List.mem_map]
  constructor
  · rintro ⟨j, h, e⟩
    have : j = i := by omega
    exact this ▸ h
  · intro h; exact ⟨i, h, rfl⟩
theorem map_cast (L : List Nat) : (L.map fun i : Nat => D.int (i : Int)) = (L.map fun i : Nat => (i : Int)).map D.int := by rw [List.map_map]; rfl
@[simp] theorem dIn_tupN (i : Nat) (L : List Nat) : dIn (.int i) (.tup (L.map fun j : Nat => D.int (j : Int))) = some (.bl (decide (i ∈ L))) := by
  rw [map_cast, dIn_tup]; congr 2; rw [decide_eq_decide]; exact mem_cast
@[simp] theorem dIn_lstN (i : Nat) (L : List Nat) : dIn (.int i) (.lst (L.map fun j : Nat => D.int (j : Int))) = some (.bl (decide (i ∈ L))) := by
  rw [map_cast, dIn_lst]; congr 2; rw [decide_eq_decide]; exact mem_cast
@[simp] theorem dNotIn_tupN (i : Nat) (L : List Nat) : dNotIn (.int i) (.tup (L.map fun j : Nat => D.int (j : Int))) = some (.bl (!decide (i ∈ L))) := by
  rw [map_cast, dNotIn_tup]; congr 3; rw [decide_eq_decide]; exact mem_cast
@[simp] theorem dNotIn_lstN (i : Nat) (L : List Nat) : dNotIn (.int i) (.lst (L.map fun j : Nat => D.int (j : Int))) = some (.bl (!decide (i ∈ L))) := by
  rw [map_cast, dNotIn_lst]; congr 3; rw [decide_eq_decide]; exact mem_cast
theorem dZip_map {n : Nat} (f g : Nat → D) : dZip ((List.range n).map f) ((List.range n).map g) = (List.range n).map fun i => .tup [f i, g i] := by
  unfold dZip
  rw [List.zip_map']
  rw [List.map_map]; rfl
@[simp] theorem q_vZip (fs : Sto → Option (List D)) (ρ : Sto) : vZip fs ρ = (match fs ρ with
  | some [.tup xs, .tup ys] => some (dZip xs ys)
  | some [.lst xs, .lst ys] => some (dZip xs ys)
  | _ => none) := id rfl
@[simp] theorem q_setA_t (ds : List D) : dSortedSetA (.tup ds) = (dInts ds).bind fun ns => if ns.length < 64 then some (.lst ((sset ns).map .int)) else none := id rfl
@[simp] theorem q_setA_l (ds : List D) : dSortedSetA (.lst ds) = (dInts ds).bind fun ns => if ns.length < 64 then some (.lst ((sset ns).map .int)) else none := id rfl
/-- strictly ascending: the set's order is its own -/
theorem sset_self {ns : List Int} (h : ns.Pairwise (· < ·)) : sset ns = ns := strict_ext (sset_sorted ns) h fun _ => sset_mem
theorem cast_sorted {L : List Nat} (h : L.Pairwise (· < ·)) : (L.map fun i : Nat => (i : Int)).Pairwise (· < ·) := List.pairwise_map.mpr (h.imp fun h => by omega)
end VL

set_option Elab.async false
set_option linter.all false
set_option maxRecDepth 100000
set_option maxHeartbeats 4000000
noncomputable section
namespace K06
open PySem PySem.Spec PyProof.Rows L2 VL
/-! the text by places -/
def top (i : Nat) : Stmt := PySem.Challenge.pw_whobeatwhom_k06_whole_seasons_of_twelve.main.body.getD i (.Pass ⟨0, 0, 0, 0⟩)
structure Txt (K : PySem.W.Frag) (mg : Str → Option Value) (C_Season : Addr) (C_Shares : Addr) : Prop where
  b_all : mg "all" = none
  b_bool : mg "bool" = none
  b_enumerate : mg "enumerate" = none
  b_int : mg "int" = none
  b_isinstance : mg "isinstance" = none
  b_len : mg "len" = none
  b_list : mg "list" = none
  b_max : mg "max" = none
  b_min : mg "min" = none
  b_range : mg "range" = none
  b_set : mg "set" = none
  b_sorted : mg "sorted" = none
  b_str : mg "str" = none
  b_sum : mg "sum" = none
  b_tuple : mg "tuple" = none
  b_zip : mg "zip" = none
  c_MOST_SIDES : ∃ t, mg "MOST_SIDES" = some (.int 12 t)
  c_MOST_WINS : ∃ t, mg "MOST_WINS" = some (.int 100000 t)
  f_Season_left : FldC K C_Season "left"
  f_Season_size : FldC K C_Season "size"
  f_Season_wins : FldC K C_Season "wins"
  f_Shares_most : FldC K C_Shares "most"
  f_Shares_season : FldC K C_Shares "season"
  f_Shares_won : FldC K C_Shares "won"
  k_Season : Cls K C_Season
  k_Shares : Cls K C_Shares
/-! ### is_integer -/
abbrev st_is_integer : Stmt := top 5
theorem sc_is_integer : FnScope ["value"] ["value"] (defScope st_is_integer) := ⟨rfl, rfl, rfl, by decide +kernel, rfl, by decide +kernel, by decide +kernel⟩
def fb_is_integer : Sto → Option Fl :=
  (sRet (up (vAndF (vIsi "int" (vVarZ 0)) (vNotF (vIsi "bool" (vVarZ 0))))))
def m_is_integer : List D → Option D := fun ds => endP (fb_is_integer (argZ ds ++ List.replicate 0 none))
theorem ok_is_integer {P : Program} {w : World} {K : PySem.W.Frag} {mg : Str → Option Value} {base : Heap} {C_Season C_Shares : Addr} {f : Addr} {fd : FuncData} (F : Fun K "is_integer" "is_integer" st_is_integer f fd) (T : Txt K mg C_Season C_Shares)  : FnOk P w K mg base CX0 1 f fd ["value"] (spP K 1 .z m_is_integer) :=
  fn_pure (fb := fb_is_integer) F sc_is_integer (fun cdv A outer s H E hr => ((ssv_one (sv_ret (FP.ef (PV.fp (pv_and (pv_isiT kit_int bt_int T.b_isinstance T.b_int (pv_varZ (i := 0) rfl (vis_of rfl)) rfl rfl) (pv_one (pv_not (pv_isiT kit_bool bt_bool T.b_isinstance T.b_bool (pv_varZ (i := 0) rfl (vis_of rfl)) rfl rfl))))))))
    : SSV (BCx P w K mg base _ _ st_is_integer f cdv A outer s H E) .z [] (defBody st_is_integer) (fb_is_integer))) (fun _ _ _ h => h)
/-! ### is_count -/
abbrev st_is_count : Stmt := top 8
theorem sc_is_count : FnScope ["value"] ["value"] (defScope st_is_count) := ⟨rfl, rfl, rfl, by decide +kernel, rfl, by decide +kernel, by decide +kernel⟩
def fb_is_count : Sto → Option Fl :=
  (sRet (up (vAndF (vCall (n := 1) m_is_integer (aCons (vVarZ 0) aNil)) (vChain dLe dLe (vC (.int 0)) (vVarZ 0) (vC (.int 100000))))))
def m_is_count : List D → Option D := fun ds => endP (fb_is_count (argZ ds ++ List.replicate 0 none))
theorem ok_is_count {P : Program} {w : World} {K : PySem.W.Frag} {mg : Str → Option Value} {base : Heap} {C_Season C_Shares : Addr} {f : Addr} {fd : FuncData} (F : Fun K "is_count" "is_count" st_is_count f fd) (T : Txt K mg C_Season C_Shares) (c_is_integer : Fc P w K mg base "is_integer" ["value"] 1 (spP K 1 .z m_is_integer)) : FnOk P w K mg base CX0 2 f fd ["value"] (spP K 1 .z m_is_count) :=
  fn_pure (fb := fb_is_count) F sc_is_count (fun cdv A outer s H E hr => ((ssv_one (sv_ret (FP.ef (PV.fp (pv_and (FP.pv (fp_call c_is_integer.ok (hr.mono (by decide)) rfl c_is_integer.g c_is_integer.q c_is_integer.b (pav_cons (pv_varZ (i := 0) rfl (vis_of rfl)) pav_nil))) (pv_one (pv_chain op_le op_le od_le od_le pv_int (pv_varZ (i := 0) rfl (vis_of rfl)) (pv_globE rfl T.c_MOST_WINS))))))))
    : SSV (BCx P w K mg base _ _ st_is_count f cdv A outer s H E) .z [] (defBody st_is_count) (fb_is_count))) (fun _ _ _ h => h)
/-! ### is_left -/
abbrev st_is_left : Stmt := top 10
theorem sc_is_left : FnScope ["size", "value", "every", "one", "two", "row"] ["size", "value"] (defScope st_is_left) := ⟨rfl, rfl, rfl, by decide +kernel, rfl, by decide +kernel, by decide +kernel⟩
def fb_is_left_c1 : Sto → Option D :=
  vLc [5] (vItems (vVarZ 1)) (gN 5) (fun _ => some true) (vAndF (vIsi "tuple" (vVarZ 5)) (v2 dEq (v1 dLen (vVarZ 5)) (vVarZ 0)))
def fb_is_left_c2 : Sto → Option D :=
  vLc2 [5, 3] [3] (vItems (vVarZ 1)) (gN 5) (fun _ => some true) (vItems (vVarZ 5)) (gN 3) (fun _ => some true) (vCall (n := 1) m_is_count (aCons (vVarZ 3) aNil))
def fb_is_left_c3 : Sto → Option D :=
  vLc2 [3, 4] [4] (vItems (vVarZ 2)) (gN 3) (fun _ => some true) (vItems (vVarZ 2)) (gN 4) (fun _ => some true) (vAndF (v2 dEq (v2 dIx (v2 dIx (vVarZ 1) (vVarZ 3)) (vVarZ 4)) (v2 dIx (v2 dIx (vVarZ 1) (vVarZ 4)) (vVarZ 3))) (v2 dEq (v2 dIx (v2 dIx (vVarZ 1) (vVarZ 3)) (vVarZ 3)) (vC (.int 0))))
def fb_is_left : Sto → Option Fl :=
  (sSeq (sIf (upT (tOrF (tNotF (vB (vIsi "tuple" (vVarZ 1)))) (vB (v2 dNe (v1 dLen (vVarZ 1)) (vVarZ 0)))))
      (sRet (up (vC (.bl false))))
      sNext)
      (sSeq (sIf (upT (tNotF (vB (v1 dAll fb_is_left_c1))))
      (sRet (up (vC (.bl false))))
      sNext)
      (sSeq (sIf (upT (tNotF (vB (v1 dAll fb_is_left_c2))))
      (sRet (up (vC (.bl false))))
      sNext)
      (sSeq (sSet 2 .z (up (vRgL1 false (vVarZ 0))))
      (sRet (up (v1 dAll fb_is_left_c3)))))))
def m_is_left : List D → Option D := fun ds => endP (fb_is_left (argZ ds ++ List.replicate 4 none))
theorem ok_is_left {P : Program} {w : World} {K : PySem.W.Frag} {mg : Str → Option Value} {base : Heap} {C_Season C_Shares : Addr} {f : Addr} {fd : FuncData} (F : Fun K "is_left" "is_left" st_is_left f fd) (T : Txt K mg C_Season C_Shares) (c_is_count : Fc P w K mg base "is_count" ["value"] 2 (spP K 1 .z m_is_count)) : FnOk P w K mg base CX0 3 f fd ["size", "value"] (spP K 2 .z m_is_left) :=
  fn_pure (fb := fb_is_left) F sc_is_left (fun cdv A outer s H E hr => ((ssv_cons (sv_if (PTV.etv (PWV.pt (pw_orV (pt_notV (pt_valV (pv_isiT kit_tuple bt_tuple T.b_isinstance T.b_tuple (pv_varZ (i := 1) rfl (vis_of rfl)) rfl rfl))) (pw_or1V (pt_cmpV (op_neD hr.units) od_ne (pv_len T.b_len (pv_varZ (i := 1) rfl (vis_of rfl)) rfl) (pv_varZ (i := 0) rfl (vis_of rfl)) (nomark _))))))
      (ssv_one (sv_ret (FP.ef (PV.fp pv_bl))))
      ssv_nil)
      (ssv_cons (sv_if (PTV.etv (pt_notV (pt_valV (pv_all T.b_all rfl (FP.pv (fp_lc (own := [("row", 5)]) rfl sc_is_left.nd (ip_seq (pv_varZ (i := 1) rfl (vis_of rfl))) (blkOk_by (by rfl)) (fun _ _ _ _ _ => (pgv_name (i := 5) sc_is_left.nd rfl (loc_of rfl))) (fun _ _ _ _ _ => ptsv_nil) (fun _ _ _ _ _ => (PV.fp (pv_and (pv_isiT kit_tuple bt_tuple T.b_isinstance T.b_tuple (pv_varZ (i := 5) rfl (vis_of rfl)) rfl rfl) (pv_one (pv_cmp (op_eqD hr.units) od_eq (pv_len T.b_len (pv_varZ (i := 5) rfl (vis_of rfl)) rfl) (pv_varZ (i := 0) rfl (vis_of rfl)) (nomark _)))))) rfl)) rfl))))
      (ssv_one (sv_ret (FP.ef (PV.fp pv_bl))))
      ssv_nil)
      (ssv_cons (sv_if (PTV.etv (pt_notV (pt_valV (pv_all T.b_all rfl (FP.pv (fp_lc2 (own := [("row", 5), ("one", 3)]) (vs1 := [3]) rfl sc_is_left.nd (ip_seq (pv_varZ (i := 1) rfl (vis_of rfl))) (blkOk_by (by rfl)) (by decide) (fun _ _ _ _ _ => (pgv_name (i := 5) sc_is_left.nd rfl (loc_of rfl))) (fun _ _ _ _ _ => ptsv_nil) (fun _ _ _ _ _ => (ip_seq (pv_varZ (i := 5) rfl (vis_of rfl)))) (fun _ _ _ _ _ => (pgv_name (i := 3) sc_is_left.nd rfl (loc_of rfl))) (fun _ _ _ _ _ => ptsv_nil) (fun _ _ _ _ _ => (fp_call c_is_count.ok (hr.mono (by decide)) rfl c_is_count.g c_is_count.q c_is_count.b (pav_cons (pv_varZ (i := 3) rfl (vis_of rfl)) pav_nil))) rfl rfl)) rfl))))
      (ssv_one (sv_ret (FP.ef (PV.fp pv_bl))))
      ssv_nil)
      (ssv_cons (sv_set (i := 2) sc_is_left.nd rfl (loc_of rfl) (FP.ef (PV.fp (FP.pv (fp_lstRg1 T.b_list T.b_range (pv_varZ (i := 0) rfl (vis_of rfl)) rfl rfl rfl)))) rfl)
      (ssv_one (sv_ret (FP.ef (PV.fp (pv_all T.b_all rfl (FP.pv (fp_lc2 (own := [("one", 3), ("two", 4)]) (vs1 := [4]) rfl sc_is_left.nd (ip_seq (pv_varZ (i := 2) rfl (vis_of rfl))) (blkOk_by (by rfl)) (by decide) (fun _ _ _ _ _ => (pgv_name (i := 3) sc_is_left.nd rfl (loc_of rfl))) (fun _ _ _ _ _ => ptsv_nil) (fun _ _ _ _ _ => (ip_seq (pv_varZ (i := 2) rfl (vis_of rfl)))) (fun _ _ _ _ _ => (pgv_name (i := 4) sc_is_left.nd rfl (loc_of rfl))) (fun _ _ _ _ _ => ptsv_nil) (fun _ _ _ _ _ => (PV.fp (pv_and (pv_cmp (op_eqD hr.units) od_eq (pv_ix ix_seq (od_ix (by rfl)) (pv_ix ix_seq (od_ix (by rfl)) (pv_varZ (i := 1) rfl (vis_of rfl)) (pv_varZ (i := 3) rfl (vis_of rfl)) (by intro _ _; rfl)) (pv_varZ (i := 4) rfl (vis_of rfl)) (by intro _ _; rfl)) (pv_ix ix_seq (od_ix (by rfl)) (pv_ix ix_seq (od_ix (by rfl)) (pv_varZ (i := 1) rfl (vis_of rfl)) (pv_varZ (i := 4) rfl (vis_of rfl)) (by intro _ _; rfl)) (pv_varZ (i := 3) rfl (vis_of rfl)) (by intro _ _; rfl)) (nomark _)) (pv_one (pv_cmp (op_eqD hr.units) od_eq (pv_ix ix_seq (od_ix (by rfl)) (pv_ix ix_seq (od_ix (by rfl)) (pv_varZ (i := 1) rfl (vis_of rfl)) (pv_varZ (i := 3) rfl (vis_of rfl)) (by intro _ _; rfl)) (pv_varZ (i := 3) rfl (vis_of rfl)) (by intro _ _; rfl)) pv_int (nomark _)))))) rfl rfl)) rfl)))))))))
    : SSV (BCx P w K mg base _ _ st_is_left f cdv A outer s H E) .z [] (defBody st_is_left) (fb_is_left))) (fun _ _ _ h => h)
/-! ### Season.__init__ -/
abbrev st_Season_init : Stmt := inClass (top 9) 0
theorem sc_Season_init : FnScope ["self", "wins", "left", "one"] ["self", "wins", "left"] (defScope st_Season_init) := ⟨rfl, rfl, rfl, by decide +kernel, rfl, by decide +kernel, by decide +kernel⟩
def fb_Season_init_c1 : Sto → Option D :=
  vLc [3] (vItems (vVarZ 1)) (gN 3) (fun _ => some true) (vCall (n := 1) m_is_count (aCons (vVarZ 3) aNil))
def fb_Season_init (C_Season : Addr) : Sto → Option Fl :=
  (sSeq (sIf (upT (tOrF (tNotF (vB (vIsi "tuple" (vVarZ 1)))) (tOrF (tNotF (vB (vChain dLt dLe (vC (.int 0)) (v1 dLen (vVarZ 1)) (vC (.int 12))))) (tNotF (vB (v1 dAll fb_Season_init_c1))))))
      sNever
      sNext)
      (sSeq (sIf (upT (tNotF (vB (vCall (n := 2) m_is_left (aCons (v1 dLen (vVarZ 1)) (aCons (vVarZ 2) aNil))))))
      sNever
      sNext)
      (sSeq (sFld 0 C_Season "wins" (up (vVarZ 1)))
      (sSeq (sFld 0 C_Season "left" (up (vVarZ 2)))
      (sFld 0 C_Season "size" (up (v1 dLen (vVarZ 1))))))))
def m_Season_init (C_Season : Addr) : List D → Option (D × D) := fun ds => endIO 0 (.obj fun _ => .z) (fb_Season_init C_Season (argS 0 (.obj fun _ => .z) ds ++ List.replicate 1 none))
theorem ok_Season_init {P : Program} {w : World} {K : PySem.W.Frag} {mg : Str → Option Value} {base : Heap} {C_Season C_Shares : Addr} {f : Addr} {fd : FuncData} (F : Fun K "__init__" "Season.__init__" st_Season_init f fd) (T : Txt K mg C_Season C_Shares) (c_is_count : Fc P w K mg base "is_count" ["value"] 2 (spP K 1 .z m_is_count)) (c_is_left : Fc P w K mg base "is_left" ["size", "value"] 3 (spP K 2 .z m_is_left)) : FnOk P w K mg base CX0 4 f fd ["self", "wins", "left"] (spIO K 3 0 (.obj fun _ => .z) .z (m_Season_init C_Season)) :=
  fn_io (fb := fb_Season_init C_Season) F sc_Season_init (by decide) (fun cdv A outer s H E hr => ((ssv_cons (sv_if (PTV.etv (PWV.pt (pw_orV (pt_notV (pt_valV (pv_isiT kit_tuple bt_tuple T.b_isinstance T.b_tuple (pv_varZ (i := 1) rfl (vis_of rfl)) rfl rfl))) (pw_orV (pt_notV (pt_chainV op_lt op_le od_lt od_le pv_int (pv_len T.b_len (pv_varZ (i := 1) rfl (vis_of rfl)) rfl) (pv_globE rfl T.c_MOST_SIDES))) (pw_or1V (pt_notV (pt_valV (pv_all T.b_all rfl (FP.pv (fp_lc (own := [("one", 3)]) rfl sc_Season_init.nd (ip_seq (pv_varZ (i := 1) rfl (vis_of rfl))) (blkOk_by (by rfl)) (fun _ _ _ _ _ => (pgv_name (i := 3) sc_Season_init.nd rfl (loc_of rfl))) (fun _ _ _ _ _ => ptsv_nil) (fun _ _ _ _ _ => (fp_call c_is_count.ok (hr.mono (by decide)) rfl c_is_count.g c_is_count.q c_is_count.b (pav_cons (pv_varZ (i := 3) rfl (vis_of rfl)) pav_nil))) rfl)) rfl))))))))
      ssv_never
      ssv_nil)
      (ssv_cons (sv_if (PTV.etv (pt_notV (pt_valV (FP.pv (fp_call c_is_left.ok (hr.mono (by decide)) rfl c_is_left.g c_is_left.q c_is_left.b (pav_cons (pv_len T.b_len (pv_varZ (i := 1) rfl (vis_of rfl)) rfl) (pav_cons (pv_varZ (i := 2) rfl (vis_of rfl)) pav_nil)))))))
      ssv_never
      ssv_nil)
      (ssv_cons (sv_fldN (i := 0) rfl (vis_of rfl) T.f_Season_wins (PV.ev (pv_varZ (i := 1) rfl (vis_of rfl))))
      (ssv_cons (sv_fldN (i := 0) rfl (vis_of rfl) T.f_Season_left (PV.ev (pv_varZ (i := 2) rfl (vis_of rfl))))
      (ssv_one (sv_fldN (i := 0) rfl (vis_of rfl) T.f_Season_size (PV.ev (pv_len T.b_len (pv_varZ (i := 1) rfl (vis_of rfl)) rfl))))))))
    : SSV (BCx P w K mg base _ _ st_Season_init f cdv A outer s H E) .z [0] (defBody st_Season_init) (fb_Season_init C_Season))) (fun _ _ _ h => h)
/-! ### Season.matches -/
abbrev st_Season_matches : Stmt := inClass (top 9) 1
theorem sc_Season_matches : FnScope ["self", "side"] ["self", "side"] (defScope st_Season_matches) := ⟨rfl, rfl, rfl, by decide +kernel, rfl, by decide +kernel, by decide +kernel⟩
def fb_Season_matches (C_Season : Addr) : Sto → Option Fl :=
  (sRet (up (v1 dSumA (v2 dIx (vFld C_Season "left" (vVarZ 0)) (vVarZ 1)))))
def m_Season_matches (C_Season : Addr) : List D → Option D := fun ds => endP (fb_Season_matches C_Season (argZ ds ++ List.replicate 0 none))
theorem ok_Season_matches {P : Program} {w : World} {K : PySem.W.Frag} {mg : Str → Option Value} {base : Heap} {C_Season C_Shares : Addr} {f : Addr} {fd : FuncData} (F : Fun K "matches" "Season.matches" st_Season_matches f fd) (T : Txt K mg C_Season C_Shares)  : FnOk P w K mg base CX0 1 f fd ["self", "side"] (spP K 2 .z (m_Season_matches C_Season)) :=
  fn_pure (fb := fb_Season_matches C_Season) F sc_Season_matches (fun cdv A outer s H E hr => ((ssv_one (sv_ret (FP.ef (PV.fp (pv_sumA T.b_sum rfl (pv_ix ix_seq (od_ix (by rfl)) (pv_fld T.f_Season_left (pv_varZ (i := 0) rfl (vis_of rfl))) (pv_varZ (i := 1) rfl (vis_of rfl)) (by intro _ _; rfl)) rfl)))))
    : SSV (BCx P w K mg base _ _ st_Season_matches f cdv A outer s H E) .z [] (defBody st_Season_matches) (fb_Season_matches C_Season))) (fun _ _ _ h => h)
/-! ### Season.most -/
abbrev st_Season_most : Stmt := inClass (top 9) 2
theorem sc_Season_most : FnScope ["self", "side"] ["self", "side"] (defScope st_Season_most) := ⟨rfl, rfl, rfl, by decide +kernel, rfl, by decide +kernel, by decide +kernel⟩
def fb_Season_most (C_Season : Addr) : Sto → Option Fl :=
  (sRet (up (v2 dAddI (v2 dIx (vFld C_Season "wins" (vVarZ 0)) (vVarZ 1)) (vMeth 2 C_Season "matches" (m_Season_matches C_Season) (vVarZ 0) (aCons (vVarZ 1) aNil)))))
def m_Season_most (C_Season : Addr) : List D → Option D := fun ds => endP (fb_Season_most C_Season (argZ ds ++ List.replicate 0 none))
theorem ok_Season_most {P : Program} {w : World} {K : PySem.W.Frag} {mg : Str → Option Value} {base : Heap} {C_Season C_Shares : Addr} {f : Addr} {fd : FuncData} (F : Fun K "most" "Season.most" st_Season_most f fd) (T : Txt K mg C_Season C_Shares) (c_Season_matches : Mt P w K mg base C_Season "matches" ["self", "side"] 1 (spP K 2 .z (m_Season_matches C_Season))) : FnOk P w K mg base CX0 2 f fd ["self", "side"] (spP K 2 .z (m_Season_most C_Season)) :=
  fn_pure (fb := fb_Season_most C_Season) F sc_Season_most (fun cdv A outer s H E hr => ((ssv_one (sv_ret (FP.ef (PV.fp (pv_bin op_add od_addI (pv_ix ix_seq (od_ix (by rfl)) (pv_fld T.f_Season_wins (pv_varZ (i := 0) rfl (vis_of rfl))) (pv_varZ (i := 1) rfl (vis_of rfl)) (by intro _ _; rfl)) (FP.pv (fp_meth (pv_varZ (i := 0) rfl (vis_of rfl)) T.k_Season c_Season_matches.me c_Season_matches.ok (hr.mono (by decide)) c_Season_matches.b (pav_cons (pv_varZ (i := 1) rfl (vis_of rfl)) pav_nil))))))))
    : SSV (BCx P w K mg base _ _ st_Season_most f cdv A outer s H E) .z [] (defBody st_Season_most) (fb_Season_most C_Season))) (fun _ _ _ h => h)
/-! ### look_at_side -/
abbrev st_look_at_side : Stmt := top 11
theorem sc_look_at_side : FnScope ["season", "side"] ["season", "side"] (defScope st_look_at_side) := ⟨rfl, rfl, rfl, by decide +kernel, rfl, by decide +kernel, by decide +kernel⟩
def fb_look_at_side (C_Season : Addr) : Sto → Option Fl :=
  (sIf (upT (tOrF (tNotF (vB (vCall (n := 1) m_is_integer (aCons (vVarZ 1) aNil)))) (tNotF (vB (vChain dLe dLt (vC (.int 0)) (vVarZ 1) (vFld C_Season "size" (vVarZ 0)))))))
      sNever
      sNext)
def m_look_at_side (C_Season : Addr) : List D → Option D := fun ds => endP (fb_look_at_side C_Season (argZ ds ++ List.replicate 0 none))
theorem ok_look_at_side {P : Program} {w : World} {K : PySem.W.Frag} {mg : Str → Option Value} {base : Heap} {C_Season C_Shares : Addr} {f : Addr} {fd : FuncData} (F : Fun K "look_at_side" "look_at_side" st_look_at_side f fd) (T : Txt K mg C_Season C_Shares) (c_is_integer : Fc P w K mg base "is_integer" ["value"] 1 (spP K 1 .z m_is_integer)) : FnOk P w K mg base CX0 2 f fd ["season", "side"] (spP K 2 .z (m_look_at_side C_Season)) :=
  fn_pure (fb := fb_look_at_side C_Season) F sc_look_at_side (fun cdv A outer s H E hr => ((ssv_one (sv_if (PTV.etv (PWV.pt (pw_orV (pt_notV (pt_valV (FP.pv (fp_call c_is_integer.ok (hr.mono (by decide)) rfl c_is_integer.g c_is_integer.q c_is_integer.b (pav_cons (pv_varZ (i := 1) rfl (vis_of rfl)) pav_nil))))) (pw_or1V (pt_notV (pt_chainV op_le op_lt od_le od_lt pv_int (pv_varZ (i := 1) rfl (vis_of rfl)) (pv_fld T.f_Season_size (pv_varZ (i := 0) rfl (vis_of rfl)))))))))
      ssv_never
      ssv_nil))
    : SSV (BCx P w K mg base _ _ st_look_at_side f cdv A outer s H E) .z [] (defBody st_look_at_side) (fb_look_at_side C_Season))) (fun _ _ _ h => h)
/-! ### Shares.__init__ -/
abbrev st_Shares_init : Stmt := inClass (top 12) 0
theorem sc_Shares_init : FnScope ["self", "season", "side", "one", "two", "row"] ["self", "season", "side"] (defScope st_Shares_init) := ⟨rfl, rfl, rfl, by decide +kernel, rfl, by decide +kernel, by decide +kernel⟩
def fb_Shares_init_c1 (C_Season : Addr) : Sto → Option D :=
  vLc [5] (vItems (vFld C_Season "left" (vVarZ 1))) (gN 5) (fun _ => some true) (v1 dList (vVarZ 5))
def fb_Shares_init_b1 (C_Shares : Addr) : Sto → Option Fl :=
  (sIf (upT (tAndF (vB (v2 dNe (vVarZ 3) (vVarZ 2))) (tOrF (vB (v2 dEq (vVarZ 4) (vVarZ 2))) (vB (v2 dGt (vVarZ 4) (vVarZ 3))))))
      (sAsg (up (vC (.int 0))) (gSet 0 .z (lIx 0 (lFld 0 C_Shares "won" (lVar 0)) (vVarZ 3)) (vVarZ 4)))
      sNext)
def fb_Shares_init_b2 (C_Season : Addr) (C_Shares : Addr) : Sto → Option Fl :=
  (sFor (upI (vRng1 (aCons (vFld C_Season "size" (vVarZ 1)) aNil))) (gN 4) (fb_Shares_init_b1 C_Shares))
def fb_Shares_init (C_Season : Addr) (C_Shares : Addr) : Sto → Option Fl :=
  (sSeq (sFld 0 C_Shares "season" (up (vVarZ 1)))
      (sSeq (sFld 0 C_Shares "most" (up (vMeth 2 C_Season "most" (m_Season_most C_Season) (vVarZ 1) (aCons (vVarZ 2) aNil))))
      (sSeq (sFldO 0 C_Shares "won" (.seq (.seq .z)) (up (fb_Shares_init_c1 C_Season)))
      (sFor (upI (vRng1 (aCons (vFld C_Season "size" (vVarZ 1)) aNil))) (gN 3) (fb_Shares_init_b2 C_Season C_Shares)))))
def m_Shares_init (C_Season : Addr) (C_Shares : Addr) : List D → Option (D × D) := fun ds => endIO 0 (.obj fun n => if n = ("won" : Str) then (.seq (.seq .z)) else .z) (fb_Shares_init C_Season C_Shares (argS 0 (.obj fun n => if n = ("won" : Str) then (.seq (.seq .z)) else .z) ds ++ List.replicate 3 none))
theorem ok_Shares_init {P : Program} {w : World} {K : PySem.W.Frag} {mg : Str → Option Value} {base : Heap} {C_Season C_Shares : Addr} {f : Addr} {fd : FuncData} (F : Fun K "__init__" "Shares.__init__" st_Shares_init f fd) (T : Txt K mg C_Season C_Shares) (c_Season_most : Mt P w K mg base C_Season "most" ["self", "side"] 2 (spP K 2 .z (m_Season_most C_Season))) : FnOk P w K mg base CX0 3 f fd ["self", "season", "side"] (spIO K 3 0 (.obj fun n => if n = ("won" : Str) then (.seq (.seq .z)) else .z) .z (m_Shares_init C_Season C_Shares)) :=
  fn_io (fb := fb_Shares_init C_Season C_Shares) F sc_Shares_init (by decide) (fun cdv A outer s H E hr => ((ssv_cons (sv_fldN (i := 0) rfl (vis_of rfl) T.f_Shares_season (PV.ev (pv_varZ (i := 1) rfl (vis_of rfl))))
      (ssv_cons (sv_fldN (i := 0) rfl (vis_of rfl) T.f_Shares_most (PV.ev (FP.pv (fp_meth (pv_varZ (i := 1) rfl (vis_of rfl)) T.k_Season c_Season_most.me c_Season_most.ok (hr.mono (by decide)) c_Season_most.b (pav_cons (pv_varZ (i := 2) rfl (vis_of rfl)) pav_nil)))))
      (ssv_cons (sv_fldO (i := 0) rfl (vis_of rfl) T.f_Shares_won (FP.ef (fp_lc (own := [("row", 5)]) rfl sc_Shares_init.nd (ip_seq (pv_fld T.f_Season_left (pv_varZ (i := 1) rfl (vis_of rfl)))) (blkOk_by (by rfl)) (fun _ _ _ _ _ => (pgv_name (i := 5) sc_Shares_init.nd rfl (loc_of rfl))) (fun _ _ _ _ _ => ptsv_nil) (fun _ _ _ _ _ => (fp_lstC T.b_list rfl (pv_varZ (i := 5) rfl (vis_of rfl)) rfl)) rfl)))
      (ssv_one (sv_for PassesOwn.never rfl (IPV.iev (ip_range1 rfl T.b_range (pav_cons (pv_fld T.f_Season_size (pv_varZ (i := 1) rfl (vis_of rfl))) pav_nil))) (pgv_name (i := 3) sc_Shares_init.nd rfl (loc_of rfl))
      (ssv_one (sv_for PassesOwn.never rfl (IPV.iev (ip_range1 rfl T.b_range (pav_cons (pv_fld T.f_Season_size (pv_varZ (i := 1) rfl (vis_of rfl))) pav_nil))) (pgv_name (i := 4) sc_Shares_init.nd rfl (loc_of rfl))
      (ssv_one (sv_if (PTV.etv (PWV.pt (pw_andV (pt_cmpV (op_neD hr.units) od_ne (pv_varZ (i := 3) rfl (vis_of rfl)) (pv_varZ (i := 2) rfl (vis_of rfl)) (nomark _)) (pw_and1V (PWV.pt (pw_orV (pt_cmpV (op_eqD hr.units) od_eq (pv_varZ (i := 4) rfl (vis_of rfl)) (pv_varZ (i := 2) rfl (vis_of rfl)) (nomark _)) (pw_or1V (pt_cmpV op_gt od_gt (pv_varZ (i := 4) rfl (vis_of rfl)) (pv_varZ (i := 3) rfl (vis_of rfl)) (nomark _)))))))))
      (ssv_one (sv_asg (FP.ef (PV.fp pv_int)) (pgf_set (s := .z) (lv_ix (lv_fld T.f_Shares_won (lv_var (i := 0) rfl (vis_of rfl))) (pv_varZ (i := 3) rfl (vis_of rfl)) (by intro _ _; rfl)) (pv_varZ (i := 4) rfl (vis_of rfl))) rfl))
      ssv_nil)) rfl)) rfl)))))
    : SSV (BCx P w K mg base _ _ st_Shares_init f cdv A outer s H E) .z [0] (defBody st_Shares_init) (fb_Shares_init C_Season C_Shares))) (fun _ _ _ h => h)
/-! ### Shares.wins -/
abbrev st_Shares_wins : Stmt := inClass (top 12) 1
theorem sc_Shares_wins : FnScope ["self", "side"] ["self", "side"] (defScope st_Shares_wins) := ⟨rfl, rfl, rfl, by decide +kernel, rfl, by decide +kernel, by decide +kernel⟩
def fb_Shares_wins (C_Season : Addr) (C_Shares : Addr) : Sto → Option Fl :=
  (sRet (up (v2 dAddI (v2 dIx (vFld C_Season "wins" (vFld C_Shares "season" (vVarZ 0))) (vVarZ 1)) (v1 dSumA (v2 dIx (vFld C_Shares "won" (vVarZ 0)) (vVarZ 1))))))
def m_Shares_wins (C_Season : Addr) (C_Shares : Addr) : List D → Option D := fun ds => endP (fb_Shares_wins C_Season C_Shares (argZ ds ++ List.replicate 0 none))
theorem ok_Shares_wins {P : Program} {w : World} {K : PySem.W.Frag} {mg : Str → Option Value} {base : Heap} {C_Season C_Shares : Addr} {f : Addr} {fd : FuncData} (F : Fun K "wins" "Shares.wins" st_Shares_wins f fd) (T : Txt K mg C_Season C_Shares)  : FnOk P w K mg base CX0 1 f fd ["self", "side"] (spP K 2 .z (m_Shares_wins C_Season C_Shares)) :=
  fn_pure (fb := fb_Shares_wins C_Season C_Shares) F sc_Shares_wins (fun cdv A outer s H E hr => ((ssv_one (sv_ret (FP.ef (PV.fp (pv_bin op_add od_addI (pv_ix ix_seq (od_ix (by rfl)) (pv_fld T.f_Season_wins (pv_fld T.f_Shares_season (pv_varZ (i := 0) rfl (vis_of rfl)))) (pv_varZ (i := 1) rfl (vis_of rfl)) (by intro _ _; rfl)) (pv_sumA T.b_sum rfl (pv_ix ix_seq (od_ix (by rfl)) (pv_fld T.f_Shares_won (pv_varZ (i := 0) rfl (vis_of rfl))) (pv_varZ (i := 1) rfl (vis_of rfl)) (by intro _ _; rfl)) rfl))))))
    : SSV (BCx P w K mg base _ _ st_Shares_wins f cdv A outer s H E) .z [] (defBody st_Shares_wins) (fb_Shares_wins C_Season C_Shares))) (fun _ _ _ h => h)
/-! ### Shares.over -/
abbrev st_Shares_over : Stmt := inClass (top 12) 2
theorem sc_Shares_over : FnScope ["self", "side"] ["self"] (defScope st_Shares_over) := ⟨rfl, rfl, rfl, by decide +kernel, rfl, by decide +kernel, by decide +kernel⟩
def fb_Shares_over_c1 (C_Season : Addr) (C_Shares : Addr) : Sto → Option D :=
  vLc [1] (vRng1 (aCons (vFld C_Season "size" (vFld C_Shares "season" (vVarZ 0))) aNil)) (gN 1) (vB (v2 dGt (vMeth 2 C_Shares "wins" (m_Shares_wins C_Season C_Shares) (vVarZ 0) (aCons (vVarZ 1) aNil)) (vFld C_Shares "most" (vVarZ 0)))) (vVarZ 1)
def fb_Shares_over (C_Season : Addr) (C_Shares : Addr) : Sto → Option Fl :=
  (sRet (up (fb_Shares_over_c1 C_Season C_Shares)))
def m_Shares_over (C_Season : Addr) (C_Shares : Addr) : List D → Option D := fun ds => endP (fb_Shares_over C_Season C_Shares (argZ ds ++ List.replicate 1 none))
theorem ok_Shares_over {P : Program} {w : World} {K : PySem.W.Frag} {mg : Str → Option Value} {base : Heap} {C_Season C_Shares : Addr} {f : Addr} {fd : FuncData} (F : Fun K "over" "Shares.over" st_Shares_over f fd) (T : Txt K mg C_Season C_Shares) (c_Shares_wins : Mt P w K mg base C_Shares "wins" ["self", "side"] 1 (spP K 2 .z (m_Shares_wins C_Season C_Shares))) : FnOk P w K mg base CX0 2 f fd ["self"] (spP K 1 (.seq .z) (m_Shares_over C_Season C_Shares)) :=
  fn_pure (fb := fb_Shares_over C_Season C_Shares) F sc_Shares_over (fun cdv A outer s H E hr => ((ssv_one (sv_ret (FP.ef (fp_lc (own := [("side", 1)]) rfl sc_Shares_over.nd (ip_range1 rfl T.b_range (pav_cons (pv_fld T.f_Season_size (pv_fld T.f_Shares_season (pv_varZ (i := 0) rfl (vis_of rfl)))) pav_nil)) (blkOk_by (by rfl)) (fun _ _ _ _ _ => (pgv_name (i := 1) sc_Shares_over.nd rfl (loc_of rfl))) (fun _ _ _ _ _ => (ptsv_one (pt_cmpV op_gt od_gt (FP.pv (fp_meth (pv_varZ (i := 0) rfl (vis_of rfl)) T.k_Shares c_Shares_wins.me c_Shares_wins.ok (hr.mono (by decide)) c_Shares_wins.b (pav_cons (pv_varZ (i := 1) rfl (vis_of rfl)) pav_nil))) (pv_fld T.f_Shares_most (pv_varZ (i := 0) rfl (vis_of rfl))) (nomark _)))) (fun _ _ _ _ _ => (PV.fp (pv_varZ (i := 1) rfl (vis_of rfl)))) rfl))))
    : SSV (BCx P w K mg base _ _ st_Shares_over f cdv A outer s H E) (.seq .z) [] (defBody st_Shares_over) (fb_Shares_over C_Season C_Shares))) (fun _ _ _ h => h)
/-! ### Shares.reached -/
abbrev st_Shares_reached : Stmt := inClass (top 12) 3
theorem sc_Shares_reached : FnScope ["self", "side", "found", "todo", "at", "other"] ["self", "side"] (defScope st_Shares_reached) := ⟨rfl, rfl, rfl, by decide +kernel, rfl, by decide +kernel, by decide +kernel⟩
def fb_Shares_reached_b1 (C_Shares : Addr) : Sto → Option Fl :=
  (sIf (upT (tAndF (vB (v2 dDNotIn (vVarZ 5) (vVarS 2))) (vB (v2 dGt (v2 dIx (v2 dIx (vFld C_Shares "won" (vVarZ 0)) (v2 dIx (vVarS 3) (vVarZ 4))) (vVarZ 5)) (vC (.int 0))))))
      (sSeq (sDPutV 2 (vVarZ 5) (up (v2 dIx (vVarS 3) (vVarZ 4))))
      (sApp 3 .z (lVar 3) (up (vVarZ 5))))
      sNext)
def fb_Shares_reached_t1 : Sto → Option (Bool × Sto) :=
  (upT (vB (v2 dLt (vVarZ 4) (v1 dLen (vVarS 3)))))
def fb_Shares_reached_b2 (C_Season : Addr) (C_Shares : Addr) : Sto → Option Fl :=
  (sSeq (sFor (upI (vRng1 (aCons (vFld C_Season "size" (vFld C_Shares "season" (vVarZ 0))) aNil))) (gN 5) (fb_Shares_reached_b1 C_Shares))
      (sAug 4 (up (vC (.int 1))) dAddI))
def fb_Shares_reached (C_Season : Addr) (C_Shares : Addr) : Sto → Option Fl :=
  (sSeq (sSet 2 (.seq .z) (up (vDisp1 (vVarZ 1) (vC .non))))
      (sSeq (sSet 3 (.seq .z) (up (vLst (aCons (vVarZ 1) aNil))))
      (sSeq (sSet 4 .z (up (vC (.int 0))))
      (sSeq (whileL fb_Shares_reached_t1 (fb_Shares_reached_b2 C_Season C_Shares) 1000)
      (sRet (vMove 2))))))
def m_Shares_reached (C_Season : Addr) (C_Shares : Addr) : List D → Option D := fun ds => endP (fb_Shares_reached C_Season C_Shares (argZ ds ++ List.replicate 4 none))
theorem ok_Shares_reached {P : Program} {w : World} {K : PySem.W.Frag} {mg : Str → Option Value} {base : Heap} {C_Season C_Shares : Addr} {f : Addr} {fd : FuncData} (F : Fun K "reached" "Shares.reached" st_Shares_reached f fd) (T : Txt K mg C_Season C_Shares)  : FnOk P w K mg base CX0 1 f fd ["self", "side"] (spP K 2 (.seq .z) (m_Shares_reached C_Season C_Shares)) :=
  fn_pure (fb := fb_Shares_reached C_Season C_Shares) F sc_Shares_reached (fun cdv A outer s H E hr => ((ssv_cons (sv_set (i := 2) sc_Shares_reached.nd rfl (loc_of rfl) (FP.ef (fp_disp1 (pv_varZ (i := 1) rfl (vis_of rfl)) pv_non)) rfl)
      (ssv_cons (sv_set (i := 3) sc_Shares_reached.nd rfl (loc_of rfl) (FP.ef (fp_lst (pav_cons (pv_varZ (i := 1) rfl (vis_of rfl)) pav_nil))) rfl)
      (ssv_cons (sv_set (i := 4) sc_Shares_reached.nd rfl (loc_of rfl) (FP.ef (PV.fp pv_int)) rfl)
      (ssv_cons (sv_while 1000 PassesOwn.never (PTV.etv (pt_cmpV op_lt od_lt (pv_varZ (i := 4) rfl (vis_of rfl)) (pv_len T.b_len (pv_varS (i := 3) rfl (vis_of rfl)) rfl) (nomark _)))
      (ssv_cons (sv_for PassesOwn.never rfl (IPV.iev (ip_range1 rfl T.b_range (pav_cons (pv_fld T.f_Season_size (pv_fld T.f_Shares_season (pv_varZ (i := 0) rfl (vis_of rfl)))) pav_nil))) (pgv_name (i := 5) sc_Shares_reached.nd rfl (loc_of rfl))
      (ssv_one (sv_if (PTV.etv (PWV.pt (pw_andV (pt_dnotin rfl (hu_of hr) (pv_varZ (i := 5) rfl (vis_of rfl)) (pv_varS (i := 2) rfl (vis_of rfl)) (by with_unfolding_all rfl)) (pw_and1V (pt_cmpV op_gt od_gt (pv_ix ix_seq (od_ix (by rfl)) (pv_ix ix_seq (od_ix (by rfl)) (pv_fld T.f_Shares_won (pv_varZ (i := 0) rfl (vis_of rfl))) (pv_ix ix_seq (od_ix (by rfl)) (pv_varS (i := 3) rfl (vis_of rfl)) (pv_varZ (i := 4) rfl (vis_of rfl)) (by intro _ _; rfl)) (by intro _ _; rfl)) (pv_varZ (i := 5) rfl (vis_of rfl)) (by intro _ _; rfl)) pv_int (nomark _))))))
      (ssv_cons (sv_dput (i := 2) (hu_of hr) rfl (vis_of rfl) (pv_varZ (i := 5) rfl (vis_of rfl)) (PV.ev (pv_ix ix_seq (od_ix (by rfl)) (pv_varS (i := 3) rfl (vis_of rfl)) (pv_varZ (i := 4) rfl (vis_of rfl)) (by intro _ _; rfl))))
      (ssv_one (sv_append (lv_var (i := 3) rfl (vis_of rfl)) (FP.ef (PV.fp (pv_varZ (i := 5) rfl (vis_of rfl)))) rfl)))
      ssv_nil)) rfl)
      (ssv_one (sv_aug (i := 4) sc_Shares_reached.nd rfl (loc_of rfl) (PV.ev pv_int) iop_add od_addI rfl))))
      (ssv_one (sv_ret (ef_move (i := 2) rfl (vis_of rfl))))))))
    : SSV (BCx P w K mg base _ _ st_Shares_reached f cdv A outer s H E) (.seq .z) [] (defBody st_Shares_reached) (fb_Shares_reached C_Season C_Shares))) (fun _ _ _ h => h)
/-! ### Shares.hand_on -/
abbrev st_Shares_hand_on : Stmt := inClass (top 12) 4
theorem sc_Shares_hand_on : FnScope ["self", "ways", "side", "other", "many", "ahead"] ["self", "ways", "side", "other", "many"] (defScope st_Shares_hand_on) := ⟨rfl, rfl, rfl, by decide +kernel, rfl, by decide +kernel, by decide +kernel⟩
def fb_Shares_hand_on_t1 : Sto → Option (Bool × Sto) :=
  (upT (vB (v2 dNe (vVarZ 3) (vVarZ 2))))
def fb_Shares_hand_on_b1 (C_Shares : Addr) : Sto → Option Fl :=
  (sSeq (sSet 5 .z (up (v2 dDGet (vVarZ 1) (vVarZ 3))))
      (sSeq (sAugS 0 (lIx 0 (lFld 0 C_Shares "won" (lVar 0)) (vVarZ 5)) (vVarZ 3) (vVarZ 4) dSub)
      (sSeq (sAugS 0 (lIx 0 (lFld 0 C_Shares "won" (lVar 0)) (vVarZ 3)) (vVarZ 5) (vVarZ 4) dAddI)
      (sSet 3 .z (up (vVarZ 5))))))
def fb_Shares_hand_on (C_Shares : Addr) : Sto → Option Fl :=
  (whileL fb_Shares_hand_on_t1 (fb_Shares_hand_on_b1 C_Shares) 1000)
def m_Shares_hand_on (C_Shares : Addr) : List D → Option (D × D) := fun ds => endIO 0 (.obj fun n => if n = ("won" : Str) then (.seq (.seq .z)) else .z) (fb_Shares_hand_on C_Shares (argS 0 (.obj fun n => if n = ("won" : Str) then (.seq (.seq .z)) else .z) ds ++ List.replicate 1 none))
theorem ok_Shares_hand_on {P : Program} {w : World} {K : PySem.W.Frag} {mg : Str → Option Value} {base : Heap} {C_Season C_Shares : Addr} {f : Addr} {fd : FuncData} (F : Fun K "hand_on" "Shares.hand_on" st_Shares_hand_on f fd) (T : Txt K mg C_Season C_Shares)  : FnOk P w K mg base CX0 1 f fd ["self", "ways", "side", "other", "many"] (spIO K 5 0 (.obj fun n => if n = ("won" : Str) then (.seq (.seq .z)) else .z) .z (m_Shares_hand_on C_Shares)) :=
  fn_io (fb := fb_Shares_hand_on C_Shares) F sc_Shares_hand_on (by decide) (fun cdv A outer s H E hr => ((ssv_one (sv_while 1000 PassesOwn.never (PTV.etv (pt_cmpV (op_neD hr.units) od_ne (pv_varZ (i := 3) rfl (vis_of rfl)) (pv_varZ (i := 2) rfl (vis_of rfl)) (nomark _)))
      (ssv_cons (sv_set (i := 5) sc_Shares_hand_on.nd rfl (loc_of rfl) (FP.ef (PV.fp (pv_dget rfl (hu_of hr) (pv_varZ (i := 1) rfl (vis_of rfl)) (pv_varZ (i := 3) rfl (vis_of rfl)) (by intro _ _; rfl)))) rfl)
      (ssv_cons (sv_augS (i := 0) (lv_ix (lv_fld T.f_Shares_won (lv_var (i := 0) rfl (vis_of rfl))) (pv_varZ (i := 5) rfl (vis_of rfl)) (by intro _ _; rfl)) (pv_varZ (i := 3) rfl (vis_of rfl)) (pv_varZ (i := 4) rfl (vis_of rfl)) iop_sub od_sub)
      (ssv_cons (sv_augS (i := 0) (lv_ix (lv_fld T.f_Shares_won (lv_var (i := 0) rfl (vis_of rfl))) (pv_varZ (i := 3) rfl (vis_of rfl)) (by intro _ _; rfl)) (pv_varZ (i := 5) rfl (vis_of rfl)) (pv_varZ (i := 4) rfl (vis_of rfl)) iop_add od_addI)
      (ssv_one (sv_set (i := 3) sc_Shares_hand_on.nd rfl (loc_of rfl) (FP.ef (PV.fp (pv_varZ (i := 5) rfl (vis_of rfl)))) rfl)))))))
    : SSV (BCx P w K mg base _ _ st_Shares_hand_on f cdv A outer s H E) .z [0] (defBody st_Shares_hand_on) (fb_Shares_hand_on C_Shares))) (fun _ _ _ h => h)
/-! ### Shares.room_on -/
abbrev st_Shares_room_on : Stmt := inClass (top 12) 5
theorem sc_Shares_room_on : FnScope ["self", "ways", "side", "other", "room"] ["self", "ways", "side", "other"] (defScope st_Shares_room_on) := ⟨rfl, rfl, rfl, by decide +kernel, rfl, by decide +kernel, by decide +kernel⟩
def fb_Shares_room_on_t1 : Sto → Option (Bool × Sto) :=
  (upT (vB (v2 dNe (vVarZ 3) (vVarZ 2))))
def fb_Shares_room_on_b1 (C_Shares : Addr) : Sto → Option Fl :=
  (sSeq (sSet 4 .z (up (vB2 dMin2 (aCons (vVarZ 4) (aCons (v2 dIx (v2 dIx (vFld C_Shares "won" (vVarZ 0)) (v2 dDGet (vVarZ 1) (vVarZ 3))) (vVarZ 3)) aNil)))))
      (sSet 3 .z (up (v2 dDGet (vVarZ 1) (vVarZ 3)))))
def fb_Shares_room_on (C_Season : Addr) (C_Shares : Addr) : Sto → Option Fl :=
  (sSeq (sSet 4 .z (up (vB2 dMin2 (aCons (v2 dSub (vMeth 2 C_Shares "wins" (m_Shares_wins C_Season C_Shares) (vVarZ 0) (aCons (vVarZ 2) aNil)) (vFld C_Shares "most" (vVarZ 0))) (aCons (v2 dSub (vFld C_Shares "most" (vVarZ 0)) (vMeth 2 C_Shares "wins" (m_Shares_wins C_Season C_Shares) (vVarZ 0) (aCons (vVarZ 3) aNil))) aNil)))))
      (sSeq (whileL fb_Shares_room_on_t1 (fb_Shares_room_on_b1 C_Shares) 1000)
      (sRet (up (vVarZ 4)))))
def m_Shares_room_on (C_Season : Addr) (C_Shares : Addr) : List D → Option D := fun ds => endP (fb_Shares_room_on C_Season C_Shares (argZ ds ++ List.replicate 1 none))
theorem ok_Shares_room_on {P : Program} {w : World} {K : PySem.W.Frag} {mg : Str → Option Value} {base : Heap} {C_Season C_Shares : Addr} {f : Addr} {fd : FuncData} (F : Fun K "room_on" "Shares.room_on" st_Shares_room_on f fd) (T : Txt K mg C_Season C_Shares) (c_Shares_wins : Mt P w K mg base C_Shares "wins" ["self", "side"] 1 (spP K 2 .z (m_Shares_wins C_Season C_Shares))) : FnOk P w K mg base CX0 2 f fd ["self", "ways", "side", "other"] (spP K 4 .z (m_Shares_room_on C_Season C_Shares)) :=
  fn_pure (fb := fb_Shares_room_on C_Season C_Shares) F sc_Shares_room_on (fun cdv A outer s H E hr => ((ssv_cons (sv_set (i := 4) sc_Shares_room_on.nd rfl (loc_of rfl) (FP.ef (PV.fp (pv_min2 T.b_min rfl (pav_cons (pv_bin op_sub od_sub (FP.pv (fp_meth (pv_varZ (i := 0) rfl (vis_of rfl)) T.k_Shares c_Shares_wins.me c_Shares_wins.ok (hr.mono (by decide)) c_Shares_wins.b (pav_cons (pv_varZ (i := 2) rfl (vis_of rfl)) pav_nil))) (pv_fld T.f_Shares_most (pv_varZ (i := 0) rfl (vis_of rfl)))) (pav_cons (pv_bin op_sub od_sub (pv_fld T.f_Shares_most (pv_varZ (i := 0) rfl (vis_of rfl))) (FP.pv (fp_meth (pv_varZ (i := 0) rfl (vis_of rfl)) T.k_Shares c_Shares_wins.me c_Shares_wins.ok (hr.mono (by decide)) c_Shares_wins.b (pav_cons (pv_varZ (i := 3) rfl (vis_of rfl)) pav_nil)))) pav_nil)) rfl))) rfl)
      (ssv_cons (sv_while 1000 PassesOwn.never (PTV.etv (pt_cmpV (op_neD hr.units) od_ne (pv_varZ (i := 3) rfl (vis_of rfl)) (pv_varZ (i := 2) rfl (vis_of rfl)) (nomark _)))
      (ssv_cons (sv_set (i := 4) sc_Shares_room_on.nd rfl (loc_of rfl) (FP.ef (PV.fp (pv_min2 T.b_min rfl (pav_cons (pv_varZ (i := 4) rfl (vis_of rfl)) (pav_cons (pv_ix ix_seq (od_ix (by rfl)) (pv_ix ix_seq (od_ix (by rfl)) (pv_fld T.f_Shares_won (pv_varZ (i := 0) rfl (vis_of rfl))) (pv_dget rfl (hu_of hr) (pv_varZ (i := 1) rfl (vis_of rfl)) (pv_varZ (i := 3) rfl (vis_of rfl)) (by intro _ _; rfl)) (by intro _ _; rfl)) (pv_varZ (i := 3) rfl (vis_of rfl)) (by intro _ _; rfl)) pav_nil)) rfl))) rfl)
      (ssv_one (sv_set (i := 3) sc_Shares_room_on.nd rfl (loc_of rfl) (FP.ef (PV.fp (pv_dget rfl (hu_of hr) (pv_varZ (i := 1) rfl (vis_of rfl)) (pv_varZ (i := 3) rfl (vis_of rfl)) (by intro _ _; rfl)))) rfl))))
      (ssv_one (sv_ret (FP.ef (PV.fp (pv_varZ (i := 4) rfl (vis_of rfl))))))))
    : SSV (BCx P w K mg base _ _ st_Shares_room_on f cdv A outer s H E) .z [] (defBody st_Shares_room_on) (fb_Shares_room_on C_Season C_Shares))) (fun _ _ _ h => h)
/-! ### decide_first -/
abbrev st_decide_first : Stmt := top 13
theorem sc_decide_first : FnScope ["season", "side", "shares", "over", "ways", "goals", "other", "row"] ["season", "side"] (defScope st_decide_first) := ⟨rfl, rfl, rfl, by decide +kernel, rfl, by decide +kernel, by decide +kernel⟩
def fb_decide_first_c1 (C_Season : Addr) (C_Shares : Addr) : Sto → Option D :=
  vLcK [6] 4 (gN 6) (vB (v2 dLt (vBor .z (vMeth 2 C_Shares "wins" (m_Shares_wins C_Season C_Shares) (vVarZ 2) (aCons (vVarZ 6) aNil))) (vBor .z (vFld C_Shares "most" (vVarZ 2))))) (vVarZ 6)
def fb_decide_first_t1 : Sto → Option (Bool × Sto) :=
  (upT (vB (v2 dGt (v1 dLen (vVarZ 3)) (vC (.int 0)))))
def fb_decide_first_b1 (C_Season : Addr) (C_Shares : Addr) : Sto → Option Fl :=
  (sSeq (sSet 4 .z (up (vBor (.seq .z) (vMeth 2 C_Shares "reached" (m_Shares_reached C_Season C_Shares) (vVarZ 2) (aCons (v2 dIx (vVarZ 3) (vC (.int 0))) aNil)))))
      (sSeq (sSet 5 (.seq .z) (up (fb_decide_first_c1 C_Season C_Shares)))
      (sSeq (sIf (upT (vB (v2 dEq (v1 dLen (vVarS 5)) (vC (.int 0)))))
      (sRet (up (vTup (aCons (vC (.str "lot")) (aCons (v1 dTuple (v1 dSortedDK (vVarZ 4))) aNil)))))
      sNext)
      (sSeq (sDrop (eMethIO 5 2 C_Shares "hand_on" (.obj fun n => if n = ("won" : Str) then (.seq (.seq .z)) else .z) (m_Shares_hand_on C_Shares) (aCons (vVarZ 4) (aCons (v2 dIx (vVarZ 3) (vC (.int 0))) (aCons (v2 dIx (vVarS 5) (vC (.int 0))) (aCons (vBor .z (vMeth 4 C_Shares "room_on" (m_Shares_room_on C_Season C_Shares) (vVarZ 2) (aCons (vVarZ 4) (aCons (v2 dIx (vVarZ 3) (vC (.int 0))) (aCons (v2 dIx (vVarZ 5) (vC (.int 0))) aNil))))) aNil))))))
      (sSet 3 .z (up (vBor (.seq .z) (vMeth 1 C_Shares "over" (m_Shares_over C_Season C_Shares) (vVarZ 2) aNil))))))))
def fb_decide_first_c2 (C_Shares : Addr) : Sto → Option D :=
  vLc [7] (vItems (vFld C_Shares "won" (vVarZ 2))) (gN 7) (fun _ => some true) (v1 dTuple (vVarZ 7))
def fb_decide_first (C_Season : Addr) (C_Shares : Addr) : Sto → Option Fl :=
  (sSeq (sDrop (up (vCall (n := 2) (m_look_at_side C_Season) (aCons (vVarZ 0) (aCons (vVarZ 1) aNil)))))
      (sSeq (sSet 2 (.obj fun n => if n = ("won" : Str) then (.seq (.seq .z)) else .z) (up (vMake 3 C_Shares (m_Shares_init C_Season C_Shares) (aCons (vVarZ 0) (aCons (vVarZ 1) aNil)))))
      (sSeq (sSet 3 .z (up (vBor (.seq .z) (vMeth 1 C_Shares "over" (m_Shares_over C_Season C_Shares) (vVarZ 2) aNil))))
      (sSeq (whileL fb_decide_first_t1 (fb_decide_first_b1 C_Season C_Shares) 1000)
      (sFrz 2 (sRet (up (vTup (aCons (vC (.str "won")) (aCons (v1 dTuple (fb_decide_first_c2 C_Shares)) aNil))))))))))
def m_decide_first (C_Season : Addr) (C_Shares : Addr) : List D → Option D := fun ds => endP (fb_decide_first C_Season C_Shares (argZ ds ++ List.replicate 6 none))
theorem ok_decide_first {P : Program} {w : World} {K : PySem.W.Frag} {mg : Str → Option Value} {base : Heap} {C_Season C_Shares : Addr} {f : Addr} {fd : FuncData} (F : Fun K "decide_first" "decide_first" st_decide_first f fd) (T : Txt K mg C_Season C_Shares) (c_look_at_side : Fc P w K mg base "look_at_side" ["season", "side"] 2 (spP K 2 .z (m_look_at_side C_Season))) (c_Shares : Mc P w K mg base "Shares" C_Shares ["self", "season", "side"] 3 (spIO K 3 0 (.obj fun n => if n = ("won" : Str) then (.seq (.seq .z)) else .z) .z (m_Shares_init C_Season C_Shares))) (c_Shares_over : Mt P w K mg base C_Shares "over" ["self"] 2 (spP K 1 (.seq .z) (m_Shares_over C_Season C_Shares))) (c_Shares_reached : Mt P w K mg base C_Shares "reached" ["self", "side"] 1 (spP K 2 (.seq .z) (m_Shares_reached C_Season C_Shares))) (c_Shares_wins : Mt P w K mg base C_Shares "wins" ["self", "side"] 1 (spP K 2 .z (m_Shares_wins C_Season C_Shares))) (c_Shares_hand_on : Mt P w K mg base C_Shares "hand_on" ["self", "ways", "side", "other", "many"] 1 (spIO K 5 0 (.obj fun n => if n = ("won" : Str) then (.seq (.seq .z)) else .z) .z (m_Shares_hand_on C_Shares))) (c_Shares_room_on : Mt P w K mg base C_Shares "room_on" ["self", "ways", "side", "other"] 2 (spP K 4 .z (m_Shares_room_on C_Season C_Shares))) : FnOk P w K mg base CX0 5 f fd ["season", "side"] (spP K 2 .z (m_decide_first C_Season C_Shares)) :=
  fn_pure (fb := fb_decide_first C_Season C_Shares) F sc_decide_first (fun cdv A outer s H E hr => ((ssv_cons (sv_expr (PV.ev (FP.pv (fp_call c_look_at_side.ok (hr.mono (by decide)) rfl c_look_at_side.g c_look_at_side.q c_look_at_side.b (pav_cons (pv_varZ (i := 0) rfl (vis_of rfl)) (pav_cons (pv_varZ (i := 1) rfl (vis_of rfl)) pav_nil))))))
      (ssv_cons (sv_set (i := 2) sc_decide_first.nd rfl (loc_of rfl) (FP.ef (fp_make c_Shares.mke c_Shares.ok (hr.mono (by decide)) rfl c_Shares.g c_Shares.b (pav_cons (pv_varZ (i := 0) rfl (vis_of rfl)) (pav_cons (pv_varZ (i := 1) rfl (vis_of rfl)) pav_nil)))) rfl)
      (ssv_cons (sv_set (i := 3) sc_decide_first.nd rfl (loc_of rfl) (FP.ef (PV.fp (FP.pv (FP.bor (fp_meth0 (pv_varZ (i := 2) rfl (vis_of rfl)) T.k_Shares c_Shares_over.me c_Shares_over.ok (hr.mono (by decide)) c_Shares_over.b))))) rfl)
      (ssv_cons (sv_while 1000 PassesOwn.never (PTV.etv (pt_cmpV op_gt od_gt (pv_len T.b_len (pv_varZ (i := 3) rfl (vis_of rfl)) rfl) pv_int (nomark _)))
      (ssv_cons (sv_set (i := 4) sc_decide_first.nd rfl (loc_of rfl) (FP.ef (PV.fp (FP.pv (FP.bor (fp_meth (pv_varZ (i := 2) rfl (vis_of rfl)) T.k_Shares c_Shares_reached.me c_Shares_reached.ok (hr.mono (by decide)) c_Shares_reached.b (pav_cons (pv_ix ix_seq (od_ix (by rfl)) (pv_varZ (i := 3) rfl (vis_of rfl)) pv_int (by intro _ _; rfl)) pav_nil)))))) rfl)
      (ssv_cons (sv_setLcK (j := 5) (own := [("other", 6)]) (i := 4) (hN0 := rfl) rfl sc_decide_first.nd (vis_of rfl) rfl rfl (sw_true rfl rfl rfl rfl) (blkOk_by (by rfl)) (fun _ _ _ _ _ => (pgv_name (i := 6) sc_decide_first.nd rfl (loc_of rfl))) (fun _ _ _ _ _ => (ptsv_one (pt_cmpV op_lt od_lt (FP.pv (FP.bor (fp_meth (pv_varZ (i := 2) rfl (vis_of rfl)) T.k_Shares c_Shares_wins.me c_Shares_wins.ok (hr.mono (by decide)) c_Shares_wins.b (pav_cons (pv_varZ (i := 6) rfl (vis_of rfl)) pav_nil)))) (PV.bor (pv_fld T.f_Shares_most (pv_varZ (i := 2) rfl (vis_of rfl)))) (nomark _)))) (fun _ _ _ _ _ => (PV.fp (pv_varZ (i := 6) rfl (vis_of rfl)))) rfl rfl)
      (ssv_cons (sv_if (PTV.etv (pt_cmpV (op_eqD hr.units) od_eq (pv_len T.b_len (pv_varS (i := 5) rfl (vis_of rfl)) rfl) pv_int (nomark _)))
      (ssv_one (sv_ret (FP.ef (PV.fp (pv_tup (pav_cons pv_str (pav_cons (pv_tupC T.b_tuple rfl (FP.pv (fp_srtDK T.b_sorted rfl (pv_varZ (i := 4) rfl (vis_of rfl)) rfl)) rfl) pav_nil)))))))
      ssv_nil)
      (ssv_cons (sv_expr (EF.ev (ef_methIO (j := 2) rfl (vis_of rfl) T.k_Shares c_Shares_hand_on.me c_Shares_hand_on.ok (hr.mono (by decide)) c_Shares_hand_on.b (pav_cons (pv_varZ (i := 4) rfl (vis_of rfl)) (pav_cons (pv_ix ix_seq (od_ix (by rfl)) (pv_varZ (i := 3) rfl (vis_of rfl)) pv_int (by intro _ _; rfl)) (pav_cons (pv_ix ix_seq (od_ix (by rfl)) (pv_varS (i := 5) rfl (vis_of rfl)) pv_int (by intro _ _; rfl)) (pav_cons (FP.pv (FP.bor (fp_meth (pv_varZ (i := 2) rfl (vis_of rfl)) T.k_Shares c_Shares_room_on.me c_Shares_room_on.ok (hr.mono (by decide)) c_Shares_room_on.b (pav_cons (pv_varZ (i := 4) rfl (vis_of rfl)) (pav_cons (pv_ix ix_seq (od_ix (by rfl)) (pv_varZ (i := 3) rfl (vis_of rfl)) pv_int (by intro _ _; rfl)) (pav_cons (pv_ix ix_seq (od_ix (by rfl)) (pv_varZ (i := 5) rfl (vis_of rfl)) pv_int (by intro _ _; rfl)) pav_nil)))))) pav_nil)))))))
      (ssv_one (sv_set (i := 3) sc_decide_first.nd rfl (loc_of rfl) (FP.ef (PV.fp (FP.pv (FP.bor (fp_meth0 (pv_varZ (i := 2) rfl (vis_of rfl)) T.k_Shares c_Shares_over.me c_Shares_over.ok (hr.mono (by decide)) c_Shares_over.b))))) rfl)))))))
      (ssv_one (sv_frz (i := 2) (sv_ret (FP.ef (PV.fp (pv_tup (pav_cons pv_str (pav_cons (pv_tupC T.b_tuple rfl (FP.pv (fp_lc (own := [("row", 7)]) rfl sc_decide_first.nd (ip_seq (pv_fld T.f_Shares_won (pv_varZ (i := 2) rfl (vis_of rfl)))) (blkOk_by (by rfl)) (fun _ _ _ _ _ => (pgv_name (i := 7) sc_decide_first.nd rfl (loc_of rfl))) (fun _ _ _ _ _ => ptsv_nil) (fun _ _ _ _ _ => (PV.fp (pv_tupC T.b_tuple rfl (pv_varZ (i := 7) rfl (vis_of rfl)) rfl))) rfl)) rfl) pav_nil))))))))))))
    : SSV (BCx P w K mg base _ _ st_decide_first f cdv A outer s H E) .z [] (defBody st_decide_first) (fb_decide_first C_Season C_Shares))) (fun _ _ _ h => h)
/-! ### can_be_first -/
abbrev st_can_be_first : Stmt := top 14
theorem sc_can_be_first : FnScope ["season", "side"] ["season", "side"] (defScope st_can_be_first) := ⟨rfl, rfl, rfl, by decide +kernel, rfl, by decide +kernel, by decide +kernel⟩
def fb_can_be_first (C_Season : Addr) (C_Shares : Addr) : Sto → Option Fl :=
  (sRet (up (v2 dEq (v2 dIx (vCall (n := 2) (m_decide_first C_Season C_Shares) (aCons (vVarZ 0) (aCons (vVarZ 1) aNil))) (vC (.int 0))) (vC (.str "won")))))
def m_can_be_first (C_Season : Addr) (C_Shares : Addr) : List D → Option D := fun ds => endP (fb_can_be_first C_Season C_Shares (argZ ds ++ List.replicate 0 none))
theorem ok_can_be_first {P : Program} {w : World} {K : PySem.W.Frag} {mg : Str → Option Value} {base : Heap} {C_Season C_Shares : Addr} {f : Addr} {fd : FuncData} (F : Fun K "can_be_first" "can_be_first" st_can_be_first f fd) (T : Txt K mg C_Season C_Shares) (c_decide_first : Fc P w K mg base "decide_first" ["season", "side"] 5 (spP K 2 .z (m_decide_first C_Season C_Shares))) : FnOk P w K mg base CX0 6 f fd ["season", "side"] (spP K 2 .z (m_can_be_first C_Season C_Shares)) :=
  fn_pure (fb := fb_can_be_first C_Season C_Shares) F sc_can_be_first (fun cdv A outer s H E hr => ((ssv_one (sv_ret (FP.ef (PV.fp (pv_cmp (op_eqD hr.units) od_eq (pv_ix ix_seq (od_ix (by rfl)) (FP.pv (fp_call c_decide_first.ok (hr.mono (by decide)) rfl c_decide_first.g c_decide_first.q c_decide_first.b (pav_cons (pv_varZ (i := 0) rfl (vis_of rfl)) (pav_cons (pv_varZ (i := 1) rfl (vis_of rfl)) pav_nil)))) pv_int (by intro _ _; rfl)) pv_str (nomark _))))))
    : SSV (BCx P w K mg base _ _ st_can_be_first f cdv A outer s H E) .z [] (defBody st_can_be_first) (fb_can_be_first C_Season C_Shares))) (fun _ _ _ h => h)
/-! ### still_first -/
abbrev st_still_first : Stmt := top 15
theorem sc_still_first : FnScope ["season", "side"] ["season"] (defScope st_still_first) := ⟨rfl, rfl, rfl, by decide +kernel, rfl, by decide +kernel, by decide +kernel⟩
def fb_still_first_c1 (C_Season : Addr) (C_Shares : Addr) : Sto → Option D :=
  vLc [1] (vRng1 (aCons (vFld C_Season "size" (vVarZ 0)) aNil)) (gN 1) (vB (vCall (n := 2) (m_can_be_first C_Season C_Shares) (aCons (vVarZ 0) (aCons (vVarZ 1) aNil)))) (vVarZ 1)
def fb_still_first (C_Season : Addr) (C_Shares : Addr) : Sto → Option Fl :=
  (sRet (up (v1 dTuple (fb_still_first_c1 C_Season C_Shares))))
def m_still_first (C_Season : Addr) (C_Shares : Addr) : List D → Option D := fun ds => endP (fb_still_first C_Season C_Shares (argZ ds ++ List.replicate 1 none))
theorem ok_still_first {P : Program} {w : World} {K : PySem.W.Frag} {mg : Str → Option Value} {base : Heap} {C_Season C_Shares : Addr} {f : Addr} {fd : FuncData} (F : Fun K "still_first" "still_first" st_still_first f fd) (T : Txt K mg C_Season C_Shares) (c_can_be_first : Fc P w K mg base "can_be_first" ["season", "side"] 6 (spP K 2 .z (m_can_be_first C_Season C_Shares))) : FnOk P w K mg base CX0 7 f fd ["season"] (spP K 1 .z (m_still_first C_Season C_Shares)) :=
  fn_pure (fb := fb_still_first C_Season C_Shares) F sc_still_first (fun cdv A outer s H E hr => ((ssv_one (sv_ret (FP.ef (PV.fp (pv_tupC T.b_tuple rfl (FP.pv (fp_lc (own := [("side", 1)]) rfl sc_still_first.nd (ip_range1 rfl T.b_range (pav_cons (pv_fld T.f_Season_size (pv_varZ (i := 0) rfl (vis_of rfl))) pav_nil)) (blkOk_by (by rfl)) (fun _ _ _ _ _ => (pgv_name (i := 1) sc_still_first.nd rfl (loc_of rfl))) (fun _ _ _ _ _ => (ptsv_one (pt_valV (FP.pv (fp_call c_can_be_first.ok (hr.mono (by decide)) rfl c_can_be_first.g c_can_be_first.q c_can_be_first.b (pav_cons (pv_varZ (i := 0) rfl (vis_of rfl)) (pav_cons (pv_varZ (i := 1) rfl (vis_of rfl)) pav_nil))))))) (fun _ _ _ _ _ => (PV.fp (pv_varZ (i := 1) rfl (vis_of rfl)))) rfl)) rfl)))))
    : SSV (BCx P w K mg base _ _ st_still_first f cdv A outer s H E) .z [] (defBody st_still_first) (fb_still_first C_Season C_Shares))) (fun _ _ _ h => h)
/-! ### is_won -/
abbrev st_is_won : Stmt := top 16
theorem sc_is_won : FnScope ["season", "value", "every", "one", "two", "row"] ["season", "value"] (defScope st_is_won) := ⟨rfl, rfl, rfl, by decide +kernel, rfl, by decide +kernel, by decide +kernel⟩
def fb_is_won_c1 (C_Season : Addr) : Sto → Option D :=
  vLc [5] (vItems (vVarZ 1)) (gN 5) (fun _ => some true) (vAndF (vIsi "tuple" (vVarZ 5)) (v2 dEq (v1 dLen (vVarZ 5)) (vFld C_Season "size" (vVarZ 0))))
def fb_is_won_c2 : Sto → Option D :=
  vLc2 [5, 3] [3] (vItems (vVarZ 1)) (gN 5) (fun _ => some true) (vItems (vVarZ 5)) (gN 3) (fun _ => some true) (vCall (n := 1) m_is_count (aCons (vVarZ 3) aNil))
def fb_is_won_c3 (C_Season : Addr) : Sto → Option D :=
  vLc2 [3, 4] [4] (vItems (vVarZ 2)) (gN 3) (fun _ => some true) (vItems (vVarZ 2)) (gN 4) (fun _ => some true) (v2 dEq (v2 dAddI (v2 dIx (v2 dIx (vVarZ 1) (vVarZ 3)) (vVarZ 4)) (v2 dIx (v2 dIx (vVarZ 1) (vVarZ 4)) (vVarZ 3))) (v2 dIx (v2 dIx (vFld C_Season "left" (vVarZ 0)) (vVarZ 3)) (vVarZ 4)))
def fb_is_won (C_Season : Addr) : Sto → Option Fl :=
  (sSeq (sIf (upT (tOrF (tNotF (vB (vIsi "tuple" (vVarZ 1)))) (vB (v2 dNe (v1 dLen (vVarZ 1)) (vFld C_Season "size" (vVarZ 0))))))
      (sRet (up (vC (.bl false))))
      sNext)
      (sSeq (sIf (upT (tNotF (vB (v1 dAll (fb_is_won_c1 C_Season)))))
      (sRet (up (vC (.bl false))))
      sNext)
      (sSeq (sIf (upT (tNotF (vB (v1 dAll fb_is_won_c2))))
      (sRet (up (vC (.bl false))))
      sNext)
      (sSeq (sSet 2 .z (up (vRgL1 false (vFld C_Season "size" (vVarZ 0)))))
      (sRet (up (v1 dAll (fb_is_won_c3 C_Season))))))))
def m_is_won (C_Season : Addr) : List D → Option D := fun ds => endP (fb_is_won C_Season (argZ ds ++ List.replicate 4 none))
theorem ok_is_won {P : Program} {w : World} {K : PySem.W.Frag} {mg : Str → Option Value} {base : Heap} {C_Season C_Shares : Addr} {f : Addr} {fd : FuncData} (F : Fun K "is_won" "is_won" st_is_won f fd) (T : Txt K mg C_Season C_Shares) (c_is_count : Fc P w K mg base "is_count" ["value"] 2 (spP K 1 .z m_is_count)) : FnOk P w K mg base CX0 3 f fd ["season", "value"] (spP K 2 .z (m_is_won C_Season)) :=
  fn_pure (fb := fb_is_won C_Season) F sc_is_won (fun cdv A outer s H E hr => ((ssv_cons (sv_if (PTV.etv (PWV.pt (pw_orV (pt_notV (pt_valV (pv_isiT kit_tuple bt_tuple T.b_isinstance T.b_tuple (pv_varZ (i := 1) rfl (vis_of rfl)) rfl rfl))) (pw_or1V (pt_cmpV (op_neD hr.units) od_ne (pv_len T.b_len (pv_varZ (i := 1) rfl (vis_of rfl)) rfl) (pv_fld T.f_Season_size (pv_varZ (i := 0) rfl (vis_of rfl))) (nomark _))))))
      (ssv_one (sv_ret (FP.ef (PV.fp pv_bl))))
      ssv_nil)
      (ssv_cons (sv_if (PTV.etv (pt_notV (pt_valV (pv_all T.b_all rfl (FP.pv (fp_lc (own := [("row", 5)]) rfl sc_is_won.nd (ip_seq (pv_varZ (i := 1) rfl (vis_of rfl))) (blkOk_by (by rfl)) (fun _ _ _ _ _ => (pgv_name (i := 5) sc_is_won.nd rfl (loc_of rfl))) (fun _ _ _ _ _ => ptsv_nil) (fun _ _ _ _ _ => (PV.fp (pv_and (pv_isiT kit_tuple bt_tuple T.b_isinstance T.b_tuple (pv_varZ (i := 5) rfl (vis_of rfl)) rfl rfl) (pv_one (pv_cmp (op_eqD hr.units) od_eq (pv_len T.b_len (pv_varZ (i := 5) rfl (vis_of rfl)) rfl) (pv_fld T.f_Season_size (pv_varZ (i := 0) rfl (vis_of rfl))) (nomark _)))))) rfl)) rfl))))
      (ssv_one (sv_ret (FP.ef (PV.fp pv_bl))))
      ssv_nil)
      (ssv_cons (sv_if (PTV.etv (pt_notV (pt_valV (pv_all T.b_all rfl (FP.pv (fp_lc2 (own := [("row", 5), ("one", 3)]) (vs1 := [3]) rfl sc_is_won.nd (ip_seq (pv_varZ (i := 1) rfl (vis_of rfl))) (blkOk_by (by rfl)) (by decide) (fun _ _ _ _ _ => (pgv_name (i := 5) sc_is_won.nd rfl (loc_of rfl))) (fun _ _ _ _ _ => ptsv_nil) (fun _ _ _ _ _ => (ip_seq (pv_varZ (i := 5) rfl (vis_of rfl)))) (fun _ _ _ _ _ => (pgv_name (i := 3) sc_is_won.nd rfl (loc_of rfl))) (fun _ _ _ _ _ => ptsv_nil) (fun _ _ _ _ _ => (fp_call c_is_count.ok (hr.mono (by decide)) rfl c_is_count.g c_is_count.q c_is_count.b (pav_cons (pv_varZ (i := 3) rfl (vis_of rfl)) pav_nil))) rfl rfl)) rfl))))
      (ssv_one (sv_ret (FP.ef (PV.fp pv_bl))))
      ssv_nil)
      (ssv_cons (sv_set (i := 2) sc_is_won.nd rfl (loc_of rfl) (FP.ef (PV.fp (FP.pv (fp_lstRg1 T.b_list T.b_range (pv_fld T.f_Season_size (pv_varZ (i := 0) rfl (vis_of rfl))) rfl rfl rfl)))) rfl)
      (ssv_one (sv_ret (FP.ef (PV.fp (pv_all T.b_all rfl (FP.pv (fp_lc2 (own := [("one", 3), ("two", 4)]) (vs1 := [4]) rfl sc_is_won.nd (ip_seq (pv_varZ (i := 2) rfl (vis_of rfl))) (blkOk_by (by rfl)) (by decide) (fun _ _ _ _ _ => (pgv_name (i := 3) sc_is_won.nd rfl (loc_of rfl))) (fun _ _ _ _ _ => ptsv_nil) (fun _ _ _ _ _ => (ip_seq (pv_varZ (i := 2) rfl (vis_of rfl)))) (fun _ _ _ _ _ => (pgv_name (i := 4) sc_is_won.nd rfl (loc_of rfl))) (fun _ _ _ _ _ => ptsv_nil) (fun _ _ _ _ _ => (PV.fp (pv_cmp (op_eqD hr.units) od_eq (pv_bin op_add od_addI (pv_ix ix_seq (od_ix (by rfl)) (pv_ix ix_seq (od_ix (by rfl)) (pv_varZ (i := 1) rfl (vis_of rfl)) (pv_varZ (i := 3) rfl (vis_of rfl)) (by intro _ _; rfl)) (pv_varZ (i := 4) rfl (vis_of rfl)) (by intro _ _; rfl)) (pv_ix ix_seq (od_ix (by rfl)) (pv_ix ix_seq (od_ix (by rfl)) (pv_varZ (i := 1) rfl (vis_of rfl)) (pv_varZ (i := 4) rfl (vis_of rfl)) (by intro _ _; rfl)) (pv_varZ (i := 3) rfl (vis_of rfl)) (by intro _ _; rfl))) (pv_ix ix_seq (od_ix (by rfl)) (pv_ix ix_seq (od_ix (by rfl)) (pv_fld T.f_Season_left (pv_varZ (i := 0) rfl (vis_of rfl))) (pv_varZ (i := 3) rfl (vis_of rfl)) (by intro _ _; rfl)) (pv_varZ (i := 4) rfl (vis_of rfl)) (by intro _ _; rfl)) (nomark _)))) rfl rfl)) rfl)))))))))
    : SSV (BCx P w K mg base _ _ st_is_won f cdv A outer s H E) .z [] (defBody st_is_won) (fb_is_won C_Season))) (fun _ _ _ h => h)
/-! ### lot_right -/
abbrev st_lot_right : Stmt := top 18
theorem sc_lot_right : FnScope ["season", "side", "lot", "inside", "one", "two"] ["season", "side", "lot"] (defScope st_lot_right) := ⟨rfl, rfl, rfl, by decide +kernel, rfl, by decide +kernel, by decide +kernel⟩
def fb_lot_right_c1 (C_Season : Addr) : Sto → Option D :=
  vLc [4] (vItems (vVarZ 2)) (gN 4) (fun _ => some true) (vAndF (vCall (n := 1) m_is_integer (aCons (vVarZ 4) aNil)) (vChain dLe dLt (vC (.int 0)) (vVarZ 4) (vFld C_Season "size" (vVarZ 0))))
def fb_lot_right_c2 : Sto → Option D :=
  vDc [4] (vItems (vVarZ 2)) (gN 4) (fun _ => some true) (vVarZ 4) (vC (.bl true))
def fb_lot_right_c3 (C_Season : Addr) : Sto → Option D :=
  vLc2 [4, 5] [5] (vItems (vVarZ 2)) (gN 4) (fun _ => some true) (vItems (vVarZ 2)) (gN 5) (fun _ => some true) (v2 dIx (v2 dIx (vFld C_Season "left" (vVarZ 0)) (vVarZ 4)) (vVarZ 5))
def fb_lot_right_c4 (C_Season : Addr) : Sto → Option D :=
  vLc [4] (vItems (vVarZ 2)) (gN 4) (fun _ => some true) (v2 dIx (vFld C_Season "wins" (vVarZ 0)) (vVarZ 4))
def fb_lot_right (C_Season : Addr) : Sto → Option Fl :=
  (sSeq (sIf (upT (tOrF (tNotF (vB (vIsi "tuple" (vVarZ 2)))) (tNotF (vB (v1 dAll (fb_lot_right_c1 C_Season))))))
      (sRet (up (vC (.bl false))))
      sNext)
      (sSeq (sIf (upT (tOrF (vB (v2 dEq (v1 dLen (vVarZ 2)) (vC (.int 0)))) (tOrF (vB (v2 dIn (vVarZ 1) (vVarZ 2))) (vB (v2 dNe (v1 dList (vVarZ 2)) (v1 dSortedDK fb_lot_right_c2))))))
      (sRet (up (vC (.bl false))))
      sNext)
      (sSeq (sSet 3 .z (up (v2 dFdiv (v1 dSumA (fb_lot_right_c3 C_Season)) (vC (.int 2)))))
      (sRet (up (v2 dGt (v2 dAddI (v1 dSumA (fb_lot_right_c4 C_Season)) (vVarZ 3)) (v2 dMulI (v1 dLen (vVarZ 2)) (vMeth 2 C_Season "most" (m_Season_most C_Season) (vVarZ 0) (aCons (vVarZ 1) aNil)))))))))
def m_lot_right (C_Season : Addr) : List D → Option D := fun ds => endP (fb_lot_right C_Season (argZ ds ++ List.replicate 3 none))
theorem ok_lot_right {P : Program} {w : World} {K : PySem.W.Frag} {mg : Str → Option Value} {base : Heap} {C_Season C_Shares : Addr} {f : Addr} {fd : FuncData} (F : Fun K "lot_right" "lot_right" st_lot_right f fd) (T : Txt K mg C_Season C_Shares) (c_is_integer : Fc P w K mg base "is_integer" ["value"] 1 (spP K 1 .z m_is_integer)) (c_Season_most : Mt P w K mg base C_Season "most" ["self", "side"] 2 (spP K 2 .z (m_Season_most C_Season))) : FnOk P w K mg base CX0 3 f fd ["season", "side", "lot"] (spP K 3 .z (m_lot_right C_Season)) :=
  fn_pure (fb := fb_lot_right C_Season) F sc_lot_right (fun cdv A outer s H E hr => ((ssv_cons (sv_if (PTV.etv (PWV.pt (pw_orV (pt_notV (pt_valV (pv_isiT kit_tuple bt_tuple T.b_isinstance T.b_tuple (pv_varZ (i := 2) rfl (vis_of rfl)) rfl rfl))) (pw_or1V (pt_notV (pt_valV (pv_all T.b_all rfl (FP.pv (fp_lc (own := [("one", 4)]) rfl sc_lot_right.nd (ip_seq (pv_varZ (i := 2) rfl (vis_of rfl))) (blkOk_by (by rfl)) (fun _ _ _ _ _ => (pgv_name (i := 4) sc_lot_right.nd rfl (loc_of rfl))) (fun _ _ _ _ _ => ptsv_nil) (fun _ _ _ _ _ => (PV.fp (pv_and (FP.pv (fp_call c_is_integer.ok (hr.mono (by decide)) rfl c_is_integer.g c_is_integer.q c_is_integer.b (pav_cons (pv_varZ (i := 4) rfl (vis_of rfl)) pav_nil))) (pv_one (pv_chain op_le op_lt od_le od_lt pv_int (pv_varZ (i := 4) rfl (vis_of rfl)) (pv_fld T.f_Season_size (pv_varZ (i := 0) rfl (vis_of rfl)))))))) rfl)) rfl)))))))
      (ssv_one (sv_ret (FP.ef (PV.fp pv_bl))))
      ssv_nil)
      (ssv_cons (sv_if (PTV.etv (PWV.pt (pw_orV (pt_cmpV (op_eqD hr.units) od_eq (pv_len T.b_len (pv_varZ (i := 2) rfl (vis_of rfl)) rfl) pv_int (nomark _)) (pw_orV (pt_cmpV op_in_seq od_in (pv_varZ (i := 1) rfl (vis_of rfl)) (pv_varZ (i := 2) rfl (vis_of rfl)) (by with_unfolding_all rfl)) (pw_or1V (pt_cmpV (op_neD hr.units) od_ne (FP.pv (fp_lstC T.b_list rfl (pv_varZ (i := 2) rfl (vis_of rfl)) rfl)) (FP.pv (fp_srtDK T.b_sorted rfl (FP.pv (fp_dc (own := [("one", 4)]) rfl sc_lot_right.nd (ip_seq (pv_varZ (i := 2) rfl (vis_of rfl))) (blkOk_by (by rfl)) (fun _ _ _ _ _ => (pgv_name (i := 4) sc_lot_right.nd rfl (loc_of rfl))) (fun _ _ _ _ _ => ptsv_nil) (fun _ _ _ _ _ => (pv_varZ (i := 4) rfl (vis_of rfl))) (fun _ _ _ _ _ => pv_bl) rfl)) rfl)) (nomark _)))))))
      (ssv_one (sv_ret (FP.ef (PV.fp pv_bl))))
      ssv_nil)
      (ssv_cons (sv_set (i := 3) sc_lot_right.nd rfl (loc_of rfl) (FP.ef (PV.fp (pv_bin op_fdivN od_fdiv (pv_sumA T.b_sum rfl (FP.pv (fp_lc2 (own := [("one", 4), ("two", 5)]) (vs1 := [5]) rfl sc_lot_right.nd (ip_seq (pv_varZ (i := 2) rfl (vis_of rfl))) (blkOk_by (by rfl)) (by decide) (fun _ _ _ _ _ => (pgv_name (i := 4) sc_lot_right.nd rfl (loc_of rfl))) (fun _ _ _ _ _ => ptsv_nil) (fun _ _ _ _ _ => (ip_seq (pv_varZ (i := 2) rfl (vis_of rfl)))) (fun _ _ _ _ _ => (pgv_name (i := 5) sc_lot_right.nd rfl (loc_of rfl))) (fun _ _ _ _ _ => ptsv_nil) (fun _ _ _ _ _ => (PV.fp (pv_ix ix_seq (od_ix (by rfl)) (pv_ix ix_seq (od_ix (by rfl)) (pv_fld T.f_Season_left (pv_varZ (i := 0) rfl (vis_of rfl))) (pv_varZ (i := 4) rfl (vis_of rfl)) (by intro _ _; rfl)) (pv_varZ (i := 5) rfl (vis_of rfl)) (by intro _ _; rfl)))) rfl rfl)) rfl) pv_int))) rfl)
      (ssv_one (sv_ret (FP.ef (PV.fp (pv_cmp op_gt od_gt (pv_bin op_add od_addI (pv_sumA T.b_sum rfl (FP.pv (fp_lc (own := [("one", 4)]) rfl sc_lot_right.nd (ip_seq (pv_varZ (i := 2) rfl (vis_of rfl))) (blkOk_by (by rfl)) (fun _ _ _ _ _ => (pgv_name (i := 4) sc_lot_right.nd rfl (loc_of rfl))) (fun _ _ _ _ _ => ptsv_nil) (fun _ _ _ _ _ => (PV.fp (pv_ix ix_seq (od_ix (by rfl)) (pv_fld T.f_Season_wins (pv_varZ (i := 0) rfl (vis_of rfl))) (pv_varZ (i := 4) rfl (vis_of rfl)) (by intro _ _; rfl)))) rfl)) rfl) (pv_varZ (i := 3) rfl (vis_of rfl))) (pv_bin op_mul od_mulI (pv_len T.b_len (pv_varZ (i := 2) rfl (vis_of rfl)) rfl) (FP.pv (fp_meth (pv_varZ (i := 0) rfl (vis_of rfl)) T.k_Season c_Season_most.me c_Season_most.ok (hr.mono (by decide)) c_Season_most.b (pav_cons (pv_varZ (i := 1) rfl (vis_of rfl)) pav_nil)))) (nomark _)))))))))
    : SSV (BCx P w K mg base _ _ st_lot_right f cdv A outer s H E) .z [] (defBody st_lot_right) (fb_lot_right C_Season))) (fun _ _ _ h => h)
/-! ### first_right -/
abbrev st_first_right : Stmt := top 17
theorem sc_first_right : FnScope ["season", "side", "paper", "found", "one", "row"] ["season", "side", "paper"] (defScope st_first_right) := ⟨rfl, rfl, rfl, by decide +kernel, rfl, by decide +kernel, by decide +kernel⟩
def fb_first_right_c1 (C_Season : Addr) : Sto → Option D :=
  vLc [4, 5] (vZip (aCons (vFld C_Season "wins" (vVarZ 0)) (aCons (v2 dIx (vVarZ 2) (vC (.int 1))) aNil))) (gTupF 2 (gsCons (gN 4) (gsCons (gN 5) gsNil))) (fun _ => some true) (v2 dAddI (vVarZ 4) (v1 dSumA (vVarZ 5)))
def fb_first_right (C_Season : Addr) : Sto → Option Fl :=
  (sSeq (sDrop (up (vCall (n := 2) (m_look_at_side C_Season) (aCons (vVarZ 0) (aCons (vVarZ 1) aNil)))))
      (sSeq (sIf (upT (tOrF (tNotF (vB (vIsi "tuple" (vVarZ 2)))) (vB (v2 dNe (v1 dLen (vVarZ 2)) (vC (.int 2))))))
      (sRet (up (vC (.bl false))))
      sNext)
      (sSeq (sIf (upT (vB (v2 dEq (v2 dIx (vVarZ 2) (vC (.int 0))) (vC (.str "won")))))
      (sSeq (sIf (upT (tNotF (vB (vCall (n := 2) (m_is_won C_Season) (aCons (vVarZ 0) (aCons (v2 dIx (vVarZ 2) (vC (.int 1))) aNil))))))
      (sRet (up (vC (.bl false))))
      sNext)
      (sSeq (sSet 3 (.seq .z) (up (fb_first_right_c1 C_Season)))
      (sRet (up (v2 dEq (v2 dIx (vVarS 3) (vVarZ 1)) (v1 dMax (vVarS 3)))))))
      sNext)
      (sRet (up (vAndF (v2 dEq (v2 dIx (vVarZ 2) (vC (.int 0))) (vC (.str "lot"))) (vCall (n := 3) (m_lot_right C_Season) (aCons (vVarZ 0) (aCons (vVarZ 1) (aCons (v2 dIx (vVarZ 2) (vC (.int 1))) aNil))))))))))
def m_first_right (C_Season : Addr) : List D → Option D := fun ds => endP (fb_first_right C_Season (argZ ds ++ List.replicate 3 none))
theorem ok_first_right {P : Program} {w : World} {K : PySem.W.Frag} {mg : Str → Option Value} {base : Heap} {C_Season C_Shares : Addr} {f : Addr} {fd : FuncData} (F : Fun K "first_right" "first_right" st_first_right f fd) (T : Txt K mg C_Season C_Shares) (c_look_at_side : Fc P w K mg base "look_at_side" ["season", "side"] 2 (spP K 2 .z (m_look_at_side C_Season))) (c_is_won : Fc P w K mg base "is_won" ["season", "value"] 3 (spP K 2 .z (m_is_won C_Season))) (c_lot_right : Fc P w K mg base "lot_right" ["season", "side", "lot"] 3 (spP K 3 .z (m_lot_right C_Season))) : FnOk P w K mg base CX0 4 f fd ["season", "side", "paper"] (spP K 3 .z (m_first_right C_Season)) :=
  fn_pure (fb := fb_first_right C_Season) F sc_first_right (fun cdv A outer s H E hr => ((ssv_cons (sv_expr (PV.ev (FP.pv (fp_call c_look_at_side.ok (hr.mono (by decide)) rfl c_look_at_side.g c_look_at_side.q c_look_at_side.b (pav_cons (pv_varZ (i := 0) rfl (vis_of rfl)) (pav_cons (pv_varZ (i := 1) rfl (vis_of rfl)) pav_nil))))))
      (ssv_cons (sv_if (PTV.etv (PWV.pt (pw_orV (pt_notV (pt_valV (pv_isiT kit_tuple bt_tuple T.b_isinstance T.b_tuple (pv_varZ (i := 2) rfl (vis_of rfl)) rfl rfl))) (pw_or1V (pt_cmpV (op_neD hr.units) od_ne (pv_len T.b_len (pv_varZ (i := 2) rfl (vis_of rfl)) rfl) pv_int (nomark _))))))
      (ssv_one (sv_ret (FP.ef (PV.fp pv_bl))))
      ssv_nil)
      (ssv_cons (sv_if (PTV.etv (pt_cmpV (op_eqD hr.units) od_eq (pv_ix ix_seq (od_ix (by rfl)) (pv_varZ (i := 2) rfl (vis_of rfl)) pv_int (by intro _ _; rfl)) pv_str (nomark _)))
      (ssv_cons (sv_if (PTV.etv (pt_notV (pt_valV (FP.pv (fp_call c_is_won.ok (hr.mono (by decide)) rfl c_is_won.g c_is_won.q c_is_won.b (pav_cons (pv_varZ (i := 0) rfl (vis_of rfl)) (pav_cons (pv_ix ix_seq (od_ix (by rfl)) (pv_varZ (i := 2) rfl (vis_of rfl)) pv_int (by intro _ _; rfl)) pav_nil)))))))
      (ssv_one (sv_ret (FP.ef (PV.fp pv_bl))))
      ssv_nil)
      (ssv_cons (sv_setLc (i := 3) (own := [("one", 4), ("row", 5)]) rfl sc_first_right.nd rfl rfl (sw_true rfl rfl rfl rfl) (ip_zip rfl T.b_zip (pav_cons (pv_fld T.f_Season_wins (pv_varZ (i := 0) rfl (vis_of rfl))) (pav_cons (pv_ix ix_seq (od_ix (by rfl)) (pv_varZ (i := 2) rfl (vis_of rfl)) pv_int (by intro _ _; rfl)) pav_nil))) (blkOk_by (by rfl)) (fun _ _ _ _ _ => (pgv_tup rfl (pgsv_cons (pgv_name (i := 4) sc_first_right.nd rfl (loc_of rfl)) (pgsv_cons (pgv_name (i := 5) sc_first_right.nd rfl (loc_of rfl)) pgsv_nil)))) (fun _ _ _ _ _ => ptsv_nil) (fun _ _ _ _ _ => (PV.fp (pv_bin op_add od_addI (pv_varZ (i := 4) rfl (vis_of rfl)) (pv_sumA T.b_sum rfl (pv_varZ (i := 5) rfl (vis_of rfl)) rfl)))) rfl rfl)
      (ssv_one (sv_ret (FP.ef (PV.fp (pv_cmp (op_eqD hr.units) od_eq (pv_ix ix_seq (od_ix (by rfl)) (pv_varS (i := 3) rfl (vis_of rfl)) (pv_varZ (i := 1) rfl (vis_of rfl)) (by intro _ _; rfl)) (pv_max T.b_max rfl (pv_varS (i := 3) rfl (vis_of rfl)) rfl) (nomark _))))))))
      ssv_nil)
      (ssv_one (sv_ret (FP.ef (PV.fp (pv_and (pv_cmp (op_eqD hr.units) od_eq (pv_ix ix_seq (od_ix (by rfl)) (pv_varZ (i := 2) rfl (vis_of rfl)) pv_int (by intro _ _; rfl)) pv_str (nomark _)) (pv_one (FP.pv (fp_call c_lot_right.ok (hr.mono (by decide)) rfl c_lot_right.g c_lot_right.q c_lot_right.b (pav_cons (pv_varZ (i := 0) rfl (vis_of rfl)) (pav_cons (pv_varZ (i := 1) rfl (vis_of rfl)) (pav_cons (pv_ix ix_seq (od_ix (by rfl)) (pv_varZ (i := 2) rfl (vis_of rfl)) pv_int (by intro _ _; rfl)) pav_nil))))))))))))))
    : SSV (BCx P w K mg base _ _ st_first_right f cdv A outer s H E) .z [] (defBody st_first_right) (fb_first_right C_Season))) (fun _ _ _ h => h)
/-! ### bound -/
abbrev st_bound : Stmt := top 19
theorem sc_bound : FnScope ["season", "side"] ["season"] (defScope st_bound) := ⟨rfl, rfl, rfl, by decide +kernel, rfl, by decide +kernel, by decide +kernel⟩
def fb_bound_c1 (C_Season : Addr) (C_Shares : Addr) : Sto → Option D :=
  vLc [1] (vItems (vCall (n := 1) (m_still_first C_Season C_Shares) (aCons (vVarZ 0) aNil))) (gN 1) (fun _ => some true) (vMeth 2 C_Season "most" (m_Season_most C_Season) (vVarZ 0) (aCons (vVarZ 1) aNil))
def fb_bound (C_Season : Addr) (C_Shares : Addr) : Sto → Option Fl :=
  (sRet (up (v1 dMin (fb_bound_c1 C_Season C_Shares))))
def m_bound (C_Season : Addr) (C_Shares : Addr) : List D → Option D := fun ds => endP (fb_bound C_Season C_Shares (argZ ds ++ List.replicate 1 none))
theorem ok_bound {P : Program} {w : World} {K : PySem.W.Frag} {mg : Str → Option Value} {base : Heap} {C_Season C_Shares : Addr} {f : Addr} {fd : FuncData} (F : Fun K "bound" "bound" st_bound f fd) (T : Txt K mg C_Season C_Shares) (c_still_first : Fc P w K mg base "still_first" ["season"] 7 (spP K 1 .z (m_still_first C_Season C_Shares))) (c_Season_most : Mt P w K mg base C_Season "most" ["self", "side"] 2 (spP K 2 .z (m_Season_most C_Season))) : FnOk P w K mg base CX0 8 f fd ["season"] (spP K 1 .z (m_bound C_Season C_Shares)) :=
  fn_pure (fb := fb_bound C_Season C_Shares) F sc_bound (fun cdv A outer s H E hr => ((ssv_one (sv_ret (FP.ef (PV.fp (pv_min T.b_min rfl (FP.pv (fp_lc (own := [("side", 1)]) rfl sc_bound.nd (ip_seq (FP.pv (fp_call c_still_first.ok (hr.mono (by decide)) rfl c_still_first.g c_still_first.q c_still_first.b (pav_cons (pv_varZ (i := 0) rfl (vis_of rfl)) pav_nil)))) (blkOk_by (by rfl)) (fun _ _ _ _ _ => (pgv_name (i := 1) sc_bound.nd rfl (loc_of rfl))) (fun _ _ _ _ _ => ptsv_nil) (fun _ _ _ _ _ => (fp_meth (pv_varZ (i := 0) rfl (vis_of rfl)) T.k_Season c_Season_most.me c_Season_most.ok (hr.mono (by decide)) c_Season_most.b (pav_cons (pv_varZ (i := 1) rfl (vis_of rfl)) pav_nil))) rfl)) rfl)))))
    : SSV (BCx P w K mg base _ _ st_bound f cdv A outer s H E) .z [] (defBody st_bound) (fb_bound C_Season C_Shares))) (fun _ _ _ h => h)
/-! ### surely_first -/
abbrev st_surely_first : Stmt := top 20
theorem sc_surely_first : FnScope ["season", "side", "other"] ["season", "side"] (defScope st_surely_first) := ⟨rfl, rfl, rfl, by decide +kernel, rfl, by decide +kernel, by decide +kernel⟩
def fb_surely_first_c1 (C_Season : Addr) : Sto → Option D :=
  vLc [2] (vRng1 (aCons (vFld C_Season "size" (vVarZ 0)) aNil)) (gN 2) (vB (v2 dNe (vVarZ 2) (vVarZ 1))) (v2 dGe (v2 dIx (vFld C_Season "wins" (vVarZ 0)) (vVarZ 1)) (vMeth 2 C_Season "most" (m_Season_most C_Season) (vVarZ 0) (aCons (vVarZ 2) aNil)))
def fb_surely_first (C_Season : Addr) : Sto → Option Fl :=
  (sSeq (sDrop (up (vCall (n := 2) (m_look_at_side C_Season) (aCons (vVarZ 0) (aCons (vVarZ 1) aNil)))))
      (sRet (up (v1 dAll (fb_surely_first_c1 C_Season)))))
def m_surely_first (C_Season : Addr) : List D → Option D := fun ds => endP (fb_surely_first C_Season (argZ ds ++ List.replicate 1 none))
theorem ok_surely_first {P : Program} {w : World} {K : PySem.W.Frag} {mg : Str → Option Value} {base : Heap} {C_Season C_Shares : Addr} {f : Addr} {fd : FuncData} (F : Fun K "surely_first" "surely_first" st_surely_first f fd) (T : Txt K mg C_Season C_Shares) (c_look_at_side : Fc P w K mg base "look_at_side" ["season", "side"] 2 (spP K 2 .z (m_look_at_side C_Season))) (c_Season_most : Mt P w K mg base C_Season "most" ["self", "side"] 2 (spP K 2 .z (m_Season_most C_Season))) : FnOk P w K mg base CX0 3 f fd ["season", "side"] (spP K 2 .z (m_surely_first C_Season)) :=
  fn_pure (fb := fb_surely_first C_Season) F sc_surely_first (fun cdv A outer s H E hr => ((ssv_cons (sv_expr (PV.ev (FP.pv (fp_call c_look_at_side.ok (hr.mono (by decide)) rfl c_look_at_side.g c_look_at_side.q c_look_at_side.b (pav_cons (pv_varZ (i := 0) rfl (vis_of rfl)) (pav_cons (pv_varZ (i := 1) rfl (vis_of rfl)) pav_nil))))))
      (ssv_one (sv_ret (FP.ef (PV.fp (pv_all T.b_all rfl (FP.pv (fp_lc (own := [("other", 2)]) rfl sc_surely_first.nd (ip_range1 rfl T.b_range (pav_cons (pv_fld T.f_Season_size (pv_varZ (i := 0) rfl (vis_of rfl))) pav_nil)) (blkOk_by (by rfl)) (fun _ _ _ _ _ => (pgv_name (i := 2) sc_surely_first.nd rfl (loc_of rfl))) (fun _ _ _ _ _ => (ptsv_one (pt_cmpV (op_neD hr.units) od_ne (pv_varZ (i := 2) rfl (vis_of rfl)) (pv_varZ (i := 1) rfl (vis_of rfl)) (nomark _)))) (fun _ _ _ _ _ => (PV.fp (pv_cmp op_ge od_ge (pv_ix ix_seq (od_ix (by rfl)) (pv_fld T.f_Season_wins (pv_varZ (i := 0) rfl (vis_of rfl))) (pv_varZ (i := 1) rfl (vis_of rfl)) (by intro _ _; rfl)) (FP.pv (fp_meth (pv_varZ (i := 0) rfl (vis_of rfl)) T.k_Season c_Season_most.me c_Season_most.ok (hr.mono (by decide)) c_Season_most.b (pav_cons (pv_varZ (i := 2) rfl (vis_of rfl)) pav_nil))) (nomark _)))) rfl)) rfl))))))
    : SSV (BCx P w K mg base _ _ st_surely_first f cdv A outer s H E) .z [] (defBody st_surely_first) (fb_surely_first C_Season))) (fun _ _ _ h => h)
/-! ### most_against -/
abbrev st_most_against : Stmt := top 22
theorem sc_most_against : FnScope ["season", "side", "other", "many", "beside"] ["season", "side", "other", "many"] (defScope st_most_against) := ⟨rfl, rfl, rfl, by decide +kernel, rfl, by decide +kernel, by decide +kernel⟩
def fb_most_against (C_Season : Addr) : Sto → Option Fl :=
  (sSeq (sIf (upT (vB (v2 dEq (vVarZ 1) (vVarZ 2))))
      (sRet (up (v2 dAddI (v2 dIx (vFld C_Season "wins" (vVarZ 0)) (vVarZ 1)) (vVarZ 3))))
      sNext)
      (sSeq (sSet 4 .z (up (v2 dSub (vMeth 2 C_Season "matches" (m_Season_matches C_Season) (vVarZ 0) (aCons (vVarZ 1) aNil)) (v2 dIx (v2 dIx (vFld C_Season "left" (vVarZ 0)) (vVarZ 1)) (vVarZ 2)))))
      (sRet (up (v2 dSub (vMeth 2 C_Season "most" (m_Season_most C_Season) (vVarZ 0) (aCons (vVarZ 2) aNil)) (vB2 dMax2 (aCons (vC (.int 0)) (aCons (v2 dSub (vVarZ 3) (vVarZ 4)) aNil))))))))
def m_most_against (C_Season : Addr) : List D → Option D := fun ds => endP (fb_most_against C_Season (argZ ds ++ List.replicate 1 none))
theorem ok_most_against {P : Program} {w : World} {K : PySem.W.Frag} {mg : Str → Option Value} {base : Heap} {C_Season C_Shares : Addr} {f : Addr} {fd : FuncData} (F : Fun K "most_against" "most_against" st_most_against f fd) (T : Txt K mg C_Season C_Shares) (c_Season_matches : Mt P w K mg base C_Season "matches" ["self", "side"] 1 (spP K 2 .z (m_Season_matches C_Season))) (c_Season_most : Mt P w K mg base C_Season "most" ["self", "side"] 2 (spP K 2 .z (m_Season_most C_Season))) : FnOk P w K mg base CX0 3 f fd ["season", "side", "other", "many"] (spP K 4 .z (m_most_against C_Season)) :=
  fn_pure (fb := fb_most_against C_Season) F sc_most_against (fun cdv A outer s H E hr => ((ssv_cons (sv_if (PTV.etv (pt_cmpV (op_eqD hr.units) od_eq (pv_varZ (i := 1) rfl (vis_of rfl)) (pv_varZ (i := 2) rfl (vis_of rfl)) (nomark _)))
      (ssv_one (sv_ret (FP.ef (PV.fp (pv_bin op_add od_addI (pv_ix ix_seq (od_ix (by rfl)) (pv_fld T.f_Season_wins (pv_varZ (i := 0) rfl (vis_of rfl))) (pv_varZ (i := 1) rfl (vis_of rfl)) (by intro _ _; rfl)) (pv_varZ (i := 3) rfl (vis_of rfl)))))))
      ssv_nil)
      (ssv_cons (sv_set (i := 4) sc_most_against.nd rfl (loc_of rfl) (FP.ef (PV.fp (pv_bin op_sub od_sub (FP.pv (fp_meth (pv_varZ (i := 0) rfl (vis_of rfl)) T.k_Season c_Season_matches.me c_Season_matches.ok (hr.mono (by decide)) c_Season_matches.b (pav_cons (pv_varZ (i := 1) rfl (vis_of rfl)) pav_nil))) (pv_ix ix_seq (od_ix (by rfl)) (pv_ix ix_seq (od_ix (by rfl)) (pv_fld T.f_Season_left (pv_varZ (i := 0) rfl (vis_of rfl))) (pv_varZ (i := 1) rfl (vis_of rfl)) (by intro _ _; rfl)) (pv_varZ (i := 2) rfl (vis_of rfl)) (by intro _ _; rfl))))) rfl)
      (ssv_one (sv_ret (FP.ef (PV.fp (pv_bin op_sub od_sub (FP.pv (fp_meth (pv_varZ (i := 0) rfl (vis_of rfl)) T.k_Season c_Season_most.me c_Season_most.ok (hr.mono (by decide)) c_Season_most.b (pav_cons (pv_varZ (i := 2) rfl (vis_of rfl)) pav_nil))) (pv_max2 T.b_max rfl (pav_cons pv_int (pav_cons (pv_bin op_sub od_sub (pv_varZ (i := 3) rfl (vis_of rfl)) (pv_varZ (i := 4) rfl (vis_of rfl))) pav_nil)) rfl))))))))
    : SSV (BCx P w K mg base _ _ st_most_against f cdv A outer s H E) .z [] (defBody st_most_against) (fb_most_against C_Season))) (fun _ _ _ h => h)
/-! ### wins_that_do -/
abbrev st_wins_that_do : Stmt := top 21
theorem sc_wins_that_do : FnScope ["season", "side", "many", "other"] ["season", "side"] (defScope st_wins_that_do) := ⟨rfl, rfl, rfl, by decide +kernel, rfl, by decide +kernel, by decide +kernel⟩
def fb_wins_that_do_c1 (C_Season : Addr) : Sto → Option D :=
  vLc [3] (vRng1 (aCons (vFld C_Season "size" (vVarZ 0)) aNil)) (gN 3) (fun _ => some true) (v2 dGe (v2 dAddI (v2 dIx (vFld C_Season "wins" (vVarZ 0)) (vVarZ 1)) (vVarZ 2)) (vCall (n := 4) (m_most_against C_Season) (aCons (vVarZ 0) (aCons (vVarZ 1) (aCons (vVarZ 3) (aCons (vVarZ 2) aNil))))))
def fb_wins_that_do_b1 (C_Season : Addr) : Sto → Option Fl :=
  (sIf (upT (vB (v1 dAll (fb_wins_that_do_c1 C_Season))))
      (sRet (up (vVarZ 2)))
      sNext)
def fb_wins_that_do (C_Season : Addr) : Sto → Option Fl :=
  (sSeq (sDrop (up (vCall (n := 2) (m_look_at_side C_Season) (aCons (vVarZ 0) (aCons (vVarZ 1) aNil)))))
      (sSeq (sFor (upI (vRng1 (aCons (v2 dAddI (vMeth 2 C_Season "matches" (m_Season_matches C_Season) (vVarZ 0) (aCons (vVarZ 1) aNil)) (vC (.int 1))) aNil))) (gN 2) (fb_wins_that_do_b1 C_Season))
      (sRet (up (vC .non)))))
def m_wins_that_do (C_Season : Addr) : List D → Option D := fun ds => endP (fb_wins_that_do C_Season (argZ ds ++ List.replicate 2 none))
theorem ok_wins_that_do {P : Program} {w : World} {K : PySem.W.Frag} {mg : Str → Option Value} {base : Heap} {C_Season C_Shares : Addr} {f : Addr} {fd : FuncData} (F : Fun K "wins_that_do" "wins_that_do" st_wins_that_do f fd) (T : Txt K mg C_Season C_Shares) (c_look_at_side : Fc P w K mg base "look_at_side" ["season", "side"] 2 (spP K 2 .z (m_look_at_side C_Season))) (c_Season_matches : Mt P w K mg base C_Season "matches" ["self", "side"] 1 (spP K 2 .z (m_Season_matches C_Season))) (c_most_against : Fc P w K mg base "most_against" ["season", "side", "other", "many"] 3 (spP K 4 .z (m_most_against C_Season))) : FnOk P w K mg base CX0 4 f fd ["season", "side"] (spP K 2 .z (m_wins_that_do C_Season)) :=
  fn_pure (fb := fb_wins_that_do C_Season) F sc_wins_that_do (fun cdv A outer s H E hr => ((ssv_cons (sv_expr (PV.ev (FP.pv (fp_call c_look_at_side.ok (hr.mono (by decide)) rfl c_look_at_side.g c_look_at_side.q c_look_at_side.b (pav_cons (pv_varZ (i := 0) rfl (vis_of rfl)) (pav_cons (pv_varZ (i := 1) rfl (vis_of rfl)) pav_nil))))))
      (ssv_cons (sv_for PassesOwn.never rfl (IPV.iev (ip_range1 rfl T.b_range (pav_cons (pv_bin op_add od_addI (FP.pv (fp_meth (pv_varZ (i := 0) rfl (vis_of rfl)) T.k_Season c_Season_matches.me c_Season_matches.ok (hr.mono (by decide)) c_Season_matches.b (pav_cons (pv_varZ (i := 1) rfl (vis_of rfl)) pav_nil))) pv_int) pav_nil))) (pgv_name (i := 2) sc_wins_that_do.nd rfl (loc_of rfl))
      (ssv_one (sv_if (PTV.etv (pt_valV (pv_all T.b_all rfl (FP.pv (fp_lc (own := [("other", 3)]) rfl sc_wins_that_do.nd (ip_range1 rfl T.b_range (pav_cons (pv_fld T.f_Season_size (pv_varZ (i := 0) rfl (vis_of rfl))) pav_nil)) (blkOk_by (by rfl)) (fun _ _ _ _ _ => (pgv_name (i := 3) sc_wins_that_do.nd rfl (loc_of rfl))) (fun _ _ _ _ _ => ptsv_nil) (fun _ _ _ _ _ => (PV.fp (pv_cmp op_ge od_ge (pv_bin op_add od_addI (pv_ix ix_seq (od_ix (by rfl)) (pv_fld T.f_Season_wins (pv_varZ (i := 0) rfl (vis_of rfl))) (pv_varZ (i := 1) rfl (vis_of rfl)) (by intro _ _; rfl)) (pv_varZ (i := 2) rfl (vis_of rfl))) (FP.pv (fp_call c_most_against.ok (hr.mono (by decide)) rfl c_most_against.g c_most_against.q c_most_against.b (pav_cons (pv_varZ (i := 0) rfl (vis_of rfl)) (pav_cons (pv_varZ (i := 1) rfl (vis_of rfl)) (pav_cons (pv_varZ (i := 3) rfl (vis_of rfl)) (pav_cons (pv_varZ (i := 2) rfl (vis_of rfl)) pav_nil)))))) (nomark _)))) rfl)) rfl)))
      (ssv_one (sv_ret (FP.ef (PV.fp (pv_varZ (i := 2) rfl (vis_of rfl))))))
      ssv_nil)) rfl)
      (ssv_one (sv_ret (FP.ef (PV.fp pv_non))))))
    : SSV (BCx P w K mg base _ _ st_wins_that_do f cdv A outer s H E) .z [] (defBody st_wins_that_do) (fb_wins_that_do C_Season))) (fun _ _ _ h => h)
/-! ### with_match -/
abbrev st_with_match : Stmt := top 23
theorem sc_with_match : FnScope ["season", "winner", "loser", "wins", "rows", "pair", "one", "row", "side", "many", "two"] ["season", "winner", "loser"] (defScope st_with_match) := ⟨rfl, rfl, rfl, by decide +kernel, rfl, by decide +kernel, by decide +kernel⟩
def fb_with_match_c1 (C_Season : Addr) : Sto → Option D :=
  vLc [8, 9] (vEnum (vFld C_Season "wins" (vVarZ 0))) (gTupF 2 (gsCons (gN 8) (gsCons (gN 9) gsNil))) (fun _ => some true) (v2 dAddI (vVarZ 9) (v1 dInt (v2 dEq (vVarZ 8) (vVarZ 1))))
def fb_with_match_c2 : Sto → Option D :=
  vLc [10, 9] (vEnum (vVarZ 7)) (gTupF 2 (gsCons (gN 10) (gsCons (gN 9) gsNil))) (fun _ => some true) (v2 dSub (vVarZ 9) (v1 dInt (vAndF (v2 dNe (vVarZ 6) (vVarZ 10)) (vAndF (v2 dIn (vVarZ 6) (vVarZ 5)) (v2 dIn (vVarZ 10) (vVarZ 5))))))
def fb_with_match_b1 : Sto → Option Fl :=
  (sApp 4 .z (lVar 4) (up (v1 dTuple fb_with_match_c2)))
def fb_with_match (C_Season : Addr) : Sto → Option Fl :=
  (sSeq (sDrop (up (vCall (n := 2) (m_look_at_side C_Season) (aCons (vVarZ 0) (aCons (vVarZ 1) aNil)))))
      (sSeq (sDrop (up (vCall (n := 2) (m_look_at_side C_Season) (aCons (vVarZ 0) (aCons (vVarZ 2) aNil)))))
      (sSeq (sIf (upT (vB (v2 dEq (v2 dIx (v2 dIx (vFld C_Season "left" (vVarZ 0)) (vVarZ 1)) (vVarZ 2)) (vC (.int 0)))))
      sNever
      sNext)
      (sSeq (sSet 3 .z (up (v1 dTuple (fb_with_match_c1 C_Season))))
      (sSeq (sSet 4 (.seq .z) (up (vLst aNil)))
      (sSeq (sSet 5 .z (up (vTup (aCons (vVarZ 1) (aCons (vVarZ 2) aNil)))))
      (sSeq (sFor (upI (vEnum (vFld C_Season "left" (vVarZ 0)))) (gTupF 2 (gsCons (gN 6) (gsCons (gN 7) gsNil))) fb_with_match_b1)
      (sRet (up (vMake 3 C_Season (m_Season_init C_Season) (aCons (vVarZ 3) (aCons (v1 dTuple (vVarS 4)) aNil))))))))))))
def m_with_match (C_Season : Addr) : List D → Option D := fun ds => endP (fb_with_match C_Season (argZ ds ++ List.replicate 8 none))
theorem ok_with_match {P : Program} {w : World} {K : PySem.W.Frag} {mg : Str → Option Value} {base : Heap} {C_Season C_Shares : Addr} {f : Addr} {fd : FuncData} (F : Fun K "with_match" "with_match" st_with_match f fd) (T : Txt K mg C_Season C_Shares) (c_look_at_side : Fc P w K mg base "look_at_side" ["season", "side"] 2 (spP K 2 .z (m_look_at_side C_Season))) (c_Season : Mc P w K mg base "Season" C_Season ["self", "wins", "left"] 4 (spIO K 3 0 (.obj fun _ => .z) .z (m_Season_init C_Season))) : FnOk P w K mg base CX0 6 f fd ["season", "winner", "loser"] (spP K 3 .z (m_with_match C_Season)) :=
  fn_pure (fb := fb_with_match C_Season) F sc_with_match (fun cdv A outer s H E hr => ((ssv_cons (sv_expr (PV.ev (FP.pv (fp_call c_look_at_side.ok (hr.mono (by decide)) rfl c_look_at_side.g c_look_at_side.q c_look_at_side.b (pav_cons (pv_varZ (i := 0) rfl (vis_of rfl)) (pav_cons (pv_varZ (i := 1) rfl (vis_of rfl)) pav_nil))))))
      (ssv_cons (sv_expr (PV.ev (FP.pv (fp_call c_look_at_side.ok (hr.mono (by decide)) rfl c_look_at_side.g c_look_at_side.q c_look_at_side.b (pav_cons (pv_varZ (i := 0) rfl (vis_of rfl)) (pav_cons (pv_varZ (i := 2) rfl (vis_of rfl)) pav_nil))))))
      (ssv_cons (sv_if (PTV.etv (pt_cmpV (op_eqD hr.units) od_eq (pv_ix ix_seq (od_ix (by rfl)) (pv_ix ix_seq (od_ix (by rfl)) (pv_fld T.f_Season_left (pv_varZ (i := 0) rfl (vis_of rfl))) (pv_varZ (i := 1) rfl (vis_of rfl)) (by intro _ _; rfl)) (pv_varZ (i := 2) rfl (vis_of rfl)) (by intro _ _; rfl)) pv_int (nomark _)))
      ssv_never
      ssv_nil)
      (ssv_cons (sv_set (i := 3) sc_with_match.nd rfl (loc_of rfl) (FP.ef (PV.fp (pv_tupC T.b_tuple rfl (FP.pv (fp_lc (own := [("side", 8), ("many", 9)]) rfl sc_with_match.nd (ip_enum rfl T.b_enumerate (pv_fld T.f_Season_wins (pv_varZ (i := 0) rfl (vis_of rfl)))) (blkOk_by (by rfl)) (fun _ _ _ _ _ => (pgv_tup rfl (pgsv_cons (pgv_name (i := 8) sc_with_match.nd rfl (loc_of rfl)) (pgsv_cons (pgv_name (i := 9) sc_with_match.nd rfl (loc_of rfl)) pgsv_nil)))) (fun _ _ _ _ _ => ptsv_nil) (fun _ _ _ _ _ => (PV.fp (pv_bin op_add od_addI (pv_varZ (i := 9) rfl (vis_of rfl)) (pv_intC T.b_int (pv_cmp (op_eqD hr.units) od_eq (pv_varZ (i := 8) rfl (vis_of rfl)) (pv_varZ (i := 1) rfl (vis_of rfl)) (nomark _)) rfl)))) rfl)) rfl))) rfl)
      (ssv_cons (sv_set (i := 4) sc_with_match.nd rfl (loc_of rfl) (FP.ef (fp_lst pav_nil)) rfl)
      (ssv_cons (sv_set (i := 5) sc_with_match.nd rfl (loc_of rfl) (FP.ef (PV.fp (pv_tup (pav_cons (pv_varZ (i := 1) rfl (vis_of rfl)) (pav_cons (pv_varZ (i := 2) rfl (vis_of rfl)) pav_nil))))) rfl)
      (ssv_cons (sv_for PassesOwn.never rfl (IPV.iev (ip_enum rfl T.b_enumerate (pv_fld T.f_Season_left (pv_varZ (i := 0) rfl (vis_of rfl))))) (pgv_tup rfl (pgsv_cons (pgv_name (i := 6) sc_with_match.nd rfl (loc_of rfl)) (pgsv_cons (pgv_name (i := 7) sc_with_match.nd rfl (loc_of rfl)) pgsv_nil)))
      (ssv_one (sv_append (lv_var (i := 4) rfl (vis_of rfl)) (FP.ef (PV.fp (pv_tupC T.b_tuple rfl (FP.pv (fp_lc (own := [("two", 10), ("many", 9)]) rfl sc_with_match.nd (ip_enum rfl T.b_enumerate (pv_varZ (i := 7) rfl (vis_of rfl))) (blkOk_by (by rfl)) (fun _ _ _ _ _ => (pgv_tup rfl (pgsv_cons (pgv_name (i := 10) sc_with_match.nd rfl (loc_of rfl)) (pgsv_cons (pgv_name (i := 9) sc_with_match.nd rfl (loc_of rfl)) pgsv_nil)))) (fun _ _ _ _ _ => ptsv_nil) (fun _ _ _ _ _ => (PV.fp (pv_bin op_sub od_sub (pv_varZ (i := 9) rfl (vis_of rfl)) (pv_intC T.b_int (pv_and (pv_cmp (op_neD hr.units) od_ne (pv_varZ (i := 6) rfl (vis_of rfl)) (pv_varZ (i := 10) rfl (vis_of rfl)) (nomark _)) (pv_and (pv_cmp op_in_seq od_in (pv_varZ (i := 6) rfl (vis_of rfl)) (pv_varZ (i := 5) rfl (vis_of rfl)) (by with_unfolding_all rfl)) (pv_one (pv_cmp op_in_seq od_in (pv_varZ (i := 10) rfl (vis_of rfl)) (pv_varZ (i := 5) rfl (vis_of rfl)) (by with_unfolding_all rfl))))) rfl)))) rfl)) rfl))) rfl)) rfl)
      (ssv_one (sv_ret (FP.ef (PV.fp (FP.pv (fp_make c_Season.mke c_Season.ok (hr.mono (by decide)) rfl c_Season.g c_Season.b (pav_cons (pv_varZ (i := 3) rfl (vis_of rfl)) (pav_cons (pv_tupC T.b_tuple rfl (pv_varS (i := 4) rfl (vis_of rfl)) rfl) pav_nil)))))))))))))))
    : SSV (BCx P w K mg base _ _ st_with_match f cdv A outer s H E) .z [] (defBody st_with_match) (fb_with_match C_Season))) (fun _ _ _ h => h)
/-! ### _law_draws -/
abbrev st__law_draws : Stmt := top 25
theorem sc__law_draws : FnScope ["script"] ["script"] (defScope st__law_draws) := ⟨rfl, rfl, rfl, by decide +kernel, rfl, by decide +kernel, by decide +kernel⟩
def fb__law_draws : Sto → Option Fl :=
  (sRet (up (vLst (aCons (v1 dList (vVarZ 0)) (aCons (vC (.int 0)) (aCons (vC (.int 0)) (aCons (vC (.int 1)) aNil)))))))
def m__law_draws : List D → Option D := fun ds => endP (fb__law_draws (argZ ds ++ List.replicate 0 none))
theorem ok__law_draws {P : Program} {w : World} {K : PySem.W.Frag} {mg : Str → Option Value} {base : Heap} {C_Season C_Shares : Addr} {f : Addr} {fd : FuncData} (F : Fun K "_law_draws" "_law_draws" st__law_draws f fd) (T : Txt K mg C_Season C_Shares)  : FnOk P w K mg base CX0 1 f fd ["script"] (spP K 1 (.seq .z) m__law_draws) :=
  fn_pure (fb := fb__law_draws) F sc__law_draws (fun cdv A outer s H E hr => ((ssv_one (sv_ret (FP.ef (fp_lst (pav_cons (FP.pv (fp_lstC T.b_list rfl (pv_varZ (i := 0) rfl (vis_of rfl)) rfl)) (pav_cons pv_int (pav_cons pv_int (pav_cons pv_int pav_nil))))))))
    : SSV (BCx P w K mg base _ _ st__law_draws f cdv A outer s H E) (.seq .z) [] (defBody st__law_draws) (fb__law_draws))) (fun _ _ _ h => h)
/-! ### _law_draw -/
abbrev st__law_draw : Stmt := top 26
theorem sc__law_draw : FnScope ["draws", "limit", "cell", "value"] ["draws", "limit"] (defScope st__law_draw) := ⟨rfl, rfl, rfl, by decide +kernel, rfl, by decide +kernel, by decide +kernel⟩
def fb__law_draw : Sto → Option Fl :=
  (sSeq (sIf (upT (tAndF (vB (v2 dEq (v2 dIx (vVarS 0) (vC (.int 2))) (vC (.int 0)))) (vB (v2 dLt (v2 dIx (vVarS 0) (vC (.int 1))) (v1 dLen (v2 dIx (vVarS 0) (vC (.int 0))))))))
      (sSeq (sSet 2 .z (up (v2 dIx (v2 dIx (vVarS 0) (vC (.int 0))) (v2 dIx (vVarS 0) (vC (.int 1))))))
      (sSeq (sAsg (up (v2 dAddI (v2 dIx (vVarS 0) (vC (.int 1))) (vC (.int 1)))) (gSet 0 .z (lVar 0) (vC (.int 1))))
      (sSeq (sIf (upT (vB (v2 dGe (vVarZ 2) (v2 dPow (vC (.int 10)) (vC (.int 18))))))
      (sAsg (up (vVarZ 2)) (gSet 0 .z (lVar 0) (vC (.int 2))))
      sNext)
      (sAsg (up (v2 dMod (v1 dInt (v2 dAddI (v2 dAddI (v2 dMulI (v2 dIx (vVarS 0) (vC (.int 3))) (vC (.int 48271))) (vVarZ 2)) (vC (.int 13)))) (vC (.int 2147483647)))) (gSet 0 .z (lVar 0) (vC (.int 3)))))))
      sNext)
      (sSeq (sIf (upT (vB (v2 dGt (v2 dIx (vVarS 0) (vC (.int 2))) (vC (.int 0)))))
      (sSeq (sSet 3 .z (up (v2 dMod (v1 dInt (v2 dIx (vVarS 0) (vC (.int 2)))) (vVarZ 1))))
      (sSeq (sAsg (up (v2 dFdiv (v2 dIx (vVarS 0) (vC (.int 2))) (vVarZ 1))) (gSet 0 .z (lVar 0) (vC (.int 2))))
      (sRet (up (vVarZ 3)))))
      sNext)
      (sSeq (sAsg (up (v2 dMod (v1 dInt (v2 dAddI (v2 dMulI (v2 dIx (vVarS 0) (vC (.int 3))) (vC (.int 69621))) (vC (.int 7)))) (vC (.int 2147483629)))) (gSet 0 .z (lVar 0) (vC (.int 3))))
      (sRet (up (v2 dMod (v1 dInt (v2 dFdiv (v2 dIx (vVarS 0) (vC (.int 3))) (vC (.int 11)))) (vVarZ 1)))))))
def m__law_draw : List D → Option (D × D) := fun ds => endIO 0 (.seq .z) (fb__law_draw (argS 0 (.seq .z) ds ++ List.replicate 2 none))
theorem ok__law_draw {P : Program} {w : World} {K : PySem.W.Frag} {mg : Str → Option Value} {base : Heap} {C_Season C_Shares : Addr} {f : Addr} {fd : FuncData} (F : Fun K "_law_draw" "_law_draw" st__law_draw f fd) (T : Txt K mg C_Season C_Shares)  : FnOk P w K mg base CX0 1 f fd ["draws", "limit"] (spIO K 2 0 (.seq .z) .z m__law_draw) :=
  fn_io (fb := fb__law_draw) F sc__law_draw (by decide) (fun cdv A outer s H E hr => ((ssv_cons (sv_if (PTV.etv (PWV.pt (pw_andV (pt_cmpV (op_eqD hr.units) od_eq (pv_ix ix_seq (od_ix (by rfl)) (pv_varS (i := 0) rfl (vis_of rfl)) pv_int (by intro _ _; rfl)) pv_int (nomark _)) (pw_and1V (pt_cmpV op_lt od_lt (pv_ix ix_seq (od_ix (by rfl)) (pv_varS (i := 0) rfl (vis_of rfl)) pv_int (by intro _ _; rfl)) (pv_len T.b_len (pv_ix ix_seq (od_ix (by rfl)) (pv_varS (i := 0) rfl (vis_of rfl)) pv_int (by intro _ _; rfl)) rfl) (nomark _))))))
      (ssv_cons (sv_set (i := 2) sc__law_draw.nd rfl (loc_of rfl) (FP.ef (PV.fp (pv_ix ix_seq (od_ix (by rfl)) (pv_ix ix_seq (od_ix (by rfl)) (pv_varS (i := 0) rfl (vis_of rfl)) pv_int (by intro _ _; rfl)) (pv_ix ix_seq (od_ix (by rfl)) (pv_varS (i := 0) rfl (vis_of rfl)) pv_int (by intro _ _; rfl)) (by intro _ _; rfl)))) rfl)
      (ssv_cons (sv_asg (FP.ef (PV.fp (pv_bin op_add od_addI (pv_ix ix_seq (od_ix (by rfl)) (pv_varS (i := 0) rfl (vis_of rfl)) pv_int (by intro _ _; rfl)) pv_int))) (pgf_set (s := .z) (lv_var (i := 0) rfl (vis_of rfl)) pv_int) rfl)
      (ssv_cons (sv_if (PTV.etv (pt_cmpV op_ge od_ge (pv_varZ (i := 2) rfl (vis_of rfl)) (pv_bin op_pow od_pow pv_int pv_int) (nomark _)))
      (ssv_one (sv_asg (FP.ef (PV.fp (pv_varZ (i := 2) rfl (vis_of rfl)))) (pgf_set (s := .z) (lv_var (i := 0) rfl (vis_of rfl)) pv_int) rfl))
      ssv_nil)
      (ssv_one (sv_asg (FP.ef (PV.fp (pv_bin op_modN od_mod (pv_intC T.b_int (pv_bin op_add od_addI (pv_bin op_add od_addI (pv_bin op_mul od_mulI (pv_ix ix_seq (od_ix (by rfl)) (pv_varS (i := 0) rfl (vis_of rfl)) pv_int (by intro _ _; rfl)) pv_int) (pv_varZ (i := 2) rfl (vis_of rfl))) pv_int) rfl) pv_int))) (pgf_set (s := .z) (lv_var (i := 0) rfl (vis_of rfl)) pv_int) rfl)))))
      ssv_nil)
      (ssv_cons (sv_if (PTV.etv (pt_cmpV op_gt od_gt (pv_ix ix_seq (od_ix (by rfl)) (pv_varS (i := 0) rfl (vis_of rfl)) pv_int (by intro _ _; rfl)) pv_int (nomark _)))
      (ssv_cons (sv_set (i := 3) sc__law_draw.nd rfl (loc_of rfl) (FP.ef (PV.fp (pv_bin op_modN od_mod (pv_intC T.b_int (pv_ix ix_seq (od_ix (by rfl)) (pv_varS (i := 0) rfl (vis_of rfl)) pv_int (by intro _ _; rfl)) rfl) (pv_varZ (i := 1) rfl (vis_of rfl))))) rfl)
      (ssv_cons (sv_asg (FP.ef (PV.fp (pv_bin op_fdivN od_fdiv (pv_ix ix_seq (od_ix (by rfl)) (pv_varS (i := 0) rfl (vis_of rfl)) pv_int (by intro _ _; rfl)) (pv_varZ (i := 1) rfl (vis_of rfl))))) (pgf_set (s := .z) (lv_var (i := 0) rfl (vis_of rfl)) pv_int) rfl)
      (ssv_one (sv_ret (FP.ef (PV.fp (pv_varZ (i := 3) rfl (vis_of rfl))))))))
      ssv_nil)
      (ssv_cons (sv_asg (FP.ef (PV.fp (pv_bin op_modN od_mod (pv_intC T.b_int (pv_bin op_add od_addI (pv_bin op_mul od_mulI (pv_ix ix_seq (od_ix (by rfl)) (pv_varS (i := 0) rfl (vis_of rfl)) pv_int (by intro _ _; rfl)) pv_int) pv_int) rfl) pv_int))) (pgf_set (s := .z) (lv_var (i := 0) rfl (vis_of rfl)) pv_int) rfl)
      (ssv_one (sv_ret (FP.ef (PV.fp (pv_bin op_modN od_mod (pv_intC T.b_int (pv_bin op_fdivN od_fdiv (pv_ix ix_seq (od_ix (by rfl)) (pv_varS (i := 0) rfl (vis_of rfl)) pv_int (by intro _ _; rfl)) pv_int) rfl) (pv_varZ (i := 1) rfl (vis_of rfl))))))))))
    : SSV (BCx P w K mg base _ _ st__law_draw f cdv A outer s H E) .z [0] (defBody st__law_draw) (fb__law_draw))) (fun _ _ _ h => h)
/-! ### _law_same -/
abbrev st__law_same : Stmt := top 27
theorem sc__law_same : FnScope ["actual", "expected", "k"] ["actual", "expected"] (defScope st__law_same) := ⟨rfl, rfl, rfl, by decide +kernel, rfl, by decide +kernel, by decide +kernel⟩
def fb__law_same_b1 (mr : List D → Option D) : Sto → Option Fl :=
  (sIf (upT (tNotF (vB (vCall (n := 2) mr (aCons (v2 dIx (vVarZ 0) (vVarZ 2)) (aCons (v2 dIx (vVarZ 1) (vVarZ 2)) aNil))))))
      (sRet (up (vC (.bl false))))
      sNext)
def fb__law_same (mr : List D → Option D) : Sto → Option Fl :=
  (sSeq (sIf (upT (tOrF (vB (vIsi "tuple" (vVarZ 1))) (vB (vIsi "list" (vVarZ 1)))))
      (sSeq (sIf (upT (tAndF (vB (vIsi "tuple" (vVarZ 1))) (tNotF (vB (vIsi "tuple" (vVarZ 0))))))
      (sRet (up (vC (.bl false))))
      sNext)
      (sSeq (sIf (upT (tAndF (vB (vIsi "list" (vVarZ 1))) (tNotF (vB (vIsi "list" (vVarZ 0))))))
      (sRet (up (vC (.bl false))))
      sNext)
      (sSeq (sIf (upT (vB (v2 dNe (v1 dLen (vVarZ 0)) (v1 dLen (vVarZ 1)))))
      (sRet (up (vC (.bl false))))
      sNext)
      (sSeq (sFor (upI (vRng1 (aCons (v1 dLen (vVarZ 1)) aNil))) (gN 2) (fb__law_same_b1 mr))
      (sRet (up (vC (.bl true))))))))
      sNext)
      (sSeq (sIf (upT (vB (vIsi "str" (vVarZ 1))))
      (sRet (up (vAndF (vIsi "str" (vVarZ 0)) (v2 dEq (vVarZ 0) (vVarZ 1)))))
      sNext)
      (sSeq (sIf (upT (vB (v2 dIsN (vVarZ 1) (vC .non))))
      (sRet (up (v2 dIsN (vVarZ 0) (vC .non))))
      sNext)
      (sSeq (sIf (upT (tOrF (vB (vIsi "bool" (vVarZ 1))) (vB (vIsi "bool" (vVarZ 0)))))
      (sRet (up (vAndF (vIsi "bool" (vVarZ 1)) (vAndF (vIsi "bool" (vVarZ 0)) (v2 dEq (vVarZ 0) (vVarZ 1))))))
      sNext)
      (sRet (up (vAndF (vIsi "int" (vVarZ 0)) (vAndF (vIsi "int" (vVarZ 1)) (v2 dEq (vVarZ 0) (vVarZ 1))))))))))
def ms__law_same (mr : List D → Option D) : List D → Option D := fun ds => endP (fb__law_same mr (argZ ds ++ List.replicate 1 none))
def mn__law_same : Nat → List D → Option D
  | 0 => fun _ => none
  | n + 1 => ms__law_same (mn__law_same n)
abbrev m__law_same : List D → Option D := mn__law_same 4
theorem os__law_same {P : Program} {w : World} {K : PySem.W.Frag} {mg : Str → Option Value} {base : Heap} {C_Season C_Shares : Addr} {f : Addr} {fd : FuncData} {k : Nat} {mr : List D → Option D} (F : Fun K "_law_same" "_law_same" st__law_same f fd) (T : Txt K mg C_Season C_Shares) (cr : Fc P w K mg base "_law_same" ["actual", "expected"] k (spP K 2 .z mr)) : FnOk P w K mg base CX0 (k + 1) f fd ["actual", "expected"] (spP K 2 .z (ms__law_same mr)) :=
  fn_pure (fb := fb__law_same mr) F sc__law_same (fun cdv A outer s H E hr => ((ssv_cons (sv_if (PTV.etv (PWV.pt (pw_orV (pt_valV (pv_isiT kit_tuple bt_tuple T.b_isinstance T.b_tuple (pv_varZ (i := 1) rfl (vis_of rfl)) rfl rfl)) (pw_or1V (pt_valV (pv_isiT kit_list bt_list T.b_isinstance T.b_list (pv_varZ (i := 1) rfl (vis_of rfl)) rfl rfl))))))
      (ssv_cons (sv_if (PTV.etv (PWV.pt (pw_andV (pt_valV (pv_isiT kit_tuple bt_tuple T.b_isinstance T.b_tuple (pv_varZ (i := 1) rfl (vis_of rfl)) rfl rfl)) (pw_and1V (pt_notV (pt_valV (pv_isiT kit_tuple bt_tuple T.b_isinstance T.b_tuple (pv_varZ (i := 0) rfl (vis_of rfl)) rfl rfl)))))))
      (ssv_one (sv_ret (FP.ef (PV.fp pv_bl))))
      ssv_nil)
      (ssv_cons (sv_if (PTV.etv (PWV.pt (pw_andV (pt_valV (pv_isiT kit_list bt_list T.b_isinstance T.b_list (pv_varZ (i := 1) rfl (vis_of rfl)) rfl rfl)) (pw_and1V (pt_notV (pt_valV (pv_isiT kit_list bt_list T.b_isinstance T.b_list (pv_varZ (i := 0) rfl (vis_of rfl)) rfl rfl)))))))
      (ssv_one (sv_ret (FP.ef (PV.fp pv_bl))))
      ssv_nil)
      (ssv_cons (sv_if (PTV.etv (pt_cmpV (op_neD hr.units) od_ne (pv_len T.b_len (pv_varZ (i := 0) rfl (vis_of rfl)) rfl) (pv_len T.b_len (pv_varZ (i := 1) rfl (vis_of rfl)) rfl) (nomark _)))
      (ssv_one (sv_ret (FP.ef (PV.fp pv_bl))))
      ssv_nil)
      (ssv_cons (sv_for PassesOwn.never rfl (IPV.iev (ip_range1 rfl T.b_range (pav_cons (pv_len T.b_len (pv_varZ (i := 1) rfl (vis_of rfl)) rfl) pav_nil))) (pgv_name (i := 2) sc__law_same.nd rfl (loc_of rfl))
      (ssv_one (sv_if (PTV.etv (pt_notV (pt_valV (FP.pv (fp_call cr.ok hr rfl cr.g cr.q cr.b (pav_cons (pv_ix ix_seq (od_ix (by rfl)) (pv_varZ (i := 0) rfl (vis_of rfl)) (pv_varZ (i := 2) rfl (vis_of rfl)) (by intro _ _; rfl)) (pav_cons (pv_ix ix_seq (od_ix (by rfl)) (pv_varZ (i := 1) rfl (vis_of rfl)) (pv_varZ (i := 2) rfl (vis_of rfl)) (by intro _ _; rfl)) pav_nil)))))))
      (ssv_one (sv_ret (FP.ef (PV.fp pv_bl))))
      ssv_nil)) rfl)
      (ssv_one (sv_ret (FP.ef (PV.fp pv_bl))))))))
      ssv_nil)
      (ssv_cons (sv_if (PTV.etv (pt_valV (pv_isiT kit_str bt_str T.b_isinstance T.b_str (pv_varZ (i := 1) rfl (vis_of rfl)) rfl rfl)))
      (ssv_one (sv_ret (FP.ef (PV.fp (pv_and (pv_isiT kit_str bt_str T.b_isinstance T.b_str (pv_varZ (i := 0) rfl (vis_of rfl)) rfl rfl) (pv_one (pv_cmp (op_eqD hr.units) od_eq (pv_varZ (i := 0) rfl (vis_of rfl)) (pv_varZ (i := 1) rfl (vis_of rfl)) (nomark _))))))))
      ssv_nil)
      (ssv_cons (sv_if (PTV.etv (pt_cmpV op_isN od_isN (pv_varZ (i := 1) rfl (vis_of rfl)) pv_non (nomark _)))
      (ssv_one (sv_ret (FP.ef (PV.fp (pv_cmp op_isN od_isN (pv_varZ (i := 0) rfl (vis_of rfl)) pv_non (nomark _))))))
      ssv_nil)
      (ssv_cons (sv_if (PTV.etv (PWV.pt (pw_orV (pt_valV (pv_isiT kit_bool bt_bool T.b_isinstance T.b_bool (pv_varZ (i := 1) rfl (vis_of rfl)) rfl rfl)) (pw_or1V (pt_valV (pv_isiT kit_bool bt_bool T.b_isinstance T.b_bool (pv_varZ (i := 0) rfl (vis_of rfl)) rfl rfl))))))
      (ssv_one (sv_ret (FP.ef (PV.fp (pv_and (pv_isiT kit_bool bt_bool T.b_isinstance T.b_bool (pv_varZ (i := 1) rfl (vis_of rfl)) rfl rfl) (pv_and (pv_isiT kit_bool bt_bool T.b_isinstance T.b_bool (pv_varZ (i := 0) rfl (vis_of rfl)) rfl rfl) (pv_one (pv_cmp (op_eqD hr.units) od_eq (pv_varZ (i := 0) rfl (vis_of rfl)) (pv_varZ (i := 1) rfl (vis_of rfl)) (nomark _)))))))))
      ssv_nil)
      (ssv_one (sv_ret (FP.ef (PV.fp (pv_and (pv_isiT kit_int bt_int T.b_isinstance T.b_int (pv_varZ (i := 0) rfl (vis_of rfl)) rfl rfl) (pv_and (pv_isiT kit_int bt_int T.b_isinstance T.b_int (pv_varZ (i := 1) rfl (vis_of rfl)) rfl rfl) (pv_one (pv_cmp (op_eqD hr.units) od_eq (pv_varZ (i := 0) rfl (vis_of rfl)) (pv_varZ (i := 1) rfl (vis_of rfl)) (nomark _)))))))))))))
    : SSV (BCx P w K mg base _ _ st__law_same f cdv A outer s H E) .z [] (defBody st__law_same) (fb__law_same mr))) (fun _ _ _ h => h)
theorem on__law_same {P : Program} {w : World} {K : PySem.W.Frag} {mg : Str → Option Value} {base : Heap} {C_Season C_Shares : Addr} {f : Addr} {fd : FuncData} (F : Fun K "_law_same" "_law_same" st__law_same f fd) (T : Txt K mg C_Season C_Shares) (g : mg "_law_same" = some (.ref f)) (q : PySem.W.keepIn K (.ref f) = true) (b : Binds K fd ["actual", "expected"] []) : ∀ n, FnOk P w K mg base CX0 n f fd ["actual", "expected"] (spP K 2 .z (mn__law_same n))
  | 0 => fn_none
  | n + 1 => os__law_same F T ⟨f, fd, on__law_same F T g q b n, g, q, b⟩
theorem ok__law_same {P : Program} {w : World} {K : PySem.W.Frag} {mg : Str → Option Value} {base : Heap} {C_Season C_Shares : Addr} {f : Addr} {fd : FuncData} (F : Fun K "_law_same" "_law_same" st__law_same f fd) (T : Txt K mg C_Season C_Shares) (g : mg "_law_same" = some (.ref f)) (q : PySem.W.keepIn K (.ref f) = true) (b : Binds K fd ["actual", "expected"] []) : FnOk P w K mg base CX0 4 f fd ["actual", "expected"] (spP K 2 .z m__law_same) := on__law_same F T g q b 4
/-! ### _law_pick -/
abbrev st__law_pick : Stmt := top 28
theorem sc__law_pick : FnScope ["draws", "row"] ["draws", "row"] (defScope st__law_pick) := ⟨rfl, rfl, rfl, by decide +kernel, rfl, by decide +kernel, by decide +kernel⟩
def fb__law_pick : Sto → Option Fl :=
  (sRet (e2 dIx (up (vVarZ 1)) (eCallIO 2 0 0 (.seq .z) m__law_draw (aCons (vVar 0) (aCons (v1 dLen (vVarZ 1)) aNil)))))
def m__law_pick : List D → Option (D × D) := fun ds => endIO 0 (.seq .z) (fb__law_pick (argS 0 (.seq .z) ds ++ List.replicate 0 none))
theorem ok__law_pick {P : Program} {w : World} {K : PySem.W.Frag} {mg : Str → Option Value} {base : Heap} {C_Season C_Shares : Addr} {f : Addr} {fd : FuncData} (F : Fun K "_law_pick" "_law_pick" st__law_pick f fd) (T : Txt K mg C_Season C_Shares) (c__law_draw : Fc P w K mg base "_law_draw" ["draws", "limit"] 1 (spIO K 2 0 (.seq .z) .z m__law_draw)) : FnOk P w K mg base CX0 2 f fd ["draws", "row"] (spIO K 2 0 (.seq .z) .z m__law_pick) :=
  fn_io (fb := fb__law_pick) F sc__law_pick (by decide) (fun cdv A outer s H E hr => ((ssv_one (sv_ret (EV.ef (ev_ix ix_seq (od_ix (by rfl)) (PV.ev (pv_varZ (i := 1) rfl (vis_of rfl))) (EF.ev (ef_callIO c__law_draw.ok (hr.mono (by decide)) rfl c__law_draw.g c__law_draw.q c__law_draw.b (qa_here (j := 0) rfl (vis_of rfl) (pav_cons (pv_len T.b_len (pv_varZ (i := 1) rfl (vis_of rfl)) rfl) pav_nil)) hfs0)) (by intro _ _; rfl)))))
    : SSV (BCx P w K mg base _ _ st__law_pick f cdv A outer s H E) .z [0] (defBody st__law_pick) (fb__law_pick))) (fun _ _ _ h => h)
/-! ### _law_season -/
abbrev st__law_season : Stmt := top 29
theorem sc__law_season : FnScope ["draws", "size", "one", "few", "wide", "wins", "left", "other", "side", "row"] ["draws"] (defScope st__law_season) := ⟨rfl, rfl, rfl, by decide +kernel, rfl, by decide +kernel, by decide +kernel⟩
def fb__law_season_c1 : Sto → Option (D × Sto) :=
  eLc [8] (vRng1 (aCons (vVarZ 1) aNil)) (gN 8) (upT fun _ => some true) (eCallIO 2 0 0 (.seq .z) m__law_draw (aCons (vVar 0) (aCons (vVarZ 4) aNil)))
def fb__law_season_c2 : Sto → Option D :=
  vLc [8] (vRng1 (aCons (vVarZ 1) aNil)) (gN 8) (fun _ => some true) (v2 dRep (vLst (aCons (vC (.int 0)) aNil)) (vVarZ 1))
def fb__law_season_b1 : Sto → Option Fl :=
  (sSeq (sAsg (eIf (eB (e2 dEq (eCallIO 2 0 0 (.seq .z) m__law_draw (aCons (vVar 0) (aCons (vVarZ 3) aNil))) (up (vC (.int 0))))) (eCallIO 2 0 0 (.seq .z) m__law_draw (aCons (vVar 0) (aCons (vC (.int 4)) aNil))) (up (vC (.int 0)))) (gSet 6 .z (lIx 6 (lVar 6) (vVarZ 2)) (vVarZ 7)))
      (sAsg (up (vBor .z (v2 dIx (v2 dIx (vVarZ 6) (vVarZ 2)) (vVarZ 7)))) (gSet 6 .z (lIx 6 (lVar 6) (vVarZ 7)) (vVarZ 2))))
def fb__law_season_b2 : Sto → Option Fl :=
  (sFor (upI (vRng2 (aCons (v2 dAddI (vVarZ 2) (vC (.int 1))) (aCons (vVarZ 1) aNil)))) (gN 7) fb__law_season_b1)
def fb__law_season_c3 : Sto → Option D :=
  vLc [9] (vItems (vVarZ 6)) (gN 9) (fun _ => some true) (v1 dTuple (vVarZ 9))
def fb__law_season : Sto → Option Fl :=
  (sSeq (sSet 1 .z (eCallIO 2 0 0 (.seq .z) m__law_pick (aCons (vVar 0) (aCons (vLst (aCons (vC (.int 1)) (aCons (vC (.int 2)) (aCons (vC (.int 5)) (aCons (vC (.int 8)) (aCons (vC (.int 11)) (aCons (vC (.int 12)) aNil))))))) aNil))))
      (sSeq (sAsg (eTup (bCons (eCallIO 2 0 0 (.seq .z) m__law_pick (aCons (vVar 0) (aCons (vLst (aCons (vC (.int 2)) (aCons (vC (.int 4)) (aCons (vC (.int 9)) aNil)))) aNil))) (bCons (eCallIO 2 0 0 (.seq .z) m__law_pick (aCons (vVar 0) (aCons (vLst (aCons (vC (.int 3)) (aCons (vC (.int 9)) (aCons (vC (.int 30)) aNil)))) aNil))) bNil))) (gTupF 2 (gsCons (gN 3) (gsCons (gN 4) gsNil))))
      (sSeq (sPar2 5 6 .z (.seq (.seq .z)) fb__law_season_c1 (up fb__law_season_c2))
      (sSeq (sFor (upI (vRng1 (aCons (vVarZ 1) aNil))) (gN 2) fb__law_season_b2)
      (sFrz 6 (sRet (up (vTup (aCons (v1 dTuple (vVarZ 5)) (aCons (v1 dTuple fb__law_season_c3) aNil))))))))))
def m__law_season : List D → Option (D × D) := fun ds => endIO 0 (.seq .z) (fb__law_season (argS 0 (.seq .z) ds ++ List.replicate 9 none))
theorem ok__law_season {P : Program} {w : World} {K : PySem.W.Frag} {mg : Str → Option Value} {base : Heap} {C_Season C_Shares : Addr} {f : Addr} {fd : FuncData} (F : Fun K "_law_season" "_law_season" st__law_season f fd) (T : Txt K mg C_Season C_Shares) (c__law_pick : Fc P w K mg base "_law_pick" ["draws", "row"] 2 (spIO K 2 0 (.seq .z) .z m__law_pick)) (c__law_draw : Fc P w K mg base "_law_draw" ["draws", "limit"] 1 (spIO K 2 0 (.seq .z) .z m__law_draw)) : FnOk P w K mg base CX0 3 f fd ["draws"] (spIO K 1 0 (.seq .z) .z m__law_season) :=
  fn_io (fb := fb__law_season) F sc__law_season (by decide) (fun cdv A outer s H E hr => ((ssv_cons (sv_set (i := 1) sc__law_season.nd rfl (loc_of rfl) (ef_callIO c__law_pick.ok (hr.mono (by decide)) rfl c__law_pick.g c__law_pick.q c__law_pick.b (qa_here (j := 0) rfl (vis_of rfl) (pav_cons (FP.pv (fp_lst (pav_cons pv_int (pav_cons pv_int (pav_cons pv_int (pav_cons pv_int (pav_cons pv_int (pav_cons pv_int pav_nil)))))))) pav_nil)) hfs0) rfl)
      (ssv_cons (sv_asg (EV.ef (ev_tup (eav_cons (EF.ev (ef_callIO c__law_pick.ok (hr.mono (by decide)) rfl c__law_pick.g c__law_pick.q c__law_pick.b (qa_here (j := 0) rfl (vis_of rfl) (pav_cons (FP.pv (fp_lst (pav_cons pv_int (pav_cons pv_int (pav_cons pv_int pav_nil))))) pav_nil)) hfs0)) (eav_cons (EF.ev (ef_callIO c__law_pick.ok (hr.mono (by decide)) rfl c__law_pick.g c__law_pick.q c__law_pick.b (qa_here (j := 0) rfl (vis_of rfl) (pav_cons (FP.pv (fp_lst (pav_cons pv_int (pav_cons pv_int (pav_cons pv_int pav_nil))))) pav_nil)) hfs0)) eav_nil)))) (PGV.pgf (pgv_tup rfl (pgsv_cons (pgv_name (i := 3) sc__law_season.nd rfl (loc_of rfl)) (pgsv_cons (pgv_name (i := 4) sc__law_season.nd rfl (loc_of rfl)) pgsv_nil)))) rfl)
      (ssv_cons (sv_par2 (i := 5) (j := 6) rfl sc__law_season.nd rfl rfl (by decide) rfl rfl (EV.ef (EF.ev (ef_lc (own := [("side", 8)]) rfl sc__law_season.nd (ip_range1 rfl T.b_range (pav_cons (pv_varZ (i := 1) rfl (vis_of rfl)) pav_nil)) (blkOk_by (by rfl)) (fun _ _ _ _ _ => (pgv_name (i := 8) sc__law_season.nd rfl (loc_of rfl))) (fun _ _ _ _ _ => ptsE_nil) (fun _ _ _ _ _ => (ef_callIO c__law_draw.ok (hr.mono (by decide)) rfl c__law_draw.g c__law_draw.q c__law_draw.b (qa_here (j := 0) rfl (vis_of rfl) (pav_cons (pv_varZ (i := 4) rfl (vis_of rfl)) pav_nil)) hfs0)) rfl))) (FP.ef (fp_lc (own := [("side", 8)]) rfl sc__law_season.nd (ip_range1 rfl T.b_range (pav_cons (pv_varZ (i := 1) rfl (vis_of rfl)) pav_nil)) (blkOk_by (by rfl)) (fun _ _ _ _ _ => (pgv_name (i := 8) sc__law_season.nd rfl (loc_of rfl))) (fun _ _ _ _ _ => ptsv_nil) (fun _ _ _ _ _ => (fp_bin op_rep of_rep (FP.pb (fp_lst (pav_cons pv_int pav_nil))) (pv_varZ (i := 1) rfl (vis_of rfl)))) rfl)) rfl rfl (by rfl))
      (ssv_cons (sv_for PassesOwn.never rfl (IPV.iev (ip_range1 rfl T.b_range (pav_cons (pv_varZ (i := 1) rfl (vis_of rfl)) pav_nil))) (pgv_name (i := 2) sc__law_season.nd rfl (loc_of rfl))
      (ssv_one (sv_for PassesOwn.never rfl (IPV.iev (ip_range2 rfl T.b_range (pav_cons (pv_bin op_add od_addI (pv_varZ (i := 2) rfl (vis_of rfl)) pv_int) (pav_cons (pv_varZ (i := 1) rfl (vis_of rfl)) pav_nil)))) (pgv_name (i := 7) sc__law_season.nd rfl (loc_of rfl))
      (ssv_cons (sv_asg (EV.ef (ev_if (pt_cmpE (op_eqD hr.units) od_eq (EF.ev (ef_callIO c__law_draw.ok (hr.mono (by decide)) rfl c__law_draw.g c__law_draw.q c__law_draw.b (qa_here (j := 0) rfl (vis_of rfl) (pav_cons (pv_varZ (i := 3) rfl (vis_of rfl)) pav_nil)) hfs0)) (PV.ev pv_int) (nomark _)) (EF.ev (ef_callIO c__law_draw.ok (hr.mono (by decide)) rfl c__law_draw.g c__law_draw.q c__law_draw.b (qa_here (j := 0) rfl (vis_of rfl) (pav_cons pv_int pav_nil)) hfs0)) (PV.ev pv_int))) (pgf_set (s := .z) (lv_ix (lv_var (i := 6) rfl (vis_of rfl)) (pv_varZ (i := 2) rfl (vis_of rfl)) (by intro _ _; rfl)) (pv_varZ (i := 7) rfl (vis_of rfl))) rfl)
      (ssv_one (sv_asg (FP.ef (PV.fp (PV.bor (pv_ix ix_seq (od_ix (by rfl)) (pv_ix ix_seq (od_ix (by rfl)) (pv_varZ (i := 6) rfl (vis_of rfl)) (pv_varZ (i := 2) rfl (vis_of rfl)) (by intro _ _; rfl)) (pv_varZ (i := 7) rfl (vis_of rfl)) (by intro _ _; rfl))))) (pgf_set (s := .z) (lv_ix (lv_var (i := 6) rfl (vis_of rfl)) (pv_varZ (i := 7) rfl (vis_of rfl)) (by intro _ _; rfl)) (pv_varZ (i := 2) rfl (vis_of rfl))) rfl))) rfl)) rfl)
      (ssv_one (sv_frz (i := 6) (sv_ret (FP.ef (PV.fp (pv_tup (pav_cons (pv_tupC T.b_tuple rfl (pv_varZ (i := 5) rfl (vis_of rfl)) rfl) (pav_cons (pv_tupC T.b_tuple rfl (FP.pv (fp_lc (own := [("row", 9)]) rfl sc__law_season.nd (ip_seq (pv_varZ (i := 6) rfl (vis_of rfl))) (blkOk_by (by rfl)) (fun _ _ _ _ _ => (pgv_name (i := 9) sc__law_season.nd rfl (loc_of rfl))) (fun _ _ _ _ _ => ptsv_nil) (fun _ _ _ _ _ => (PV.fp (pv_tupC T.b_tuple rfl (pv_varZ (i := 9) rfl (vis_of rfl)) rfl))) rfl)) rfl) pav_nil))))))))))))
    : SSV (BCx P w K mg base _ _ st__law_season f cdv A outer s H E) .z [0] (defBody st__law_season) (fb__law_season))) (fun _ _ _ h => h)
/-! ### _law_lots -/
abbrev st__law_lots : Stmt := top 30
theorem sc__law_lots : FnScope ["wins", "left", "lot", "size", "found", "low", "rest", "side", "other"] ["wins", "left"] (defScope st__law_lots) := ⟨rfl, rfl, rfl, by decide +kernel, rfl, by decide +kernel, by decide +kernel⟩
def fb__law_lots_c1 : Sto → Option D :=
  vLc [7] (vRng1 (aCons (vVarZ 3) aNil)) (gN 7) (vB (v2 dEq (v2 dAnd (v2 dShr (vVarZ 2) (vVarZ 7)) (vC (.int 1))) (vC (.int 1)))) (vVarZ 7)
def fb__law_lots_c2 : Sto → Option D :=
  vLc [8] (vRng1 (aCons (vVarZ 3) aNil)) (gN 8) (vB (v2 dEq (v2 dAnd (v2 dShr (vVarZ 6) (vVarZ 8)) (vC (.int 1))) (vC (.int 1)))) (v2 dIx (v2 dIx (vVarZ 1) (vVarZ 5)) (vVarZ 8))
def fb__law_lots_b1 : Sto → Option Fl :=
  (sSeq (sSet 5 .z (up (v2 dIx fb__law_lots_c1 (vC (.int 0)))))
      (sSeq (sSet 6 .z (up (v2 dSub (vVarZ 2) (v2 dShl (vC (.int 1)) (vVarZ 5)))))
      (sApp 4 .z (lVar 4) (up (v2 dAddI (v2 dAddI (v2 dIx (vVarS 4) (vVarZ 6)) (v2 dIx (vVarZ 0) (vVarZ 5))) (v1 dSumA fb__law_lots_c2))))))
def fb__law_lots : Sto → Option Fl :=
  (sSeq (sPar2 3 4 .z (.seq .z) (up (v1 dLen (vVarZ 0))) (up (vLst (aCons (vC (.int 0)) aNil))))
      (sSeq (sFor (upI (vRng2 (aCons (vC (.int 1)) (aCons (v2 dShl (vC (.int 1)) (vVarZ 3)) aNil)))) (gN 2) fb__law_lots_b1)
      (sRet (vFrz 4))))
def m__law_lots : List D → Option D := fun ds => endP (fb__law_lots (argZ ds ++ List.replicate 7 none))
theorem ok__law_lots {P : Program} {w : World} {K : PySem.W.Frag} {mg : Str → Option Value} {base : Heap} {C_Season C_Shares : Addr} {f : Addr} {fd : FuncData} (F : Fun K "_law_lots" "_law_lots" st__law_lots f fd) (T : Txt K mg C_Season C_Shares)  : FnOk P w K mg base CX0 1 f fd ["wins", "left"] (spP K 2 .z m__law_lots) :=
  fn_pure (fb := fb__law_lots) F sc__law_lots (fun cdv A outer s H E hr => ((ssv_cons (sv_par2 (i := 3) (j := 4) rfl sc__law_lots.nd rfl rfl (by decide) rfl rfl (FP.ef (PV.fp (pv_len T.b_len (pv_varZ (i := 0) rfl (vis_of rfl)) rfl))) (FP.ef (fp_lst (pav_cons pv_int pav_nil))) rfl rfl (by rfl))
      (ssv_cons (sv_for PassesOwn.never rfl (IPV.iev (ip_range2 rfl T.b_range (pav_cons pv_int (pav_cons (pv_bin op_shl od_shl pv_int (pv_varZ (i := 3) rfl (vis_of rfl))) pav_nil)))) (pgv_name (i := 2) sc__law_lots.nd rfl (loc_of rfl))
      (ssv_cons (sv_set (i := 5) sc__law_lots.nd rfl (loc_of rfl) (FP.ef (PV.fp (pv_ix ix_seq (od_ix (by rfl)) (FP.pv (fp_lc (own := [("side", 7)]) rfl sc__law_lots.nd (ip_range1 rfl T.b_range (pav_cons (pv_varZ (i := 3) rfl (vis_of rfl)) pav_nil)) (blkOk_by (by rfl)) (fun _ _ _ _ _ => (pgv_name (i := 7) sc__law_lots.nd rfl (loc_of rfl))) (fun _ _ _ _ _ => (ptsv_one (pt_cmpV (op_eqD hr.units) od_eq (pv_bin op_and od_and (pv_bin op_shr od_shr (pv_varZ (i := 2) rfl (vis_of rfl)) (pv_varZ (i := 7) rfl (vis_of rfl))) pv_int) pv_int (nomark _)))) (fun _ _ _ _ _ => (PV.fp (pv_varZ (i := 7) rfl (vis_of rfl)))) rfl)) pv_int (by intro _ _; rfl)))) rfl)
      (ssv_cons (sv_set (i := 6) sc__law_lots.nd rfl (loc_of rfl) (FP.ef (PV.fp (pv_bin op_sub od_sub (pv_varZ (i := 2) rfl (vis_of rfl)) (pv_bin op_shl od_shl pv_int (pv_varZ (i := 5) rfl (vis_of rfl)))))) rfl)
      (ssv_one (sv_append (lv_var (i := 4) rfl (vis_of rfl)) (FP.ef (PV.fp (pv_bin op_add od_addI (pv_bin op_add od_addI (pv_ix ix_seq (od_ix (by rfl)) (pv_varS (i := 4) rfl (vis_of rfl)) (pv_varZ (i := 6) rfl (vis_of rfl)) (by intro _ _; rfl)) (pv_ix ix_seq (od_ix (by rfl)) (pv_varZ (i := 0) rfl (vis_of rfl)) (pv_varZ (i := 5) rfl (vis_of rfl)) (by intro _ _; rfl))) (pv_sumA T.b_sum rfl (FP.pv (fp_lc (own := [("other", 8)]) rfl sc__law_lots.nd (ip_range1 rfl T.b_range (pav_cons (pv_varZ (i := 3) rfl (vis_of rfl)) pav_nil)) (blkOk_by (by rfl)) (fun _ _ _ _ _ => (pgv_name (i := 8) sc__law_lots.nd rfl (loc_of rfl))) (fun _ _ _ _ _ => (ptsv_one (pt_cmpV (op_eqD hr.units) od_eq (pv_bin op_and od_and (pv_bin op_shr od_shr (pv_varZ (i := 6) rfl (vis_of rfl)) (pv_varZ (i := 8) rfl (vis_of rfl))) pv_int) pv_int (nomark _)))) (fun _ _ _ _ _ => (PV.fp (pv_ix ix_seq (od_ix (by rfl)) (pv_ix ix_seq (od_ix (by rfl)) (pv_varZ (i := 1) rfl (vis_of rfl)) (pv_varZ (i := 5) rfl (vis_of rfl)) (by intro _ _; rfl)) (pv_varZ (i := 8) rfl (vis_of rfl)) (by intro _ _; rfl)))) rfl)) rfl)))) rfl)))) rfl)
      (ssv_one (sv_ret (EV.ef (ev_frz (i := 4) rfl (vis_of rfl)))))))
    : SSV (BCx P w K mg base _ _ st__law_lots f cdv A outer s H E) .z [] (defBody st__law_lots) (fb__law_lots))) (fun _ _ _ h => h)
/-! ### _law_can -/
abbrev st__law_can : Stmt := top 31
theorem sc__law_can : FnScope ["lots", "size", "side", "most", "lot", "one"] ["lots", "size", "side", "most"] (defScope st__law_can) := ⟨rfl, rfl, rfl, by decide +kernel, rfl, by decide +kernel, by decide +kernel⟩
def fb__law_can_c1 : Sto → Option D :=
  vLc [5] (vRng1 (aCons (vVarZ 1) aNil)) (gN 5) (vB (v2 dEq (v2 dAnd (v2 dShr (vVarZ 4) (vVarZ 5)) (vC (.int 1))) (vC (.int 1)))) (vVarZ 5)
def fb__law_can_b1 : Sto → Option Fl :=
  (sIf (upT (tAndF (vB (v2 dEq (v2 dAnd (v2 dShr (vVarZ 4) (vVarZ 2)) (vC (.int 1))) (vC (.int 0)))) (vB (v2 dGt (v2 dIx (vVarZ 0) (vVarZ 4)) (v2 dMulI (vVarZ 3) (v1 dLen fb__law_can_c1))))))
      (sRet (up (vC (.bl false))))
      sNext)
def fb__law_can : Sto → Option Fl :=
  (sSeq (sFor (upI (vRng2 (aCons (vC (.int 1)) (aCons (v2 dShl (vC (.int 1)) (vVarZ 1)) aNil)))) (gN 4) fb__law_can_b1)
      (sRet (up (vC (.bl true)))))
def m__law_can : List D → Option D := fun ds => endP (fb__law_can (argZ ds ++ List.replicate 2 none))
theorem ok__law_can {P : Program} {w : World} {K : PySem.W.Frag} {mg : Str → Option Value} {base : Heap} {C_Season C_Shares : Addr} {f : Addr} {fd : FuncData} (F : Fun K "_law_can" "_law_can" st__law_can f fd) (T : Txt K mg C_Season C_Shares)  : FnOk P w K mg base CX0 1 f fd ["lots", "size", "side", "most"] (spP K 4 .z m__law_can) :=
  fn_pure (fb := fb__law_can) F sc__law_can (fun cdv A outer s H E hr => ((ssv_cons (sv_for PassesOwn.never rfl (IPV.iev (ip_range2 rfl T.b_range (pav_cons pv_int (pav_cons (pv_bin op_shl od_shl pv_int (pv_varZ (i := 1) rfl (vis_of rfl))) pav_nil)))) (pgv_name (i := 4) sc__law_can.nd rfl (loc_of rfl))
      (ssv_one (sv_if (PTV.etv (PWV.pt (pw_andV (pt_cmpV (op_eqD hr.units) od_eq (pv_bin op_and od_and (pv_bin op_shr od_shr (pv_varZ (i := 4) rfl (vis_of rfl)) (pv_varZ (i := 2) rfl (vis_of rfl))) pv_int) pv_int (nomark _)) (pw_and1V (pt_cmpV op_gt od_gt (pv_ix ix_seq (od_ix (by rfl)) (pv_varZ (i := 0) rfl (vis_of rfl)) (pv_varZ (i := 4) rfl (vis_of rfl)) (by intro _ _; rfl)) (pv_bin op_mul od_mulI (pv_varZ (i := 3) rfl (vis_of rfl)) (pv_len T.b_len (FP.pv (fp_lc (own := [("one", 5)]) rfl sc__law_can.nd (ip_range1 rfl T.b_range (pav_cons (pv_varZ (i := 1) rfl (vis_of rfl)) pav_nil)) (blkOk_by (by rfl)) (fun _ _ _ _ _ => (pgv_name (i := 5) sc__law_can.nd rfl (loc_of rfl))) (fun _ _ _ _ _ => (ptsv_one (pt_cmpV (op_eqD hr.units) od_eq (pv_bin op_and od_and (pv_bin op_shr od_shr (pv_varZ (i := 4) rfl (vis_of rfl)) (pv_varZ (i := 5) rfl (vis_of rfl))) pv_int) pv_int (nomark _)))) (fun _ _ _ _ _ => (PV.fp (pv_varZ (i := 5) rfl (vis_of rfl)))) rfl)) rfl)) (nomark _))))))
      (ssv_one (sv_ret (FP.ef (PV.fp pv_bl))))
      ssv_nil)) rfl)
      (ssv_one (sv_ret (FP.ef (PV.fp pv_bl)))))
    : SSV (BCx P w K mg base _ _ st__law_can f cdv A outer s H E) .z [] (defBody st__law_can) (fb__law_can))) (fun _ _ _ h => h)
/-! ### _law_both -/
abbrev st__law_both : Stmt := top 32
theorem sc__law_both : FnScope ["size", "found", "one", "other"] ["size"] (defScope st__law_both) := ⟨rfl, rfl, rfl, by decide +kernel, rfl, by decide +kernel, by decide +kernel⟩
def fb__law_both_c1 : Sto → Option D :=
  vLc [3] (vRng1 (aCons (vVarZ 0) aNil)) (gN 3) (fun _ => some true) (vTup (aCons (vVarZ 2) (aCons (vVarZ 3) aNil)))
def fb__law_both_b1 : Sto → Option Fl :=
  (sSet 1 .z (up (v2 dCatL (vVarZ 1) fb__law_both_c1)))
def fb__law_both : Sto → Option Fl :=
  (sSeq (sSet 1 .z (up (vLst aNil)))
      (sSeq (sFor (upI (vRng1 (aCons (vVarZ 0) aNil))) (gN 2) fb__law_both_b1)
      (sRet (up (vVarZ 1)))))
def m__law_both : List D → Option D := fun ds => endP (fb__law_both (argZ ds ++ List.replicate 3 none))
theorem ok__law_both {P : Program} {w : World} {K : PySem.W.Frag} {mg : Str → Option Value} {base : Heap} {C_Season C_Shares : Addr} {f : Addr} {fd : FuncData} (F : Fun K "_law_both" "_law_both" st__law_both f fd) (T : Txt K mg C_Season C_Shares)  : FnOk P w K mg base CX0 1 f fd ["size"] (spP K 1 .z m__law_both) :=
  fn_pure (fb := fb__law_both) F sc__law_both (fun cdv A outer s H E hr => ((ssv_cons (sv_set (i := 1) sc__law_both.nd rfl (loc_of rfl) (FP.ef (PV.fp (FP.pv (fp_lst pav_nil)))) rfl)
      (ssv_cons (sv_for PassesOwn.never rfl (IPV.iev (ip_range1 rfl T.b_range (pav_cons (pv_varZ (i := 0) rfl (vis_of rfl)) pav_nil))) (pgv_name (i := 2) sc__law_both.nd rfl (loc_of rfl))
      (ssv_one (sv_set (i := 1) sc__law_both.nd rfl (loc_of rfl) (FP.ef (PV.fp (FP.pv (fp_bin op_cat (of_cat rfl rfl) (pv_varZ (i := 1) rfl (vis_of rfl)) (FP.pv (fp_lc (own := [("other", 3)]) rfl sc__law_both.nd (ip_range1 rfl T.b_range (pav_cons (pv_varZ (i := 0) rfl (vis_of rfl)) pav_nil)) (blkOk_by (by rfl)) (fun _ _ _ _ _ => (pgv_name (i := 3) sc__law_both.nd rfl (loc_of rfl))) (fun _ _ _ _ _ => ptsv_nil) (fun _ _ _ _ _ => (PV.fp (pv_tup (pav_cons (pv_varZ (i := 2) rfl (vis_of rfl)) (pav_cons (pv_varZ (i := 3) rfl (vis_of rfl)) pav_nil))))) rfl)))))) rfl)) rfl)
      (ssv_one (sv_ret (FP.ef (PV.fp (pv_varZ (i := 1) rfl (vis_of rfl))))))))
    : SSV (BCx P w K mg base _ _ st__law_both f cdv A outer s H E) .z [] (defBody st__law_both) (fb__law_both))) (fun _ _ _ h => h)
/-! ### _law_paper -/
abbrev st__law_paper : Stmt := top 33
theorem sc__law_paper : FnScope ["wins", "left", "side", "paper", "size", "inner", "rows", "pairs", "ends", "lot", "most", "one", "other", "row"] ["wins", "left", "side", "paper"] (defScope st__law_paper) := ⟨rfl, rfl, rfl, by decide +kernel, rfl, by decide +kernel, by decide +kernel⟩
def fb__law_paper_c1 : Sto → Option D :=
  vLc [13] (vItems (vVarZ 6)) (gN 13) (tOrF (tNotF (vB (vIsi "tuple" (vVarZ 13)))) (vB (v2 dNe (v1 dLen (vVarZ 13)) (vVarZ 4)))) (vVarZ 13)
def fb__law_paper_c2 : Sto → Option D :=
  vLc [11, 12] (vItems (vVarZ 7)) (gTupF 2 (gsCons (gN 11) (gsCons (gN 12) gsNil))) (tOrF (vB (v2 dLt (v2 dIx (v2 dIx (vVarZ 6) (vVarZ 11)) (vVarZ 12)) (vC (.int 0)))) (vB (v2 dNe (v2 dAddI (v2 dIx (v2 dIx (vVarZ 6) (vVarZ 11)) (vVarZ 12)) (v2 dIx (v2 dIx (vVarZ 6) (vVarZ 12)) (vVarZ 11))) (v2 dIx (v2 dIx (vVarZ 1) (vVarZ 11)) (vVarZ 12))))) (vC (.int 1))
def fb__law_paper_c3 : Sto → Option D :=
  vLc [11] (vRng1 (aCons (vVarZ 4) aNil)) (gN 11) (fun _ => some true) (v2 dAddI (v2 dIx (vVarZ 0) (vVarZ 11)) (v1 dSumA (v2 dIx (vVarZ 6) (vVarZ 11))))
def fb__law_paper_c4 : Sto → Option D :=
  vLc [11, 12] (vItems (vCall (n := 1) m__law_both (aCons (vVarZ 4) aNil))) (gTupF 2 (gsCons (gN 11) (gsCons (gN 12) gsNil))) (tAndF (vB (v2 dLt (vVarZ 11) (vVarZ 12))) (tAndF (vB (v2 dIn (vVarZ 11) (vVarZ 9))) (vB (v2 dIn (vVarZ 12) (vVarZ 9))))) (v2 dIx (v2 dIx (vVarZ 1) (vVarZ 11)) (vVarZ 12))
def fb__law_paper_c5 : Sto → Option D :=
  vLc [11] (vItems (vVarZ 9)) (gN 11) (fun _ => some true) (v2 dIx (vVarZ 0) (vVarZ 11))
def fb__law_paper : Sto → Option Fl :=
  (sSeq (sSet 4 .z (up (v1 dLen (vVarZ 0))))
      (sSeq (sIf (upT (vB (v2 dEq (v2 dIx (vVarZ 3) (vC (.int 0))) (vC (.str "won")))))
      (sSeq (sSet 6 .z (up (v2 dIx (vVarZ 3) (vC (.int 1)))))
      (sSeq (sIf (upT (tOrF (tNotF (vB (vIsi "tuple" (vVarZ 6)))) (tOrF (vB (v2 dNe (v1 dLen (vVarZ 6)) (vVarZ 4))) (vB (v2 dGt (v1 dLen fb__law_paper_c1) (vC (.int 0)))))))
      (sRet (up (vC (.bl false))))
      sNext)
      (sSeq (sSet 7 .z (up (vCall (n := 1) m__law_both (aCons (vVarZ 4) aNil))))
      (sSeq (sIf (upT (vB (v2 dGt (v1 dLen fb__law_paper_c2) (vC (.int 0)))))
      (sRet (up (vC (.bl false))))
      sNext)
      (sSeq (sSet 8 (.seq .z) (up fb__law_paper_c3))
      (sRet (up (v2 dEq (v2 dIx (vVarS 8) (vVarZ 2)) (v1 dMax (vVarS 8))))))))))
      sNext)
      (sSeq (sAsg (up (vTup (aCons (v2 dIx (vVarZ 3) (vC (.int 1))) (aCons (v2 dAddI (v2 dIx (vVarZ 0) (vVarZ 2)) (v1 dSumA (v2 dIx (vVarZ 1) (vVarZ 2)))) aNil)))) (gTupF 2 (gsCons (gN 9) (gsCons (gN 10) gsNil))))
      (sSeq (sIf (upT (tOrF (tNotF (vB (vIsi "tuple" (vVarZ 9)))) (tOrF (vB (v2 dNe (v1 dList (vVarZ 9)) (v1 dSortedSetA (vVarZ 9)))) (tOrF (vB (v2 dIn (vVarZ 2) (vVarZ 9))) (vB (v2 dEq (v1 dLen (vVarZ 9)) (vC (.int 0))))))))
      (sRet (up (vC (.bl false))))
      sNext)
      (sSeq (sSet 5 .z (up (v1 dSumA fb__law_paper_c4)))
      (sRet (up (v2 dGt (v2 dAddI (v1 dSumA fb__law_paper_c5) (vVarZ 5)) (v2 dMulI (vVarZ 10) (v1 dLen (vVarZ 9)))))))))))
def m__law_paper : List D → Option D := fun ds => endP (fb__law_paper (argZ ds ++ List.replicate 10 none))
theorem ok__law_paper {P : Program} {w : World} {K : PySem.W.Frag} {mg : Str → Option Value} {base : Heap} {C_Season C_Shares : Addr} {f : Addr} {fd : FuncData} (F : Fun K "_law_paper" "_law_paper" st__law_paper f fd) (T : Txt K mg C_Season C_Shares) (c__law_both : Fc P w K mg base "_law_both" ["size"] 1 (spP K 1 .z m__law_both)) : FnOk P w K mg base CX0 2 f fd ["wins", "left", "side", "paper"] (spP K 4 .z m__law_paper) :=
  fn_pure (fb := fb__law_paper) F sc__law_paper (fun cdv A outer s H E hr => ((ssv_cons (sv_set (i := 4) sc__law_paper.nd rfl (loc_of rfl) (FP.ef (PV.fp (pv_len T.b_len (pv_varZ (i := 0) rfl (vis_of rfl)) rfl))) rfl)
      (ssv_cons (sv_if (PTV.etv (pt_cmpV (op_eqD hr.units) od_eq (pv_ix ix_seq (od_ix (by rfl)) (pv_varZ (i := 3) rfl (vis_of rfl)) pv_int (by intro _ _; rfl)) pv_str (nomark _)))
      (ssv_cons (sv_set (i := 6) sc__law_paper.nd rfl (loc_of rfl) (FP.ef (PV.fp (pv_ix ix_seq (od_ix (by rfl)) (pv_varZ (i := 3) rfl (vis_of rfl)) pv_int (by intro _ _; rfl)))) rfl)
      (ssv_cons (sv_if (PTV.etv (PWV.pt (pw_orV (pt_notV (pt_valV (pv_isiT kit_tuple bt_tuple T.b_isinstance T.b_tuple (pv_varZ (i := 6) rfl (vis_of rfl)) rfl rfl))) (pw_orV (pt_cmpV (op_neD hr.units) od_ne (pv_len T.b_len (pv_varZ (i := 6) rfl (vis_of rfl)) rfl) (pv_varZ (i := 4) rfl (vis_of rfl)) (nomark _)) (pw_or1V (pt_cmpV op_gt od_gt (pv_len T.b_len (FP.pv (fp_lc (own := [("row", 13)]) rfl sc__law_paper.nd (ip_seq (pv_varZ (i := 6) rfl (vis_of rfl))) (blkOk_by (by rfl)) (fun _ _ _ _ _ => (pgv_name (i := 13) sc__law_paper.nd rfl (loc_of rfl))) (fun _ _ _ _ _ => (ptsv_one (PWV.pt (pw_orV (pt_notV (pt_valV (pv_isiT kit_tuple bt_tuple T.b_isinstance T.b_tuple (pv_varZ (i := 13) rfl (vis_of rfl)) rfl rfl))) (pw_or1V (pt_cmpV (op_neD hr.units) od_ne (pv_len T.b_len (pv_varZ (i := 13) rfl (vis_of rfl)) rfl) (pv_varZ (i := 4) rfl (vis_of rfl)) (nomark _))))))) (fun _ _ _ _ _ => (PV.fp (pv_varZ (i := 13) rfl (vis_of rfl)))) rfl)) rfl) pv_int (nomark _)))))))
      (ssv_one (sv_ret (FP.ef (PV.fp pv_bl))))
      ssv_nil)
      (ssv_cons (sv_set (i := 7) sc__law_paper.nd rfl (loc_of rfl) (FP.ef (fp_call c__law_both.ok (hr.mono (by decide)) rfl c__law_both.g c__law_both.q c__law_both.b (pav_cons (pv_varZ (i := 4) rfl (vis_of rfl)) pav_nil))) rfl)
      (ssv_cons (sv_if (PTV.etv (pt_cmpV op_gt od_gt (pv_len T.b_len (FP.pv (fp_lc (own := [("one", 11), ("other", 12)]) rfl sc__law_paper.nd (ip_seq (pv_varZ (i := 7) rfl (vis_of rfl))) (blkOk_by (by rfl)) (fun _ _ _ _ _ => (pgv_tup rfl (pgsv_cons (pgv_name (i := 11) sc__law_paper.nd rfl (loc_of rfl)) (pgsv_cons (pgv_name (i := 12) sc__law_paper.nd rfl (loc_of rfl)) pgsv_nil)))) (fun _ _ _ _ _ => (ptsv_one (PWV.pt (pw_orV (pt_cmpV op_lt od_lt (pv_ix ix_seq (od_ix (by rfl)) (pv_ix ix_seq (od_ix (by rfl)) (pv_varZ (i := 6) rfl (vis_of rfl)) (pv_varZ (i := 11) rfl (vis_of rfl)) (by intro _ _; rfl)) (pv_varZ (i := 12) rfl (vis_of rfl)) (by intro _ _; rfl)) pv_int (nomark _)) (pw_or1V (pt_cmpV (op_neD hr.units) od_ne (pv_bin op_add od_addI (pv_ix ix_seq (od_ix (by rfl)) (pv_ix ix_seq (od_ix (by rfl)) (pv_varZ (i := 6) rfl (vis_of rfl)) (pv_varZ (i := 11) rfl (vis_of rfl)) (by intro _ _; rfl)) (pv_varZ (i := 12) rfl (vis_of rfl)) (by intro _ _; rfl)) (pv_ix ix_seq (od_ix (by rfl)) (pv_ix ix_seq (od_ix (by rfl)) (pv_varZ (i := 6) rfl (vis_of rfl)) (pv_varZ (i := 12) rfl (vis_of rfl)) (by intro _ _; rfl)) (pv_varZ (i := 11) rfl (vis_of rfl)) (by intro _ _; rfl))) (pv_ix ix_seq (od_ix (by rfl)) (pv_ix ix_seq (od_ix (by rfl)) (pv_varZ (i := 1) rfl (vis_of rfl)) (pv_varZ (i := 11) rfl (vis_of rfl)) (by intro _ _; rfl)) (pv_varZ (i := 12) rfl (vis_of rfl)) (by intro _ _; rfl)) (nomark _))))))) (fun _ _ _ _ _ => (PV.fp pv_int)) rfl)) rfl) pv_int (nomark _)))
      (ssv_one (sv_ret (FP.ef (PV.fp pv_bl))))
      ssv_nil)
      (ssv_cons (sv_setLc (i := 8) (own := [("one", 11)]) rfl sc__law_paper.nd rfl rfl (sw_true rfl rfl rfl rfl) (ip_range1 rfl T.b_range (pav_cons (pv_varZ (i := 4) rfl (vis_of rfl)) pav_nil)) (blkOk_by (by rfl)) (fun _ _ _ _ _ => (pgv_name (i := 11) sc__law_paper.nd rfl (loc_of rfl))) (fun _ _ _ _ _ => ptsv_nil) (fun _ _ _ _ _ => (PV.fp (pv_bin op_add od_addI (pv_ix ix_seq (od_ix (by rfl)) (pv_varZ (i := 0) rfl (vis_of rfl)) (pv_varZ (i := 11) rfl (vis_of rfl)) (by intro _ _; rfl)) (pv_sumA T.b_sum rfl (pv_ix ix_seq (od_ix (by rfl)) (pv_varZ (i := 6) rfl (vis_of rfl)) (pv_varZ (i := 11) rfl (vis_of rfl)) (by intro _ _; rfl)) rfl)))) rfl rfl)
      (ssv_one (sv_ret (FP.ef (PV.fp (pv_cmp (op_eqD hr.units) od_eq (pv_ix ix_seq (od_ix (by rfl)) (pv_varS (i := 8) rfl (vis_of rfl)) (pv_varZ (i := 2) rfl (vis_of rfl)) (by intro _ _; rfl)) (pv_max T.b_max rfl (pv_varS (i := 8) rfl (vis_of rfl)) rfl) (nomark _)))))))))))
      ssv_nil)
      (ssv_cons (sv_asg (FP.ef (PV.fp (pv_tup (pav_cons (pv_ix ix_seq (od_ix (by rfl)) (pv_varZ (i := 3) rfl (vis_of rfl)) pv_int (by intro _ _; rfl)) (pav_cons (pv_bin op_add od_addI (pv_ix ix_seq (od_ix (by rfl)) (pv_varZ (i := 0) rfl (vis_of rfl)) (pv_varZ (i := 2) rfl (vis_of rfl)) (by intro _ _; rfl)) (pv_sumA T.b_sum rfl (pv_ix ix_seq (od_ix (by rfl)) (pv_varZ (i := 1) rfl (vis_of rfl)) (pv_varZ (i := 2) rfl (vis_of rfl)) (by intro _ _; rfl)) rfl)) pav_nil))))) (PGV.pgf (pgv_tup rfl (pgsv_cons (pgv_name (i := 9) sc__law_paper.nd rfl (loc_of rfl)) (pgsv_cons (pgv_name (i := 10) sc__law_paper.nd rfl (loc_of rfl)) pgsv_nil)))) rfl)
      (ssv_cons (sv_if (PTV.etv (PWV.pt (pw_orV (pt_notV (pt_valV (pv_isiT kit_tuple bt_tuple T.b_isinstance T.b_tuple (pv_varZ (i := 9) rfl (vis_of rfl)) rfl rfl))) (pw_orV (pt_cmpV (op_neD hr.units) od_ne (FP.pv (fp_lstC T.b_list rfl (pv_varZ (i := 9) rfl (vis_of rfl)) rfl)) (FP.pv (fp_ssetA T.b_sorted T.b_set rfl (pv_varZ (i := 9) rfl (vis_of rfl)) rfl rfl)) (nomark _)) (pw_orV (pt_cmpV op_in_seq od_in (pv_varZ (i := 2) rfl (vis_of rfl)) (pv_varZ (i := 9) rfl (vis_of rfl)) (by with_unfolding_all rfl)) (pw_or1V (pt_cmpV (op_eqD hr.units) od_eq (pv_len T.b_len (pv_varZ (i := 9) rfl (vis_of rfl)) rfl) pv_int (nomark _))))))))
      (ssv_one (sv_ret (FP.ef (PV.fp pv_bl))))
      ssv_nil)
      (ssv_cons (sv_set (i := 5) sc__law_paper.nd rfl (loc_of rfl) (FP.ef (PV.fp (pv_sumA T.b_sum rfl (FP.pv (fp_lc (own := [("one", 11), ("other", 12)]) rfl sc__law_paper.nd (ip_seq (FP.pv (fp_call c__law_both.ok (hr.mono (by decide)) rfl c__law_both.g c__law_both.q c__law_both.b (pav_cons (pv_varZ (i := 4) rfl (vis_of rfl)) pav_nil)))) (blkOk_by (by rfl)) (fun _ _ _ _ _ => (pgv_tup rfl (pgsv_cons (pgv_name (i := 11) sc__law_paper.nd rfl (loc_of rfl)) (pgsv_cons (pgv_name (i := 12) sc__law_paper.nd rfl (loc_of rfl)) pgsv_nil)))) (fun _ _ _ _ _ => (ptsv_one (PWV.pt (pw_andV (pt_cmpV op_lt od_lt (pv_varZ (i := 11) rfl (vis_of rfl)) (pv_varZ (i := 12) rfl (vis_of rfl)) (nomark _)) (pw_andV (pt_cmpV op_in_seq od_in (pv_varZ (i := 11) rfl (vis_of rfl)) (pv_varZ (i := 9) rfl (vis_of rfl)) (by with_unfolding_all rfl)) (pw_and1V (pt_cmpV op_in_seq od_in (pv_varZ (i := 12) rfl (vis_of rfl)) (pv_varZ (i := 9) rfl (vis_of rfl)) (by with_unfolding_all rfl)))))))) (fun _ _ _ _ _ => (PV.fp (pv_ix ix_seq (od_ix (by rfl)) (pv_ix ix_seq (od_ix (by rfl)) (pv_varZ (i := 1) rfl (vis_of rfl)) (pv_varZ (i := 11) rfl (vis_of rfl)) (by intro _ _; rfl)) (pv_varZ (i := 12) rfl (vis_of rfl)) (by intro _ _; rfl)))) rfl)) rfl))) rfl)
      (ssv_one (sv_ret (FP.ef (PV.fp (pv_cmp op_gt od_gt (pv_bin op_add od_addI (pv_sumA T.b_sum rfl (FP.pv (fp_lc (own := [("one", 11)]) rfl sc__law_paper.nd (ip_seq (pv_varZ (i := 9) rfl (vis_of rfl))) (blkOk_by (by rfl)) (fun _ _ _ _ _ => (pgv_name (i := 11) sc__law_paper.nd rfl (loc_of rfl))) (fun _ _ _ _ _ => ptsv_nil) (fun _ _ _ _ _ => (PV.fp (pv_ix ix_seq (od_ix (by rfl)) (pv_varZ (i := 0) rfl (vis_of rfl)) (pv_varZ (i := 11) rfl (vis_of rfl)) (by intro _ _; rfl)))) rfl)) rfl) (pv_varZ (i := 5) rfl (vis_of rfl))) (pv_bin op_mul od_mulI (pv_varZ (i := 10) rfl (vis_of rfl)) (pv_len T.b_len (pv_varZ (i := 9) rfl (vis_of rfl)) rfl)) (nomark _)))))))))))
    : SSV (BCx P w K mg base _ _ st__law_paper f cdv A outer s H E) .z [] (defBody st__law_paper) (fb__law_paper))) (fun _ _ _ h => h)
/-! ### _law_surely -/
abbrev st__law_surely : Stmt := top 34
theorem sc__law_surely : FnScope ["wins", "left", "side", "one"] ["wins", "left", "side"] (defScope st__law_surely) := ⟨rfl, rfl, rfl, by decide +kernel, rfl, by decide +kernel, by decide +kernel⟩
def fb__law_surely_c1 : Sto → Option D :=
  vLc [3] (vRng1 (aCons (v1 dLen (vVarZ 0)) aNil)) (gN 3) (tAndF (vB (v2 dNe (vVarZ 3) (vVarZ 2))) (vB (v2 dGt (v2 dAddI (v2 dIx (vVarZ 0) (vVarZ 3)) (v1 dSumA (v2 dIx (vVarZ 1) (vVarZ 3)))) (v2 dIx (vVarZ 0) (vVarZ 2))))) (vVarZ 3)
def fb__law_surely : Sto → Option Fl :=
  (sRet (up (v2 dEq (v1 dLen fb__law_surely_c1) (vC (.int 0)))))
def m__law_surely : List D → Option D := fun ds => endP (fb__law_surely (argZ ds ++ List.replicate 1 none))
theorem ok__law_surely {P : Program} {w : World} {K : PySem.W.Frag} {mg : Str → Option Value} {base : Heap} {C_Season C_Shares : Addr} {f : Addr} {fd : FuncData} (F : Fun K "_law_surely" "_law_surely" st__law_surely f fd) (T : Txt K mg C_Season C_Shares)  : FnOk P w K mg base CX0 1 f fd ["wins", "left", "side"] (spP K 3 .z m__law_surely) :=
  fn_pure (fb := fb__law_surely) F sc__law_surely (fun cdv A outer s H E hr => ((ssv_one (sv_ret (FP.ef (PV.fp (pv_cmp (op_eqD hr.units) od_eq (pv_len T.b_len (FP.pv (fp_lc (own := [("one", 3)]) rfl sc__law_surely.nd (ip_range1 rfl T.b_range (pav_cons (pv_len T.b_len (pv_varZ (i := 0) rfl (vis_of rfl)) rfl) pav_nil)) (blkOk_by (by rfl)) (fun _ _ _ _ _ => (pgv_name (i := 3) sc__law_surely.nd rfl (loc_of rfl))) (fun _ _ _ _ _ => (ptsv_one (PWV.pt (pw_andV (pt_cmpV (op_neD hr.units) od_ne (pv_varZ (i := 3) rfl (vis_of rfl)) (pv_varZ (i := 2) rfl (vis_of rfl)) (nomark _)) (pw_and1V (pt_cmpV op_gt od_gt (pv_bin op_add od_addI (pv_ix ix_seq (od_ix (by rfl)) (pv_varZ (i := 0) rfl (vis_of rfl)) (pv_varZ (i := 3) rfl (vis_of rfl)) (by intro _ _; rfl)) (pv_sumA T.b_sum rfl (pv_ix ix_seq (od_ix (by rfl)) (pv_varZ (i := 1) rfl (vis_of rfl)) (pv_varZ (i := 3) rfl (vis_of rfl)) (by intro _ _; rfl)) rfl)) (pv_ix ix_seq (od_ix (by rfl)) (pv_varZ (i := 0) rfl (vis_of rfl)) (pv_varZ (i := 2) rfl (vis_of rfl)) (by intro _ _; rfl)) (nomark _))))))) (fun _ _ _ _ _ => (PV.fp (pv_varZ (i := 3) rfl (vis_of rfl)))) rfl)) rfl) pv_int (nomark _))))))
    : SSV (BCx P w K mg base _ _ st__law_surely f cdv A outer s H E) .z [] (defBody st__law_surely) (fb__law_surely))) (fun _ _ _ h => h)
/-! ### _law_do -/
abbrev st__law_do : Stmt := top 35
theorem sc__law_do : FnScope ["wins", "left", "side", "some", "good", "one", "lost"] ["wins", "left", "side"] (defScope st__law_do) := ⟨rfl, rfl, rfl, by decide +kernel, rfl, by decide +kernel, by decide +kernel⟩
def fb__law_do_b1 : Sto → Option Fl :=
  (sIf (upT (vB (v2 dNe (vVarZ 5) (vVarZ 2))))
      (sSeq (sSet 6 .z (up (vB2 dMin2 (aCons (v2 dIx (v2 dIx (vVarZ 1) (vVarZ 2)) (vVarZ 5)) (aCons (v2 dSub (v1 dSumA (v2 dIx (vVarZ 1) (vVarZ 2))) (vVarZ 3)) aNil)))))
      (sIf (upT (vB (v2 dGt (v2 dAddI (v2 dSub (v2 dAddI (v2 dIx (vVarZ 0) (vVarZ 5)) (v1 dSumA (v2 dIx (vVarZ 1) (vVarZ 5)))) (v2 dIx (v2 dIx (vVarZ 1) (vVarZ 5)) (vVarZ 2))) (vVarZ 6)) (v2 dAddI (v2 dIx (vVarZ 0) (vVarZ 2)) (vVarZ 3)))))
      (sSet 4 .z (up (vC (.bl false))))
      sNext))
      sNext)
def fb__law_do_b2 : Sto → Option Fl :=
  (sSeq (sSet 4 .z (up (vC (.bl true))))
      (sSeq (sFor (upI (vRng1 (aCons (v1 dLen (vVarZ 0)) aNil))) (gN 5) fb__law_do_b1)
      (sIf (upT (vB (vVarZ 4)))
      (sRet (up (vVarZ 3)))
      sNext)))
def fb__law_do : Sto → Option Fl :=
  (sSeq (sFor (upI (vRng1 (aCons (v2 dAddI (v1 dSumA (v2 dIx (vVarZ 1) (vVarZ 2))) (vC (.int 1))) aNil))) (gN 3) fb__law_do_b2)
      (sRet (up (vC .non))))
def m__law_do : List D → Option D := fun ds => endP (fb__law_do (argZ ds ++ List.replicate 4 none))
theorem ok__law_do {P : Program} {w : World} {K : PySem.W.Frag} {mg : Str → Option Value} {base : Heap} {C_Season C_Shares : Addr} {f : Addr} {fd : FuncData} (F : Fun K "_law_do" "_law_do" st__law_do f fd) (T : Txt K mg C_Season C_Shares)  : FnOk P w K mg base CX0 1 f fd ["wins", "left", "side"] (spP K 3 .z m__law_do) :=
  fn_pure (fb := fb__law_do) F sc__law_do (fun cdv A outer s H E hr => ((ssv_cons (sv_for PassesOwn.never rfl (IPV.iev (ip_range1 rfl T.b_range (pav_cons (pv_bin op_add od_addI (pv_sumA T.b_sum rfl (pv_ix ix_seq (od_ix (by rfl)) (pv_varZ (i := 1) rfl (vis_of rfl)) (pv_varZ (i := 2) rfl (vis_of rfl)) (by intro _ _; rfl)) rfl) pv_int) pav_nil))) (pgv_name (i := 3) sc__law_do.nd rfl (loc_of rfl))
      (ssv_cons (sv_set (i := 4) sc__law_do.nd rfl (loc_of rfl) (FP.ef (PV.fp pv_bl)) rfl)
      (ssv_cons (sv_for PassesOwn.never rfl (IPV.iev (ip_range1 rfl T.b_range (pav_cons (pv_len T.b_len (pv_varZ (i := 0) rfl (vis_of rfl)) rfl) pav_nil))) (pgv_name (i := 5) sc__law_do.nd rfl (loc_of rfl))
      (ssv_one (sv_if (PTV.etv (pt_cmpV (op_neD hr.units) od_ne (pv_varZ (i := 5) rfl (vis_of rfl)) (pv_varZ (i := 2) rfl (vis_of rfl)) (nomark _)))
      (ssv_cons (sv_set (i := 6) sc__law_do.nd rfl (loc_of rfl) (FP.ef (PV.fp (pv_min2 T.b_min rfl (pav_cons (pv_ix ix_seq (od_ix (by rfl)) (pv_ix ix_seq (od_ix (by rfl)) (pv_varZ (i := 1) rfl (vis_of rfl)) (pv_varZ (i := 2) rfl (vis_of rfl)) (by intro _ _; rfl)) (pv_varZ (i := 5) rfl (vis_of rfl)) (by intro _ _; rfl)) (pav_cons (pv_bin op_sub od_sub (pv_sumA T.b_sum rfl (pv_ix ix_seq (od_ix (by rfl)) (pv_varZ (i := 1) rfl (vis_of rfl)) (pv_varZ (i := 2) rfl (vis_of rfl)) (by intro _ _; rfl)) rfl) (pv_varZ (i := 3) rfl (vis_of rfl))) pav_nil)) rfl))) rfl)
      (ssv_one (sv_if (PTV.etv (pt_cmpV op_gt od_gt (pv_bin op_add od_addI (pv_bin op_sub od_sub (pv_bin op_add od_addI (pv_ix ix_seq (od_ix (by rfl)) (pv_varZ (i := 0) rfl (vis_of rfl)) (pv_varZ (i := 5) rfl (vis_of rfl)) (by intro _ _; rfl)) (pv_sumA T.b_sum rfl (pv_ix ix_seq (od_ix (by rfl)) (pv_varZ (i := 1) rfl (vis_of rfl)) (pv_varZ (i := 5) rfl (vis_of rfl)) (by intro _ _; rfl)) rfl)) (pv_ix ix_seq (od_ix (by rfl)) (pv_ix ix_seq (od_ix (by rfl)) (pv_varZ (i := 1) rfl (vis_of rfl)) (pv_varZ (i := 5) rfl (vis_of rfl)) (by intro _ _; rfl)) (pv_varZ (i := 2) rfl (vis_of rfl)) (by intro _ _; rfl))) (pv_varZ (i := 6) rfl (vis_of rfl))) (pv_bin op_add od_addI (pv_ix ix_seq (od_ix (by rfl)) (pv_varZ (i := 0) rfl (vis_of rfl)) (pv_varZ (i := 2) rfl (vis_of rfl)) (by intro _ _; rfl)) (pv_varZ (i := 3) rfl (vis_of rfl))) (nomark _)))
      (ssv_one (sv_set (i := 4) sc__law_do.nd rfl (loc_of rfl) (FP.ef (PV.fp pv_bl)) rfl))
      ssv_nil)))
      ssv_nil)) rfl)
      (ssv_one (sv_if (PTV.etv (pt_valV (pv_varZ (i := 4) rfl (vis_of rfl))))
      (ssv_one (sv_ret (FP.ef (PV.fp (pv_varZ (i := 3) rfl (vis_of rfl))))))
      ssv_nil)))) rfl)
      (ssv_one (sv_ret (FP.ef (PV.fp pv_non)))))
    : SSV (BCx P w K mg base _ _ st__law_do f cdv A outer s H E) .z [] (defBody st__law_do) (fb__law_do))) (fun _ _ _ h => h)
/-! ### law -/
abbrev st_law : Stmt := top 36
theorem sc_law : FnScope ["script", "draws", "turn", "lots", "most", "can", "side", "wins", "left", "size", "season", "paper", "one", "other", "after", "rows", "due", "row"] ["script"] (defScope st_law) := ⟨rfl, rfl, rfl, by decide +kernel, rfl, by decide +kernel, by decide +kernel⟩
def fb_law_c1 : Sto → Option D :=
  vLc [6] (vRng1 (aCons (vVarZ 9) aNil)) (gN 6) (fun _ => some true) (v2 dAddI (v2 dIx (vVarZ 7) (vVarZ 6)) (v1 dSumA (v2 dIx (vVarZ 8) (vVarZ 6))))
def fb_law_c2 : Sto → Option D :=
  vLc [6] (vRng1 (aCons (vVarZ 9) aNil)) (gN 6) (vB (vCall (n := 4) m__law_can (aCons (vVarZ 3) (aCons (vVarZ 9) (aCons (vVarZ 6) (aCons (v2 dIx (vVarZ 4) (vVarZ 6)) aNil)))))) (vVarZ 6)
def fb_law_c3 (C_Season : Addr) : Sto → Option D :=
  vLc [6] (vRng1 (aCons (vVarZ 9) aNil)) (gN 6) (fun _ => some true) (vMeth 2 C_Season "most" (m_Season_most C_Season) (vVarZ 10) (aCons (vVarZ 6) aNil))
def fb_law_c4 : Sto → Option D :=
  vLc [6] (vItems (vVarZ 5)) (gN 6) (fun _ => some true) (v2 dIx (vVarZ 4) (vVarZ 6))
def fb_law_c5 (C_Season : Addr) (C_Shares : Addr) : Sto → Option D :=
  vLc [6] (vRng1 (aCons (vVarZ 9) aNil)) (gN 6) (vB (v2 dGe (v2 dIx (vVarZ 4) (vVarZ 6)) (vCall (n := 1) (m_bound C_Season C_Shares) (aCons (vVarZ 10) aNil)))) (vVarZ 6)
def fb_law_b1 (C_Season : Addr) (C_Shares : Addr) : Sto → Option Fl :=
  (sSeq (sSet 11 .z (up (vCall (n := 2) (m_decide_first C_Season C_Shares) (aCons (vVarZ 10) (aCons (vVarZ 6) aNil)))))
      (sSeq (sIf (upT (tOrF (vB (v2 dNe (v2 dIx (vVarZ 11) (vC (.int 0))) (vIf (vB (v2 dIn (vVarZ 6) (vVarS 5))) (vC (.str "won")) (vC (.str "lot"))))) (tOrF (tNotF (vB (vCall (n := 4) m__law_paper (aCons (vVarZ 7) (aCons (vVarZ 8) (aCons (vVarZ 6) (aCons (vVarZ 11) aNil))))))) (vB (v2 dNotB (vCall (n := 3) (m_first_right C_Season) (aCons (vVarZ 10) (aCons (vVarZ 6) (aCons (vVarZ 11) aNil)))) (vC (.bl true)))))))
      (sRet (up (vC (.bl false))))
      sNext)
      (sSeq (sIf (upT (tOrF (vB (v2 dNe (vCall (n := 2) (m_can_be_first C_Season C_Shares) (aCons (vVarZ 10) (aCons (vVarZ 6) aNil))) (v2 dIn (vVarZ 6) (vVarS 5)))) (vB (v2 dNe (vCall (n := 2) (m_surely_first C_Season) (aCons (vVarZ 10) (aCons (vVarZ 6) aNil))) (vCall (n := 3) m__law_surely (aCons (vVarZ 7) (aCons (vVarZ 8) (aCons (vVarZ 6) aNil))))))))
      (sRet (up (vC (.bl false))))
      sNext)
      (sIf (upT (tNotF (vB (vCall (n := 2) m__law_same (aCons (vCall (n := 2) (m_wins_that_do C_Season) (aCons (vVarZ 10) (aCons (vVarZ 6) aNil))) (aCons (vCall (n := 3) m__law_do (aCons (vVarZ 7) (aCons (vVarZ 8) (aCons (vVarZ 6) aNil)))) aNil))))))
      (sRet (up (vC (.bl false))))
      sNext))))
def fb_law_c6 : Sto → Option D :=
  vLc [17] (vItems (vVarZ 8)) (gN 17) (fun _ => some true) (v1 dList (vVarZ 17))
def fb_law_c7 : Sto → Option D :=
  vLc [6] (vRng1 (aCons (vVarZ 9) aNil)) (gN 6) (fun _ => some true) (v2 dAddI (v2 dIx (vVarZ 7) (vVarZ 6)) (vIf (vB (v2 dEq (vVarZ 6) (vVarZ 12))) (vC (.int 1)) (vC (.int 0))))
def fb_law_c8 : Sto → Option D :=
  vLc [17] (vItems (vVarZ 15)) (gN 17) (fun _ => some true) (v1 dTuple (vVarZ 17))
def fb_law_b2 (C_Season : Addr) (C_Shares : Addr) : Sto → Option Fl :=
  (sSeq (sAsg (eCallIO 1 0 1 (.seq .z) m__law_season (aCons (vVar 1) aNil)) (gTupF 2 (gsCons (gN 7) (gsCons (gN 8) gsNil))))
      (sSeq (sAsg (up (vTup (aCons (v1 dLen (vVarZ 7)) (aCons (vMake 3 C_Season (m_Season_init C_Season) (aCons (vVarZ 7) (aCons (vVarZ 8) aNil))) aNil)))) (gTupF 2 (gsCons (gN 9) (gsCons (gN 10) gsNil))))
      (sSeq (sSet 3 .z (up (vCall (n := 2) m__law_lots (aCons (vVarZ 7) (aCons (vVarZ 8) aNil)))))
      (sSeq (sSet 4 .z (up fb_law_c1))
      (sSeq (sSet 5 (.seq .z) (up fb_law_c2))
      (sSeq (sIf (upT (tOrF (tNotF (vB (vCall (n := 2) m__law_same (aCons (vCall (n := 1) (m_still_first C_Season C_Shares) (aCons (vVarZ 10) aNil)) (aCons (v1 dTuple (vVarS 5)) aNil))))) (tOrF (tNotF (vB (vCall (n := 2) m__law_same (aCons (fb_law_c3 C_Season) (aCons (vVarZ 4) aNil))))) (tNotF (tBor (vB (vCall (n := 2) m__law_same (aCons (vCall (n := 1) (m_bound C_Season C_Shares) (aCons (vVarZ 10) aNil)) (aCons (v1 dMin fb_law_c4) aNil)))))))))
      (sRet (up (vC (.bl false))))
      sNext)
      (sSeq (sIf (upT (vB (v2 dNe (fb_law_c5 C_Season C_Shares) (vVarS 5))))
      (sRet (up (vC (.bl false))))
      sNext)
      (sSeq (sFor (upI (vRng1 (aCons (vVarZ 9) aNil))) (gN 6) (fb_law_b1 C_Season C_Shares))
      (sSeq (sAsg (eTup (bCons (eCallIO 2 0 1 (.seq .z) m__law_draw (aCons (vVar 1) (aCons (vVarZ 9) aNil))) (bCons (eCallIO 2 0 1 (.seq .z) m__law_draw (aCons (vVar 1) (aCons (vVarZ 9) aNil))) bNil))) (gTupF 2 (gsCons (gN 12) (gsCons (gN 13) gsNil))))
      (sIf (upT (vB (v2 dGt (v2 dIx (v2 dIx (vVarZ 8) (vVarZ 12)) (vVarZ 13)) (vC (.int 0)))))
      (sSeq (sSet 14 .z (up (vCall (n := 3) (m_with_match C_Season) (aCons (vVarZ 10) (aCons (vVarZ 12) (aCons (vVarZ 13) aNil))))))
      (sSeq (sSet 15 (.seq (.seq .z)) (up fb_law_c6))
      (sSeq (sAsg (up (vTup (aCons (v2 dSub (vBor .z (v2 dIx (v2 dIx (vVarZ 15) (vVarZ 12)) (vVarZ 13))) (vC (.int 1))) (aCons (v2 dSub (vBor .z (v2 dIx (v2 dIx (vVarZ 15) (vVarZ 13)) (vVarZ 12))) (vC (.int 1))) aNil)))) (gTupF 2 (gsCons (gSet 15 .z (lIx 15 (lVar 15) (vVarZ 12)) (vVarZ 13)) (gsCons (gSet 15 .z (lIx 15 (lVar 15) (vVarZ 13)) (vVarZ 12)) gsNil))))
      (sSeq (sSet 16 .z (up (v1 dTuple fb_law_c7)))
      (sSeq (sIf (upT (tNotF (tBor (vB (vCall (n := 2) m__law_same (aCons (vLst (aCons (vFld C_Season "wins" (vVarZ 14)) (aCons (vFld C_Season "left" (vVarZ 14)) aNil))) (aCons (vLst (aCons (vVarZ 16) (aCons (v1 dTuple fb_law_c8) aNil))) aNil)))))))
      (sRet (up (vC (.bl false))))
      sNext)
      (sIf (upT (tAndF (vB (vCall (n := 3) (m_first_right C_Season) (aCons (vVarZ 10) (aCons (vVarZ 12) (aCons (vCall (n := 2) (m_decide_first C_Season C_Shares) (aCons (vVarZ 14) (aCons (vVarZ 12) aNil))) aNil))))) (vB (v2 dEq (v2 dIx (vCall (n := 2) (m_decide_first C_Season C_Shares) (aCons (vVarZ 14) (aCons (vVarZ 12) aNil))) (vC (.int 0))) (vC (.str "won"))))))
      (sRet (up (vC (.bl false))))
      sNext))))))
      sNext))))))))))
def fb_law (C_Season : Addr) (C_Shares : Addr) : Sto → Option Fl :=
  (sSeq (sSet 1 (.seq .z) (up (vCall (n := 1) m__law_draws (aCons (vVarZ 0) aNil))))
      (sSeq (sFor (upI (vRng1 (aCons (vC (.int 2)) aNil))) (gN 2) (fb_law_b2 C_Season C_Shares))
      (sRet (up (vC (.bl true))))))
def m_law (C_Season : Addr) (C_Shares : Addr) : List D → Option D := fun ds => endP (fb_law C_Season C_Shares (argZ ds ++ List.replicate 17 none))
theorem ok_law {P : Program} {w : World} {K : PySem.W.Frag} {mg : Str → Option Value} {base : Heap} {C_Season C_Shares : Addr} {f : Addr} {fd : FuncData} (F : Fun K "law" "law" st_law f fd) (T : Txt K mg C_Season C_Shares) (c__law_draws : Fc P w K mg base "_law_draws" ["script"] 1 (spP K 1 (.seq .z) m__law_draws)) (c__law_season : Fc P w K mg base "_law_season" ["draws"] 3 (spIO K 1 0 (.seq .z) .z m__law_season)) (c_Season : Mc P w K mg base "Season" C_Season ["self", "wins", "left"] 4 (spIO K 3 0 (.obj fun _ => .z) .z (m_Season_init C_Season))) (c__law_lots : Fc P w K mg base "_law_lots" ["wins", "left"] 1 (spP K 2 .z m__law_lots)) (c__law_can : Fc P w K mg base "_law_can" ["lots", "size", "side", "most"] 1 (spP K 4 .z m__law_can)) (c__law_same : Fc P w K mg base "_law_same" ["actual", "expected"] 4 (spP K 2 .z m__law_same)) (c_still_first : Fc P w K mg base "still_first" ["season"] 7 (spP K 1 .z (m_still_first C_Season C_Shares))) (c_Season_most : Mt P w K mg base C_Season "most" ["self", "side"] 2 (spP K 2 .z (m_Season_most C_Season))) (c_bound : Fc P w K mg base "bound" ["season"] 8 (spP K 1 .z (m_bound C_Season C_Shares))) (c_decide_first : Fc P w K mg base "decide_first" ["season", "side"] 5 (spP K 2 .z (m_decide_first C_Season C_Shares))) (c__law_paper : Fc P w K mg base "_law_paper" ["wins", "left", "side", "paper"] 2 (spP K 4 .z m__law_paper)) (c_first_right : Fc P w K mg base "first_right" ["season", "side", "paper"] 4 (spP K 3 .z (m_first_right C_Season))) (c_can_be_first : Fc P w K mg base "can_be_first" ["season", "side"] 6 (spP K 2 .z (m_can_be_first C_Season C_Shares))) (c_surely_first : Fc P w K mg base "surely_first" ["season", "side"] 3 (spP K 2 .z (m_surely_first C_Season))) (c__law_surely : Fc P w K mg base "_law_surely" ["wins", "left", "side"] 1 (spP K 3 .z m__law_surely)) (c_wins_that_do : Fc P w K mg base "wins_that_do" ["season", "side"] 4 (spP K 2 .z (m_wins_that_do C_Season))) (c__law_do : Fc P w K mg base "_law_do" ["wins", "left", "side"] 1 (spP K 3 .z m__law_do)) (c__law_draw : Fc P w K mg base "_law_draw" ["draws", "limit"] 1 (spIO K 2 0 (.seq .z) .z m__law_draw)) (c_with_match : Fc P w K mg base "with_match" ["season", "winner", "loser"] 6 (spP K 3 .z (m_with_match C_Season))) : FnOk P w K mg base CX0 9 f fd ["script"] (spP K 1 .z (m_law C_Season C_Shares)) :=
  fn_pure (fb := fb_law C_Season C_Shares) F sc_law (fun cdv A outer s H E hr => ((ssv_cons (sv_set (i := 1) sc_law.nd rfl (loc_of rfl) (FP.ef (fp_call c__law_draws.ok (hr.mono (by decide)) rfl c__law_draws.g c__law_draws.q c__law_draws.b (pav_cons (pv_varZ (i := 0) rfl (vis_of rfl)) pav_nil))) rfl)
      (ssv_cons (sv_for PassesOwn.never rfl (IPV.iev (ip_range1 rfl T.b_range (pav_cons pv_int pav_nil))) (pgv_name (i := 2) sc_law.nd rfl (loc_of rfl))
      (ssv_cons (sv_asg (ef_callIO c__law_season.ok (hr.mono (by decide)) rfl c__law_season.g c__law_season.q c__law_season.b (qa_here (j := 1) rfl (vis_of rfl) pav_nil) hfs0) (PGV.pgf (pgv_tup rfl (pgsv_cons (pgv_name (i := 7) sc_law.nd rfl (loc_of rfl)) (pgsv_cons (pgv_name (i := 8) sc_law.nd rfl (loc_of rfl)) pgsv_nil)))) rfl)
      (ssv_cons (sv_asg (FP.ef (PV.fp (pv_tup (pav_cons (pv_len T.b_len (pv_varZ (i := 7) rfl (vis_of rfl)) rfl) (pav_cons (FP.pv (fp_make c_Season.mke c_Season.ok (hr.mono (by decide)) rfl c_Season.g c_Season.b (pav_cons (pv_varZ (i := 7) rfl (vis_of rfl)) (pav_cons (pv_varZ (i := 8) rfl (vis_of rfl)) pav_nil)))) pav_nil))))) (PGV.pgf (pgv_tup rfl (pgsv_cons (pgv_name (i := 9) sc_law.nd rfl (loc_of rfl)) (pgsv_cons (pgv_name (i := 10) sc_law.nd rfl (loc_of rfl)) pgsv_nil)))) rfl)
      (ssv_cons (sv_set (i := 3) sc_law.nd rfl (loc_of rfl) (FP.ef (fp_call c__law_lots.ok (hr.mono (by decide)) rfl c__law_lots.g c__law_lots.q c__law_lots.b (pav_cons (pv_varZ (i := 7) rfl (vis_of rfl)) (pav_cons (pv_varZ (i := 8) rfl (vis_of rfl)) pav_nil)))) rfl)
      (ssv_cons (sv_set (i := 4) sc_law.nd rfl (loc_of rfl) (FP.ef (PV.fp (FP.pv (fp_lc (own := [("side", 6)]) rfl sc_law.nd (ip_range1 rfl T.b_range (pav_cons (pv_varZ (i := 9) rfl (vis_of rfl)) pav_nil)) (blkOk_by (by rfl)) (fun _ _ _ _ _ => (pgv_name (i := 6) sc_law.nd rfl (loc_of rfl))) (fun _ _ _ _ _ => ptsv_nil) (fun _ _ _ _ _ => (PV.fp (pv_bin op_add od_addI (pv_ix ix_seq (od_ix (by rfl)) (pv_varZ (i := 7) rfl (vis_of rfl)) (pv_varZ (i := 6) rfl (vis_of rfl)) (by intro _ _; rfl)) (pv_sumA T.b_sum rfl (pv_ix ix_seq (od_ix (by rfl)) (pv_varZ (i := 8) rfl (vis_of rfl)) (pv_varZ (i := 6) rfl (vis_of rfl)) (by intro _ _; rfl)) rfl)))) rfl)))) rfl)
      (ssv_cons (sv_setLc (i := 5) (own := [("side", 6)]) rfl sc_law.nd rfl rfl (sw_true rfl rfl rfl rfl) (ip_range1 rfl T.b_range (pav_cons (pv_varZ (i := 9) rfl (vis_of rfl)) pav_nil)) (blkOk_by (by rfl)) (fun _ _ _ _ _ => (pgv_name (i := 6) sc_law.nd rfl (loc_of rfl))) (fun _ _ _ _ _ => (ptsv_one (pt_valV (FP.pv (fp_call c__law_can.ok (hr.mono (by decide)) rfl c__law_can.g c__law_can.q c__law_can.b (pav_cons (pv_varZ (i := 3) rfl (vis_of rfl)) (pav_cons (pv_varZ (i := 9) rfl (vis_of rfl)) (pav_cons (pv_varZ (i := 6) rfl (vis_of rfl)) (pav_cons (pv_ix ix_seq (od_ix (by rfl)) (pv_varZ (i := 4) rfl (vis_of rfl)) (pv_varZ (i := 6) rfl (vis_of rfl)) (by intro _ _; rfl)) pav_nil))))))))) (fun _ _ _ _ _ => (PV.fp (pv_varZ (i := 6) rfl (vis_of rfl)))) rfl rfl)
      (ssv_cons (sv_if (PTV.etv (PWV.pt (pw_orV (pt_notV (pt_valV (FP.pv (fp_call c__law_same.ok (hr.mono (by decide)) rfl c__law_same.g c__law_same.q c__law_same.b (pav_cons (FP.pv (fp_call c_still_first.ok (hr.mono (by decide)) rfl c_still_first.g c_still_first.q c_still_first.b (pav_cons (pv_varZ (i := 10) rfl (vis_of rfl)) pav_nil))) (pav_cons (pv_tupC T.b_tuple rfl (pv_varS (i := 5) rfl (vis_of rfl)) rfl) pav_nil)))))) (pw_orV (pt_notV (pt_valV (FP.pv (fp_call c__law_same.ok (hr.mono (by decide)) rfl c__law_same.g c__law_same.q c__law_same.b (pav_cons (FP.pv (fp_lc (own := [("side", 6)]) rfl sc_law.nd (ip_range1 rfl T.b_range (pav_cons (pv_varZ (i := 9) rfl (vis_of rfl)) pav_nil)) (blkOk_by (by rfl)) (fun _ _ _ _ _ => (pgv_name (i := 6) sc_law.nd rfl (loc_of rfl))) (fun _ _ _ _ _ => ptsv_nil) (fun _ _ _ _ _ => (fp_meth (pv_varZ (i := 10) rfl (vis_of rfl)) T.k_Season c_Season_most.me c_Season_most.ok (hr.mono (by decide)) c_Season_most.b (pav_cons (pv_varZ (i := 6) rfl (vis_of rfl)) pav_nil))) rfl)) (pav_cons (pv_varZ (i := 4) rfl (vis_of rfl)) pav_nil)))))) (pw_or1V (pt_notV (PTV.bor (pt_valV (FP.pv (fp_call c__law_same.ok (hr.mono (by decide)) rfl c__law_same.g c__law_same.q c__law_same.b (pav_cons (FP.pv (fp_call c_bound.ok (hr.mono (by decide)) rfl c_bound.g c_bound.q c_bound.b (pav_cons (pv_varZ (i := 10) rfl (vis_of rfl)) pav_nil))) (pav_cons (pv_min T.b_min rfl (FP.pv (fp_lc (own := [("side", 6)]) rfl sc_law.nd (ip_seq (pv_varZ (i := 5) rfl (vis_of rfl))) (blkOk_by (by rfl)) (fun _ _ _ _ _ => (pgv_name (i := 6) sc_law.nd rfl (loc_of rfl))) (fun _ _ _ _ _ => ptsv_nil) (fun _ _ _ _ _ => (PV.fp (pv_ix ix_seq (od_ix (by rfl)) (pv_varZ (i := 4) rfl (vis_of rfl)) (pv_varZ (i := 6) rfl (vis_of rfl)) (by intro _ _; rfl)))) rfl)) rfl) pav_nil))))))))))))
      (ssv_one (sv_ret (FP.ef (PV.fp pv_bl))))
      ssv_nil)
      (ssv_cons (sv_if (PTV.etv (pt_cmpV (op_neD hr.units) od_ne (FP.pv (fp_lc (own := [("side", 6)]) rfl sc_law.nd (ip_range1 rfl T.b_range (pav_cons (pv_varZ (i := 9) rfl (vis_of rfl)) pav_nil)) (blkOk_by (by rfl)) (fun _ _ _ _ _ => (pgv_name (i := 6) sc_law.nd rfl (loc_of rfl))) (fun _ _ _ _ _ => (ptsv_one (pt_cmpV op_ge od_ge (pv_ix ix_seq (od_ix (by rfl)) (pv_varZ (i := 4) rfl (vis_of rfl)) (pv_varZ (i := 6) rfl (vis_of rfl)) (by intro _ _; rfl)) (FP.pv (fp_call c_bound.ok (hr.mono (by decide)) rfl c_bound.g c_bound.q c_bound.b (pav_cons (pv_varZ (i := 10) rfl (vis_of rfl)) pav_nil))) (nomark _)))) (fun _ _ _ _ _ => (PV.fp (pv_varZ (i := 6) rfl (vis_of rfl)))) rfl)) (pv_varS (i := 5) rfl (vis_of rfl)) (nomark _)))
      (ssv_one (sv_ret (FP.ef (PV.fp pv_bl))))
      ssv_nil)
      (ssv_cons (sv_for PassesOwn.never rfl (IPV.iev (ip_range1 rfl T.b_range (pav_cons (pv_varZ (i := 9) rfl (vis_of rfl)) pav_nil))) (pgv_name (i := 6) sc_law.nd rfl (loc_of rfl))
      (ssv_cons (sv_set (i := 11) sc_law.nd rfl (loc_of rfl) (FP.ef (fp_call c_decide_first.ok (hr.mono (by decide)) rfl c_decide_first.g c_decide_first.q c_decide_first.b (pav_cons (pv_varZ (i := 10) rfl (vis_of rfl)) (pav_cons (pv_varZ (i := 6) rfl (vis_of rfl)) pav_nil)))) rfl)
      (ssv_cons (sv_if (PTV.etv (PWV.pt (pw_orV (pt_cmpV (op_neD hr.units) od_ne (pv_ix ix_seq (od_ix (by rfl)) (pv_varZ (i := 11) rfl (vis_of rfl)) pv_int (by intro _ _; rfl)) (pv_if (pt_cmpV op_in_seq od_in (pv_varZ (i := 6) rfl (vis_of rfl)) (pv_varS (i := 5) rfl (vis_of rfl)) (by with_unfolding_all rfl)) pv_str pv_str) (nomark _)) (pw_orV (pt_notV (pt_valV (FP.pv (fp_call c__law_paper.ok (hr.mono (by decide)) rfl c__law_paper.g c__law_paper.q c__law_paper.b (pav_cons (pv_varZ (i := 7) rfl (vis_of rfl)) (pav_cons (pv_varZ (i := 8) rfl (vis_of rfl)) (pav_cons (pv_varZ (i := 6) rfl (vis_of rfl)) (pav_cons (pv_varZ (i := 11) rfl (vis_of rfl)) pav_nil)))))))) (pw_or1V (pt_cmpV op_notBl od_notB (FP.pv (fp_call c_first_right.ok (hr.mono (by decide)) rfl c_first_right.g c_first_right.q c_first_right.b (pav_cons (pv_varZ (i := 10) rfl (vis_of rfl)) (pav_cons (pv_varZ (i := 6) rfl (vis_of rfl)) (pav_cons (pv_varZ (i := 11) rfl (vis_of rfl)) pav_nil))))) pv_bl (nomark _)))))))
      (ssv_one (sv_ret (FP.ef (PV.fp pv_bl))))
      ssv_nil)
      (ssv_cons (sv_if (PTV.etv (PWV.pt (pw_orV (pt_cmpV (op_neD hr.units) od_ne (FP.pv (fp_call c_can_be_first.ok (hr.mono (by decide)) rfl c_can_be_first.g c_can_be_first.q c_can_be_first.b (pav_cons (pv_varZ (i := 10) rfl (vis_of rfl)) (pav_cons (pv_varZ (i := 6) rfl (vis_of rfl)) pav_nil)))) (pv_cmp op_in_seq od_in (pv_varZ (i := 6) rfl (vis_of rfl)) (pv_varS (i := 5) rfl (vis_of rfl)) (by with_unfolding_all rfl)) (nomark _)) (pw_or1V (pt_cmpV (op_neD hr.units) od_ne (FP.pv (fp_call c_surely_first.ok (hr.mono (by decide)) rfl c_surely_first.g c_surely_first.q c_surely_first.b (pav_cons (pv_varZ (i := 10) rfl (vis_of rfl)) (pav_cons (pv_varZ (i := 6) rfl (vis_of rfl)) pav_nil)))) (FP.pv (fp_call c__law_surely.ok (hr.mono (by decide)) rfl c__law_surely.g c__law_surely.q c__law_surely.b (pav_cons (pv_varZ (i := 7) rfl (vis_of rfl)) (pav_cons (pv_varZ (i := 8) rfl (vis_of rfl)) (pav_cons (pv_varZ (i := 6) rfl (vis_of rfl)) pav_nil))))) (nomark _))))))
      (ssv_one (sv_ret (FP.ef (PV.fp pv_bl))))
      ssv_nil)
      (ssv_one (sv_if (PTV.etv (pt_notV (pt_valV (FP.pv (fp_call c__law_same.ok (hr.mono (by decide)) rfl c__law_same.g c__law_same.q c__law_same.b (pav_cons (FP.pv (fp_call c_wins_that_do.ok (hr.mono (by decide)) rfl c_wins_that_do.g c_wins_that_do.q c_wins_that_do.b (pav_cons (pv_varZ (i := 10) rfl (vis_of rfl)) (pav_cons (pv_varZ (i := 6) rfl (vis_of rfl)) pav_nil)))) (pav_cons (FP.pv (fp_call c__law_do.ok (hr.mono (by decide)) rfl c__law_do.g c__law_do.q c__law_do.b (pav_cons (pv_varZ (i := 7) rfl (vis_of rfl)) (pav_cons (pv_varZ (i := 8) rfl (vis_of rfl)) (pav_cons (pv_varZ (i := 6) rfl (vis_of rfl)) pav_nil))))) pav_nil)))))))
      (ssv_one (sv_ret (FP.ef (PV.fp pv_bl))))
      ssv_nil))))) rfl)
      (ssv_cons (sv_asg (EV.ef (ev_tup (eav_cons (EF.ev (ef_callIO c__law_draw.ok (hr.mono (by decide)) rfl c__law_draw.g c__law_draw.q c__law_draw.b (qa_here (j := 1) rfl (vis_of rfl) (pav_cons (pv_varZ (i := 9) rfl (vis_of rfl)) pav_nil)) hfs0)) (eav_cons (EF.ev (ef_callIO c__law_draw.ok (hr.mono (by decide)) rfl c__law_draw.g c__law_draw.q c__law_draw.b (qa_here (j := 1) rfl (vis_of rfl) (pav_cons (pv_varZ (i := 9) rfl (vis_of rfl)) pav_nil)) hfs0)) eav_nil)))) (PGV.pgf (pgv_tup rfl (pgsv_cons (pgv_name (i := 12) sc_law.nd rfl (loc_of rfl)) (pgsv_cons (pgv_name (i := 13) sc_law.nd rfl (loc_of rfl)) pgsv_nil)))) rfl)
      (ssv_one (sv_if (PTV.etv (pt_cmpV op_gt od_gt (pv_ix ix_seq (od_ix (by rfl)) (pv_ix ix_seq (od_ix (by rfl)) (pv_varZ (i := 8) rfl (vis_of rfl)) (pv_varZ (i := 12) rfl (vis_of rfl)) (by intro _ _; rfl)) (pv_varZ (i := 13) rfl (vis_of rfl)) (by intro _ _; rfl)) pv_int (nomark _)))
      (ssv_cons (sv_set (i := 14) sc_law.nd rfl (loc_of rfl) (FP.ef (fp_call c_with_match.ok (hr.mono (by decide)) rfl c_with_match.g c_with_match.q c_with_match.b (pav_cons (pv_varZ (i := 10) rfl (vis_of rfl)) (pav_cons (pv_varZ (i := 12) rfl (vis_of rfl)) (pav_cons (pv_varZ (i := 13) rfl (vis_of rfl)) pav_nil))))) rfl)
      (ssv_cons (sv_setLc (i := 15) (own := [("row", 17)]) rfl sc_law.nd rfl rfl (sw_true rfl rfl rfl rfl) (ip_seq (pv_varZ (i := 8) rfl (vis_of rfl))) (blkOk_by (by rfl)) (fun _ _ _ _ _ => (pgv_name (i := 17) sc_law.nd rfl (loc_of rfl))) (fun _ _ _ _ _ => ptsv_nil) (fun _ _ _ _ _ => (fp_lstC T.b_list rfl (pv_varZ (i := 17) rfl (vis_of rfl)) rfl)) rfl rfl)
      (ssv_cons (sv_asg (FP.ef (PV.fp (pv_tup (pav_cons (pv_bin op_sub od_sub (PV.bor (pv_ix ix_seq (od_ix (by rfl)) (pv_ix ix_seq (od_ix (by rfl)) (pv_varZ (i := 15) rfl (vis_of rfl)) (pv_varZ (i := 12) rfl (vis_of rfl)) (by intro _ _; rfl)) (pv_varZ (i := 13) rfl (vis_of rfl)) (by intro _ _; rfl))) pv_int) (pav_cons (pv_bin op_sub od_sub (PV.bor (pv_ix ix_seq (od_ix (by rfl)) (pv_ix ix_seq (od_ix (by rfl)) (pv_varZ (i := 15) rfl (vis_of rfl)) (pv_varZ (i := 13) rfl (vis_of rfl)) (by intro _ _; rfl)) (pv_varZ (i := 12) rfl (vis_of rfl)) (by intro _ _; rfl))) pv_int) pav_nil))))) (pgf_tup rfl (pgfs_cons (pgf_set (s := .z) (lv_ix (lv_var (i := 15) rfl (vis_of rfl)) (pv_varZ (i := 12) rfl (vis_of rfl)) (by intro _ _; rfl)) (pv_varZ (i := 13) rfl (vis_of rfl))) (pgfs_cons (pgf_set (s := .z) (lv_ix (lv_var (i := 15) rfl (vis_of rfl)) (pv_varZ (i := 13) rfl (vis_of rfl)) (by intro _ _; rfl)) (pv_varZ (i := 12) rfl (vis_of rfl))) pgfs_nil))) rfl)
      (ssv_cons (sv_set (i := 16) sc_law.nd rfl (loc_of rfl) (FP.ef (PV.fp (pv_tupC T.b_tuple rfl (FP.pv (fp_lc (own := [("side", 6)]) rfl sc_law.nd (ip_range1 rfl T.b_range (pav_cons (pv_varZ (i := 9) rfl (vis_of rfl)) pav_nil)) (blkOk_by (by rfl)) (fun _ _ _ _ _ => (pgv_name (i := 6) sc_law.nd rfl (loc_of rfl))) (fun _ _ _ _ _ => ptsv_nil) (fun _ _ _ _ _ => (PV.fp (pv_bin op_add od_addI (pv_ix ix_seq (od_ix (by rfl)) (pv_varZ (i := 7) rfl (vis_of rfl)) (pv_varZ (i := 6) rfl (vis_of rfl)) (by intro _ _; rfl)) (pv_if (pt_cmpV (op_eqD hr.units) od_eq (pv_varZ (i := 6) rfl (vis_of rfl)) (pv_varZ (i := 12) rfl (vis_of rfl)) (nomark _)) pv_int pv_int)))) rfl)) rfl))) rfl)
      (ssv_cons (sv_if (PTV.etv (pt_notV (PTV.bor (pt_valV (FP.pv (fp_call c__law_same.ok (hr.mono (by decide)) rfl c__law_same.g c__law_same.q c__law_same.b (pav_cons (FP.pv (fp_lst (pav_cons (pv_fld T.f_Season_wins (pv_varZ (i := 14) rfl (vis_of rfl))) (pav_cons (pv_fld T.f_Season_left (pv_varZ (i := 14) rfl (vis_of rfl))) pav_nil)))) (pav_cons (FP.pv (fp_lst (pav_cons (pv_varZ (i := 16) rfl (vis_of rfl)) (pav_cons (pv_tupC T.b_tuple rfl (FP.pv (fp_lc (own := [("row", 17)]) rfl sc_law.nd (ip_seq (pv_varZ (i := 15) rfl (vis_of rfl))) (blkOk_by (by rfl)) (fun _ _ _ _ _ => (pgv_name (i := 17) sc_law.nd rfl (loc_of rfl))) (fun _ _ _ _ _ => ptsv_nil) (fun _ _ _ _ _ => (PV.fp (pv_tupC T.b_tuple rfl (pv_varZ (i := 17) rfl (vis_of rfl)) rfl))) rfl)) rfl) pav_nil)))) pav_nil))))))))
      (ssv_one (sv_ret (FP.ef (PV.fp pv_bl))))
      ssv_nil)
      (ssv_one (sv_if (PTV.etv (PWV.pt (pw_andV (pt_valV (FP.pv (fp_call c_first_right.ok (hr.mono (by decide)) rfl c_first_right.g c_first_right.q c_first_right.b (pav_cons (pv_varZ (i := 10) rfl (vis_of rfl)) (pav_cons (pv_varZ (i := 12) rfl (vis_of rfl)) (pav_cons (FP.pv (fp_call c_decide_first.ok (hr.mono (by decide)) rfl c_decide_first.g c_decide_first.q c_decide_first.b (pav_cons (pv_varZ (i := 14) rfl (vis_of rfl)) (pav_cons (pv_varZ (i := 12) rfl (vis_of rfl)) pav_nil)))) pav_nil)))))) (pw_and1V (pt_cmpV (op_eqD hr.units) od_eq (pv_ix ix_seq (od_ix (by rfl)) (FP.pv (fp_call c_decide_first.ok (hr.mono (by decide)) rfl c_decide_first.g c_decide_first.q c_decide_first.b (pav_cons (pv_varZ (i := 14) rfl (vis_of rfl)) (pav_cons (pv_varZ (i := 12) rfl (vis_of rfl)) pav_nil)))) pv_int (by intro _ _; rfl)) pv_str (nomark _))))))
      (ssv_one (sv_ret (FP.ef (PV.fp pv_bl))))
      ssv_nil)))))))
      ssv_nil))))))))))) rfl)
      (ssv_one (sv_ret (FP.ef (PV.fp pv_bl))))))
    : SSV (BCx P w K mg base _ _ st_law f cdv A outer s H E) .z [] (defBody st_law) (fb_law C_Season C_Shares))) (fun _ _ _ h => h)
end K06

set_option Elab.async false
set_option linter.all false
set_option maxRecDepth 100000
/-! the law's own draws and == ; is_integer. Printed from PCommon.tpl. -/
noncomputable section
namespace K06
open PySem PySem.Spec PyProof.Rows L2 VL
theorem is_integer_ev (i : Int) : m_is_integer [.int i] = some (.bl true) := by
  simp [m_is_integer, fb_is_integer, isT, tyName, isTab]
theorem vec_set {n j : Nat} (f : Nat → D) (d : D) : ((List.range n).map f).set j d = (List.range n).map fun i => if i = j then d else f i := by
  apply List.ext_getElem?
  intro i
  rw [List.getElem?_set]
  simp only [List.getElem?_map, List.length_map, List.length_range]
  by_cases h : i < n
  · rw [List.getElem?_range h]
    by_cases e : j = i
    · subst e; simp [h]
    · simp [e, Ne.symm e]
  · rw [List.getElem?_eq_none (l := List.range n) (by simpa using h)]
    by_cases e : j = i
    · subst e; simp [h]
    · simp [e]
theorem take_range {n k : Nat} (h : k ≤ n) : (List.range n).take k = List.range k := by
  rw [List.take_range, Nat.min_eq_left h]
/-! ### draws -/
def WfD (d : D) : Prop := ∃ (ns : List Int) (a : Nat) (b c : Int), d = .lst [.lst (ns.map .int), .int a, .int b, .int c]
theorem fmod_nat (x : Int) {lim : Nat} (h0 : 0 < lim) : ∃ v : Nat, x.fmod lim = v ∧ v < lim := by
  rw [Int.fmod_eq_emod_of_nonneg _ (by omega)]
  have e1 := Int.emod_nonneg x (b := (lim : Int)) (by omega)
  have e2 := Int.emod_lt_of_pos x (b := (lim : Int)) (by omega)
  exact ⟨(x % lim).toNat, by omega, by omega⟩
theorem draws_ev (ns : List Int) : ∃ d, m__law_draws [.lstK (ns.map .int)] = some d ∧ WfD d := by
  refine ⟨.lst [.lst (ns.map .int), .int (0 : Nat), .int 0, .int 1], ?_, ns, 0, 0, 1, rfl⟩
  simp [m__law_draws, fb__law_draws]
theorem draw_ev {d : D} (h : WfD d) (lim : Nat) (h0 : 0 < lim) (h1 : lim < 1073741824) : ∃ (v : Nat) (d' : D), m__law_draw [d, .int lim] = some (.int v, d') ∧ v < lim ∧ WfD d' := by
  obtain ⟨ns, a, b, c, rfl⟩ := h
  have hl : lim ≠ 0 := by omega
  have hd : lim < 1073741824 := by omega
  by_cases hx : b = 0 ∧ a < ns.length
  · obtain ⟨hb, ha⟩ := hx
    subst hb
    have ea : ((a : Int) + 1) = ((a + 1 : Nat) : Int) := by omega
    have e18 : (10 : Int) ^ 18 = 1000000000000000000 := by decide
    by_cases hc : (1000000000000000000 : Int) ≤ ns[a]
    · have hp : 0 < ns[a] := by omega
      obtain ⟨v, e, hv⟩ := fmod_nat ns[a] h0
      refine ⟨v, .lst [.lst (ns.map .int), .int (a + 1 : Nat), .int (ns[a].fdiv lim), .int ((c * 48271 + ns[a] + 13).fmod 2147483647)], ?_, hv, ns, a + 1, _, _, rfl⟩
      simp [m__law_draw, fb__law_draw, ha, ixN, bMod, bDiv, bMul, bPow, hl, hd, e, hc, hp, e18]
    · obtain ⟨v, e, hv⟩ := fmod_nat (((((c * 48271 + ns[a] + 13).fmod 2147483647) * 69621 + 7).fmod 2147483629).fdiv 11) h0
      refine ⟨v, .lst [.lst (ns.map .int), .int (a + 1 : Nat), .int 0, .int ((((c * 48271 + ns[a] + 13).fmod 2147483647) * 69621 + 7).fmod 2147483629)], ?_, hv, ns, a + 1, _, _, rfl⟩
      simp [m__law_draw, fb__law_draw, ha, ixN, bMod, bDiv, bMul, bPow, hl, hd, e, hc, e18]
  · by_cases hp : 0 < b
    · have hb : b ≠ 0 := by omega
      obtain ⟨v, e, hv⟩ := fmod_nat b h0
      refine ⟨v, .lst [.lst (ns.map .int), .int a, .int (b.fdiv lim), .int c], ?_, hv, ns, a, _, _, rfl⟩
      simp [m__law_draw, fb__law_draw, ixN, bMod, bDiv, bMul, bPow, hl, hd, e, hp, hb]
    · obtain ⟨v, e, hv⟩ := fmod_nat (((c * 69621 + 7).fmod 2147483629).fdiv 11) h0
      refine ⟨v, .lst [.lst (ns.map .int), .int a, .int b, .int ((c * 69621 + 7).fmod 2147483629)], ?_, hv, ns, a, _, _, rfl⟩
      by_cases hb : b = 0
      · have ha : ¬ a < ns.length := fun z => hx ⟨hb, z⟩
        subst hb
        simp [m__law_draw, fb__law_draw, ha, ixN, bMod, bDiv, bMul, hl, e]
      · simp [m__law_draw, fb__law_draw, hb, hp, ixN, bMod, bDiv, bMul, hl, e]
theorem pick_ev {d : D} (h : WfD d) (ns : List Int) (h0 : 0 < ns.length) (h1 : ns.length < 1000) : ∃ (i : Int) (d' : D), m__law_pick [d, .lst (ns.map .int)] = some (.int i, d') ∧ i ∈ ns ∧ WfD d' := by
  obtain ⟨v, d', e, hv, hw⟩ := draw_ev h ns.length h0 (by omega)
  refine ⟨ns[v], d', ?_, List.getElem_mem hv, hw⟩
  simp [m__law_pick, fb__law_pick, e, hv]
/-! ### the law's == -/
def Sm (k : Nat) (x : D) : Prop := mn__law_same k [x, x] = some (.bl true)
theorem Sm.int {k : Nat} (i : Int) : Sm (k + 1) (.int i) := by
  simp [Sm, mn__law_same, ms__law_same, fb__law_same, isT, tyName, isTab, dIsN, isN]
theorem Sm.bl {k : Nat} (i : Bool) : Sm (k + 1) (.bl i) := by
  simp [Sm, mn__law_same, ms__law_same, fb__law_same, isT, tyName, isTab, dIsN, isN]
theorem Sm.non {k : Nat} : Sm (k + 1) .non := by
  simp [Sm, mn__law_same, ms__law_same, fb__law_same, isT, tyName, isTab, dIsN, isN]
theorem Sm.tup {k : Nat} {ds : List D} (hl : ds.length ≤ 1000000) (h : ∀ d ∈ ds, Sm k d) : Sm (k + 1) (.tup ds) := by
  have hl3 : (ds.length : Int) < 1000000000 ∧ -1000000000 < (ds.length : Int) := by omega
  have loop := forL_inv (g := gN 2) (b := fb__law_same_b1 (mn__law_same k)) (I := fun j : Nat => D.int j) (List.range ds.length) (fun _ ρ => ∃ y, ρ = [some (.z, .tup ds), some (.z, .tup ds), y]) (ρ := [some (.z, .tup ds), some (.z, .tup ds), none]) (fun i j ρ hk ⟨y, e⟩ => by
    subst e
    obtain ⟨k1, k2⟩ := List.getElem?_eq_some_iff.mp hk
    simp at k1 k2
    subst k2
    have hs : mn__law_same k [ds[i], ds[i]] = some (.bl true) := h _ (List.getElem_mem k1)
    refine ⟨_, _, rfl, .inl ?_, ⟨some (.z, .int i), rfl⟩⟩
    simp [fb__law_same_b1, k1, hs]) ⟨none, rfl⟩
  obtain ⟨ρ', e, y, rfl⟩ := loop
  simp [Sm, mn__law_same, ms__law_same, fb__law_same, isT, tyName, isTab, dNe, vRng1, hl3, e]
theorem Sm.lst {k : Nat} {ds : List D} (hl : ds.length ≤ 1000000) (h : ∀ d ∈ ds, Sm k d) : Sm (k + 1) (.lst ds) := by
  have hl3 : (ds.length : Int) < 1000000000 ∧ -1000000000 < (ds.length : Int) := by omega
  have loop := forL_inv (g := gN 2) (b := fb__law_same_b1 (mn__law_same k)) (I := fun j : Nat => D.int j) (List.range ds.length) (fun _ ρ => ∃ y, ρ = [some (.z, .lst ds), some (.z, .lst ds), y]) (ρ := [some (.z, .lst ds), some (.z, .lst ds), none]) (fun i j ρ hk ⟨y, e⟩ => by
    subst e
    obtain ⟨k1, k2⟩ := List.getElem?_eq_some_iff.mp hk
    simp at k1 k2
    subst k2
    have hs : mn__law_same k [ds[i], ds[i]] = some (.bl true) := h _ (List.getElem_mem k1)
    refine ⟨_, _, rfl, .inl ?_, ⟨some (.z, .int i), rfl⟩⟩
    simp [fb__law_same_b1, k1, hs]) ⟨none, rfl⟩
  obtain ⟨ρ', e, y, rfl⟩ := loop
  simp [Sm, mn__law_same, ms__law_same, fb__law_same, isT, tyName, isTab, dNe, vRng1, hl3, e]
end K06

set_option Elab.async false
set_option linter.all false
set_option maxRecDepth 100000
noncomputable section
namespace K06
open PySem PySem.Spec PyProof.Rows L2 VL
/-! ### seasons as data -/
abbrev rowT (n : Nat) (f : Nat → Int) : D := .tup ((List.range n).map fun j => .int (f j))
abbrev rowL (n : Nat) (f : Nat → Int) : D := .lst ((List.range n).map fun j => .int (f j))
abbrev matT (n : Nat) (m : Nat → Nat → Int) : D := .tup ((List.range n).map fun i => rowT n (m i))
abbrev matL (n : Nat) (m : Nat → Nat → Int) : D := .lst ((List.range n).map fun i => rowL n (m i))
def seaD (C : Addr) (n : Nat) (w : Nat → Int) (l : Nat → Nat → Int) : D := .obj C ["wins", "left", "size"] [rowT n w, matT n l, .int n]
def shD (C C2 : Addr) (n : Nat) (w : Nat → Int) (l : Nat → Nat → Int) (most : Int) (won : Nat → Nat → Int) : D := .obj C2 ["season", "most", "won"] [seaD C n w l, .int most, matL n won]
structure Ok (n : Nat) (w : Nat → Int) (l : Nat → Nat → Int) : Prop where
  n0 : 0 < n
  n12 : n ≤ 12
  w0 : ∀ i, i < n → 0 ≤ w i ∧ w i ≤ 100000
  l0 : ∀ i j, i < n → j < n → 0 ≤ l i j ∧ l i j ≤ 100000
  sym : ∀ i j, i < n → j < n → l i j = l j i
  dia : ∀ i, i < n → l i i = 0
def sumR (n : Nat) (f : Nat → Int) : Int := ((List.range n).map f).sum
section
variable {C C2 : Addr} {n : Nat} {w : Nat → Int} {l : Nat → Nat → Int} {most : Int} {won : Nat → Nat → Int}
@[simp] theorem sea_wins : fldD C "wins" (seaD C n w l) = some (rowT n w) := by unfold fldD vFld; simp only [seaD, if_true]; rfl
@[simp] theorem sea_left : fldD C "left" (seaD C n w l) = some (matT n l) := by unfold fldD vFld; simp only [seaD, if_true]; rfl
@[simp] theorem sea_size : fldD C "size" (seaD C n w l) = some (.int n) := by unfold fldD vFld; simp only [seaD, if_true]; rfl
@[simp] theorem sh_season : fldD C2 "season" (shD C C2 n w l most won) = some (seaD C n w l) := by unfold fldD vFld; simp only [shD, if_true]; rfl
@[simp] theorem sh_most : fldD C2 "most" (shD C C2 n w l most won) = some (.int most) := by unfold fldD vFld; simp only [shD, if_true]; rfl
@[simp] theorem sh_won : fldD C2 "won" (shD C C2 n w l most won) = some (matL n won) := by unfold fldD vFld; simp only [shD, if_true]; rfl
theorem meth_obj {mn : Str} {ns : List Str} {ds : List D} {k : Nat} {m : List D → Option D} {fs : Option (List D)} (h : mn ∉ ns) : methD k C mn m fs (.obj C ns ds) = fs.bind fun xs => if xs.length + 1 = k then m (.obj C ns ds :: xs) else none := by
  unfold methD; simp [h]
@[simp] theorem sea_m1 {k : Nat} {m : List D → Option D} {fs : Option (List D)} : methD k C "most" m fs (seaD C n w l) = fs.bind fun xs => if xs.length + 1 = k then m (seaD C n w l :: xs) else none := meth_obj (by decide)
@[simp] theorem sea_m2 {k : Nat} {m : List D → Option D} {fs : Option (List D)} : methD k C "matches" m fs (seaD C n w l) = fs.bind fun xs => if xs.length + 1 = k then m (seaD C n w l :: xs) else none := meth_obj (by decide)
@[simp] theorem sh_m1 {k : Nat} {m : List D → Option D} {fs : Option (List D)} : methD k C2 "wins" m fs (shD C C2 n w l most won) = fs.bind fun xs => if xs.length + 1 = k then m (shD C C2 n w l most won :: xs) else none := meth_obj (by decide)
@[simp] theorem sh_m2 {k : Nat} {m : List D → Option D} {fs : Option (List D)} : methD k C2 "over" m fs (shD C C2 n w l most won) = fs.bind fun xs => if xs.length + 1 = k then m (shD C C2 n w l most won :: xs) else none := meth_obj (by decide)
@[simp] theorem sh_m3 {k : Nat} {m : List D → Option D} {fs : Option (List D)} : methD k C2 "reached" m fs (shD C C2 n w l most won) = fs.bind fun xs => if xs.length + 1 = k then m (shD C C2 n w l most won :: xs) else none := meth_obj (by decide)
@[simp] theorem sh_m4 {k : Nat} {m : List D → Option D} {fs : Option (List D)} : methD k C2 "room_on" m fs (shD C C2 n w l most won) = fs.bind fun xs => if xs.length + 1 = k then m (shD C C2 n w l most won :: xs) else none := meth_obj (by decide)
theorem count_ev (i : Int) : m_is_count [.int i] = some (.bl (decide (0 ≤ i) && decide (i ≤ 100000))) := by
  by_cases h : 0 ≤ i
  · simp [m_is_count, fb_is_count, is_integer_ev, h]
  · simp [m_is_count, fb_is_count, is_integer_ev, h]
theorem dAll_true {ds : List D} (h : ∀ d ∈ ds, d = .bl true) : dAll (.lst ds) = some (.bl true) := by
  have e : ds = (List.range ds.length).map fun _ => D.bl true := by
    apply List.ext_getElem (by simp)
    intro i h1 h2
    simp [h _ (List.getElem_mem h1)]
  rw [e, dAll_bl]
  simp
theorem mem_flat {ι κ : Type} {xs : List ι} {f : ι → List κ} {y : κ} (h : y ∈ (xs.map f).flatten) : ∃ x ∈ xs, y ∈ f x := by
  rw [List.mem_flatten] at h
  obtain ⟨l, h1, h2⟩ := h
  obtain ⟨x, h3, rfl⟩ := List.mem_map.mp h1
  exact ⟨x, h3, h2⟩
theorem is_left_ev (k : Ok n w l) : m_is_left [.int n, matT n l] = some (.bl true) := by
  have hn := k.n12
  have c1 : ∀ x2 x3 x4, fb_is_left_c1 [some (.z, .int n), some (.z, matT n l), x2, x3, x4, none] = some (.lst ((List.range n).map fun _ => .bl true)) := fun x2 x3 x4 => by
    refine vLc_map (I := fun i => rowT n (l i)) (xs := List.range n) rfl (by simp) (by simp; omega) fun i m => ⟨_, rfl, ?_⟩
    simp [isT, tyName, isTab]
  have c2 : ∀ x2 x4, fb_is_left_c2 [some (.z, .int n), some (.z, matT n l), x2, none, x4, none] = some (.lst (((List.range n).map fun i => (List.range n).map fun j => D.bl true).flatten)) := fun x2 x4 => by
    refine vLc2_map (I := fun i => rowT n (l i)) (J := fun i j => .int (l i j)) (xs := List.range n) (ys := fun _ => List.range n) rfl (by simp) 12 12 (by simpa using hn) (fun _ _ => by simpa using hn) (by decide) fun i m => ⟨_, rfl, rfl, by simp, fun j mj => ⟨_, rfl, ?_⟩⟩
    obtain ⟨a, b⟩ := k.l0 i j (List.mem_range.mp m) (List.mem_range.mp mj)
    simp [count_ev, a, b]
  have c3 : fb_is_left_c3 [some (.z, .int n), some (.z, matT n l), some (.z, .lst ((List.range n).map fun i : Nat => .int i)), none, none, none] = some (.lst (((List.range n).map fun i => (List.range n).map fun j => D.bl true).flatten)) := by
    refine vLc2_map (I := fun i : Nat => .int i) (J := fun _ (j : Nat) => .int j) (xs := List.range n) (ys := fun _ => List.range n) rfl (by simp) 12 12 (by simpa using hn) (fun _ _ => by simpa using hn) (by decide) fun i m => ⟨_, rfl, rfl, by simp, fun j mj => ⟨_, rfl, ?_⟩⟩
    have hi := List.mem_range.mp m
    have hj := List.mem_range.mp mj
    simp [hi, hj, k.sym i j hi hj, k.dia i hi]
  have a1 : dAll (.lst ((List.range n).map fun _ => .bl true)) = some (.bl true) := dAll_true fun d m => by
    obtain ⟨_, _, rfl⟩ := List.mem_map.mp m; rfl
  have a2 : dAll (.lst (((List.range n).map fun i => (List.range n).map fun j => D.bl true).flatten)) = some (.bl true) := dAll_true fun d m => by
    obtain ⟨_, _, m⟩ := mem_flat m
    obtain ⟨_, _, rfl⟩ := List.mem_map.mp m; rfl
  have hn2 : (n : Int) ≤ 1000000 := by omega
  have e1 : deq (.int n) (.int n) = some true := by simp
  simp [m_is_left, fb_is_left, c1, c2, c3, a1, a2, isT, tyName, isTab, dNe, hn2]
theorem dMake_ev {k : Nat} {mi : List D → Option (D × D)} {ds : List D} {d : D} (h1 : ds.length + 1 = k) (h2 : mi (.obj C [] [] :: ds) = some (.non, d)) : dMake k C mi ds = some d := by
  unfold dMake; rw [if_pos h1, h2]
theorem sFld_ev {i : Nat} {f : Str} {fe : Sto → Option (D × Sto)} {ρ ρ' : Sto} {d : D} {ns : List Str} {ds : List D} {g : Str → Sh} (h : fe ρ = some (d, ρ')) (h2 : ρ'[i]? = some (some (.obj g, .obj C ns ds))) (hf : f ∉ ns) (hn : ns.length < 50) (hg : (g f).zb = true) :
    VL.sFld i C f fe ρ = some (.nx (ρ'.set i (some (.obj g, .obj C (ns ++ [f]) (ds ++ [d]))))) := by
  unfold VL.sFld
  rw [h, Option.bind_some]
  simp only [h2, hf, hn, hg, not_false_eq_true, and_self, if_true]
theorem sFldO_ev {i : Nat} {f : Str} {fe : Sto → Option (D × Sto)} {ρ ρ' : Sto} {d : D} {ns : List Str} {ds : List D} {g : Str → Sh} {s : Sh} (h : fe ρ = some (d, ρ')) (h2 : ρ'[i]? = some (some (.obj g, .obj C ns ds))) (hf : f ∉ ns) (hn : ns.length < 50) (hg : g f = s) :
    sFldO i C f s fe ρ = some (.nx (ρ'.set i (some (.obj g, .obj C (ns ++ [f]) (ds ++ [d]))))) := by
  unfold sFldO
  rw [h, Option.bind_some]
  subst hg
  simp only [h2, hf, hn, Sh.eqb_self, not_false_eq_true, and_self, if_true]
theorem season_ev (k : Ok n w l) : m_Season_init C [.obj C [] [], rowT n w, matT n l] = some (.non, seaD C n w l) := by
  have hn := k.n12
  have h0 := k.n0
  have c1 : ∀ x2, fb_Season_init_c1 [some (.obj fun _ => .z, .obj C [] []), some (.z, rowT n w), x2, none] = some (.lst ((List.range n).map fun _ => .bl true)) := fun x2 => by
    refine vLc_map (I := fun i => .int (w i)) (xs := List.range n) rfl (by simp) (by simp; omega) fun i m => ⟨_, rfl, ?_⟩
    obtain ⟨a, b⟩ := k.w0 i (List.mem_range.mp m)
    simp [count_ev, a, b]
  have a1 : dAll (.lst ((List.range n).map fun _ => .bl true)) = some (.bl true) := dAll_true fun d m => by
    obtain ⟨_, _, rfl⟩ := List.mem_map.mp m; rfl
  have g0 : (0 : Int) < n := by omega
  have g1 : (n : Int) ≤ 12 := by omega
  have s1 := sFld_ev (C := C) (i := 0) (f := "wins") (fe := up (vVarZ 1)) (ρ := [some (.obj fun _ => .z, .obj C [] []), some (.z, rowT n w), some (.z, matT n l), none]) (ns := []) (ds := []) (g := fun _ => .z) rfl rfl (by decide) (by decide) rfl
  have s2 := sFld_ev (C := C) (i := 0) (f := "left") (fe := up (vVarZ 2)) (ρ := [some (.obj fun _ => .z, .obj C ["wins"] [rowT n w]), some (.z, rowT n w), some (.z, matT n l), none]) (ns := ["wins"]) (ds := [rowT n w]) (g := fun _ => .z) rfl rfl (by decide) (by decide) rfl
  have s3 := sFld_ev (C := C) (i := 0) (f := "size") (fe := up (v1 dLen (vVarZ 1))) (ρ := [some (.obj fun _ => .z, .obj C ["wins", "left"] [rowT n w, matT n l]), some (.z, rowT n w), some (.z, matT n l), none]) (ns := ["wins", "left"]) (ds := [rowT n w, matT n l]) (g := fun _ => .z) rfl rfl (by decide) (by decide) rfl
  have e : fb_Season_init C [some (.obj fun _ => .z, .obj C [] []), some (.z, rowT n w), some (.z, matT n l), none] = some (.nx [some (.obj fun _ => .z, seaD C n w l), some (.z, rowT n w), some (.z, matT n l), none]) := by
    unfold fb_Season_init
    refine (sSeq_nx (ρ' := [some (.obj fun _ => .z, .obj C [] []), some (.z, rowT n w), some (.z, matT n l), none]) ?_).trans ?_
    · simp [c1, a1, isT, tyName, isTab, h0, g1]
    refine (sSeq_nx (ρ' := [some (.obj fun _ => .z, .obj C [] []), some (.z, rowT n w), some (.z, matT n l), none]) ?_).trans ?_
    · have := is_left_ev k
      simp [this]
    refine (sSeq_nx s1).trans ((sSeq_nx s2).trans (s3.trans ?_))
    simp [seaD]
  have e2 : fb_Season_init C (argS 0 (.obj fun _ => .z) [.obj C [] [], rowT n w, matT n l] ++ List.replicate 1 none) = _ := e
  unfold m_Season_init
  rw [e2]
  simp
theorem matches_ev {i : Nat} (hi : i < n) : m_Season_matches C [seaD C n w l, .int i] = some (.int (sumR n (l i))) := by
  simp [m_Season_matches, fb_Season_matches, hi, sumR]
theorem most_ev {i : Nat} (hi : i < n) : m_Season_most C [seaD C n w l, .int i] = some (.int (w i + sumR n (l i))) := by
  simp [m_Season_most, fb_Season_most, hi, matches_ev hi]
theorem look_ev {i : Nat} (hi : i < n) : m_look_at_side C [seaD C n w l, .int i] = some .non := by
  have h : (i : Int) < n := by omega
  simp [m_look_at_side, fb_look_at_side, is_integer_ev, h]
end
end K06

set_option Elab.async false
set_option linter.all false
set_option maxRecDepth 100000
noncomputable section
namespace K06
open PySem PySem.Spec PyProof.Rows L2 VL
section
variable {C C2 : Addr} {n : Nat} {w : Nat → Int} {l : Nat → Nat → Int} {most : Int} {won : Nat → Nat → Int}
abbrev shS : Sh := .obj fun n => if n = ("won" : Str) then (.seq (.seq .z)) else .z
def setM (won : Nat → Nat → Int) (i j : Nat) (v : Int) : Nat → Nat → Int := fun a b => if a = i ∧ b = j then v else won a b
theorem shS_won : (fun n : Str => if n = ("won" : Str) then (Sh.seq (.seq .z)) else .z) "won" = .seq (.seq .z) := by
  simp
@[simp] theorem nav2 : navS shS (shD C C2 n w l most won) [2] = some (.seq (.seq .z), matL n won) := by
  show navS ((fun n : Str => if n = ("won" : Str) then (Sh.seq (.seq .z)) else .z) "won") (matL n won) [] = _
  rw [shS_won, q_nav0]
@[simp] theorem nav2i {i : Nat} (hi : i < n) : navS shS (shD C C2 n w l most won) [2, i] = some (.seq .z, rowL n (won i)) := by
  show navS ((fun n : Str => if n = ("won" : Str) then (Sh.seq (.seq .z)) else .z) "won") (matL n won) [i] = _
  rw [shS_won]
  simp [navS, hi]
@[simp] theorem fld2 {ρ : Sto} : fldAt 0 C2 "won" (some (shS, shD C C2 n w l most won) :: ρ) [] = some 2 := by
  have e : nodeAt 0 (some (shS, shD C C2 n w l most won) :: ρ) [] = some (.obj fun n => if n = ("won" : Str) then (.seq (.seq .z)) else .z, .obj C2 ["season", "most", "won"] [seaD C n w l, .int most, matL n won]) := rfl
  unfold fldAt
  rw [e]
  simp only [true_and, List.length_cons, List.length_nil, if_true]
  decide
theorem put2 {i j : Nat} (hi : i < n) (v : Int) : putS (shD C C2 n w l most won) [2, i] (.lst (((List.range n).map fun j => D.int (won i j)).set j (.int v))) = shD C C2 n w l most (setM won i j v) := by
  have e1 : ((List.range n).map fun j => D.int (won i j)).set j (.int v) = (List.range n).map fun b => D.int (setM won i j v i b) := by
    rw [vec_set]
    refine List.map_congr_left fun b _ => ?_
    unfold setM
    by_cases h : b = j <;> simp [h]
  have e2 : ((List.range n).map fun a => rowL n (won a)).set i (.lst ((List.range n).map fun b => D.int (setM won i j v i b))) = (List.range n).map fun a => rowL n (setM won i j v a) := by
    rw [vec_set]
    refine List.map_congr_left fun a _ => ?_
    by_cases h : a = i
    · subst h; simp
    · rw [if_neg h]
      unfold rowL
      congr 1
      refine List.map_congr_left fun b _ => ?_
      unfold setM
      rw [if_neg (fun z => h z.1)]
  rw [e1]
  show D.obj C2 ["season", "most", "won"] ([seaD C n w l, .int most, matL n won].set 2 (putS (matL n won) [i] _)) = _
  have e3 : putS (matL n won) [i] (.lst ((List.range n).map fun b => D.int (setM won i j v i b))) = matL n (setM won i j v) := by
    have : ((List.range n).map fun a => rowL n (won a))[i]? = some (rowL n (won i)) := by simp [hi]
    unfold matL
    unfold putS
    simp only [this]
    rw [show putS (rowL n (won i)) [] (.lst ((List.range n).map fun b => D.int (setM won i j v i b))) = .lst ((List.range n).map fun b => D.int (setM won i j v i b)) from q_put0 _ _, e2]
  rw [e3]
  rfl
/-- self.won[i][j] = v -/
theorem set_won {i j : Nat} (hi : i < n) (hj : j < n) {fo fi fj : Sto → Option D} {d : D} {ρ : Sto} {v : Int} (h1 : fi (some (shS, shD C C2 n w l most won) :: ρ) = some (.int i)) (h2 : fj (some (shS, shD C C2 n w l most won) :: ρ) = some (.int j)) :
    gSet 0 .z (lIx 0 (lFld 0 C2 "won" (lVar 0)) fi) fj (.int v) (some (shS, shD C C2 n w l most won) :: ρ) = some (some (shS, shD C C2 n w l most (setM won i j v)) :: ρ) := by
  simp [h1, h2, hi, hj, ixN_nat, put2]
theorem aug_won {i j : Nat} (hi : i < n) (hj : j < n) {fi fj fe : Sto → Option D} {ρ : Sto} {v u : Int} {g : D → D → Option D} (h1 : fi (some (shS, shD C C2 n w l most won) :: ρ) = some (.int i)) (h2 : fj (some (shS, shD C C2 n w l most won) :: ρ) = some (.int j)) (h3 : fe (some (shS, shD C C2 n w l most won) :: ρ) = some (.int u)) (h4 : g (.int (won i j)) (.int u) = some (.int v)) :
    sAugS 0 (lIx 0 (lFld 0 C2 "won" (lVar 0)) fi) fj fe g (some (shS, shD C C2 n w l most won) :: ρ) = some (.nx (some (shS, shD C C2 n w l most (setM won i j v)) :: ρ)) := by
  simp [h1, h2, h3, h4, hi, hj, ixN_nat, put2]
/-! ### Shares made -/
def won0 (s : Nat) (l : Nat → Nat → Int) : Nat → Nat → Int := fun i j => if i ≠ s ∧ (j = s ∨ i < j) then 0 else l i j
theorem shD_congr {won won' : Nat → Nat → Int} (h : ∀ i j, i < n → j < n → won i j = won' i j) : shD C C2 n w l most won = shD C C2 n w l most won' := by
  have e : matL n won = matL n won' := ?_
  · unfold shD; rw [e]
  unfold matL
  congr 1
  refine List.map_congr_left fun i mi => ?_
  unfold rowL
  congr 1
  exact List.map_congr_left fun j mj => by rw [h i j (List.mem_range.mp mi) (List.mem_range.mp mj)]
theorem init_b1 {i j s : Nat} (hi : i < n) (hj : j < n) (x5 : Slot) : fb_Shares_init_b1 C2 [some (shS, shD C C2 n w l most won), some (.z, seaD C n w l), some (.z, .int s), some (.z, .int i), some (.z, .int j), x5] =
    some (.nx [some (shS, shD C C2 n w l most (if i ≠ s ∧ (j = s ∨ i < j) then setM won i j 0 else won)), some (.z, seaD C n w l), some (.z, .int s), some (.z, .int i), some (.z, .int j), x5]) := by
  have e := set_won (C := C) (C2 := C2) (w := w) (l := l) (most := most) (won := won) hi hj (fo := fun _ => none) (d := .non) (v := 0) (fi := vVarZ 3) (fj := vVarZ 4) (ρ := [some (.z, seaD C n w l), some (.z, .int s), some (.z, .int i), some (.z, .int j), x5]) rfl rfl
  have ht : tAndF (vB (v2 dNe (vVarZ 3) (vVarZ 2))) (tOrF (vB (v2 dEq (vVarZ 4) (vVarZ 2))) (vB (v2 dGt (vVarZ 4) (vVarZ 3)))) [some (shS, shD C C2 n w l most won), some (.z, seaD C n w l), some (.z, .int s), some (.z, .int i), some (.z, .int j), x5] = some (decide (i ≠ s ∧ (j = s ∨ i < j))) := by
    by_cases h1 : i = s <;> by_cases h2 : j = s <;> simp [h1, h2, Int.natCast_inj]
    all_goals (try rw [if_neg (by omega)])
  unfold fb_Shares_init_b1
  rw [sIf_t _ ht]
  by_cases h : i ≠ s ∧ (j = s ∨ i < j)
  · rw [if_pos (by simpa using h), if_pos h]
    simp only [q_sAsg, q_up, q_vC, Option.map_some, Option.bind_some]
    rw [e]; rfl
  · rw [if_neg (by simpa using h), if_neg h]; rfl
end
end K06

set_option Elab.async false
set_option linter.all false
set_option maxRecDepth 100000
noncomputable section
namespace K06
open PySem PySem.Spec PyProof.Rows L2 VL
section
variable {C C2 : Addr} {n : Nat} {w : Nat → Int} {l : Nat → Nat → Int} {most : Int} {won : Nat → Nat → Int}
abbrev stI (C C2 : Addr) (n : Nat) (w : Nat → Int) (l : Nat → Nat → Int) (most : Int) (W : Nat → Nat → Int) (s : Nat) (x3 x4 x5 : Slot) : Sto := [some (shS, shD C C2 n w l most W), some (.z, seaD C n w l), some (.z, .int s), x3, x4, x5]
theorem init_b2 {i s : Nat} (hi : i < n) (W : Nat → Nat → Int) (x4 x5 : Slot) (hn : n ≤ 12) : ∃ W' y4, (∀ a b, a < n → b < n → W' a b = if a = i ∧ a ≠ s ∧ (b = s ∨ a < b) then 0 else W a b) ∧
    fb_Shares_init_b2 C C2 (stI C C2 n w l most W s (some (.z, .int i)) x4 x5) = some (.nx (stI C C2 n w l most W' s (some (.z, .int i)) y4 x5)) := by
  have loop := forL_inv (g := gN 4) (b := fb_Shares_init_b1 C2) (I := fun j : Nat => D.int j) (List.range n) (fun k ρ => ∃ W' y4, (∀ a b, a < n → b < n → W' a b = if a = i ∧ b < k ∧ a ≠ s ∧ (b = s ∨ a < b) then 0 else W a b) ∧ ρ = stI C C2 n w l most W' s (some (.z, .int i)) y4 x5)
    (ρ := stI C C2 n w l most W s (some (.z, .int i)) x4 x5) (fun k j ρ hk ⟨W', y4, h, e⟩ => by
    subst e
    obtain ⟨k1, k2⟩ := List.getElem?_eq_some_iff.mp hk
    simp at k1 k2
    subst k2
    refine ⟨_, _, rfl, .inl (init_b1 hi k1 x5), _, _, ?_, rfl⟩
    intro a b ha hb
    by_cases c : i ≠ s ∧ (k = s ∨ i < k)
    · rw [if_pos c]
      unfold setM
      rw [h a b ha hb]
      by_cases c2 : a = i ∧ b = k
      · rw [if_pos c2, if_pos ⟨c2.1, by omega, by rw [c2.1]; exact c.1, by rw [c2.1, c2.2]; exact c.2⟩]
      · rw [if_neg c2]
        congr 1
        rw [eq_iff_iff]
        constructor
        · rintro ⟨h1, h2, h3⟩; exact ⟨h1, by omega, h3⟩
        · rintro ⟨h1, h2, h3⟩; exact ⟨h1, by omega, h3⟩
    · rw [if_neg c, h a b ha hb]
      congr 1
      rw [eq_iff_iff]
      constructor
      · rintro ⟨h1, h2, h3⟩; exact ⟨h1, by omega, h3⟩
      · rintro ⟨h1, h2, h3⟩
        refine ⟨h1, ?_, h3⟩
        by_cases e : b = k
        · subst e; subst h1; exact (c h3).elim
        · omega) ⟨W, x4, fun a b _ _ => by simp, rfl⟩
  obtain ⟨ρ', e, W', y4, h, rfl⟩ := loop
  refine ⟨W', y4, fun a b ha hb => ?_, ?_⟩
  · rw [h a b ha hb]; simp [hb]
  · have hn3 : (n : Int) < 1000000000 ∧ -1000000000 < (n : Int) := by omega
    simp only [fb_Shares_init_b2, q_sFor, q_upI, vRng1, q_aCons, q_aNil, q_vFld, q_vVarZ, List.getElem?_cons_succ, List.getElem?_cons_zero, Option.bind_some, sea_size, Option.map_some, hn3, and_self, if_true, dRange0]
    exact e
theorem shares_ev (k : Ok n w l) {s : Nat} (hs : s < n) : m_Shares_init C C2 [.obj C2 [] [], seaD C n w l, .int s] = some (.non, shD C C2 n w l (w s + sumR n (l s)) (won0 s l)) := by
  have hn := k.n12
  have hn3 : (n : Int) < 1000000000 ∧ -1000000000 < (n : Int) := by omega
  have loop := forL_inv (g := gN 3) (b := fb_Shares_init_b2 C C2) (I := fun j : Nat => D.int j) (List.range n) (fun k ρ => ∃ W' y3 y4, (∀ a b, a < n → b < n → W' a b = if a < k ∧ a ≠ s ∧ (b = s ∨ a < b) then 0 else l a b) ∧ ρ = stI C C2 n w l (w s + sumR n (l s)) W' s y3 y4 none)
    (ρ := stI C C2 n w l (w s + sumR n (l s)) l s none none none) (fun k j ρ hk ⟨W', y3, y4, h, e⟩ => by
    subst e
    obtain ⟨k1, k2⟩ := List.getElem?_eq_some_iff.mp hk
    simp at k1 k2
    subst k2
    obtain ⟨W2, z4, h2, e2⟩ := init_b2 (C := C) (C2 := C2) (w := w) (l := l) (most := w s + sumR n (l s)) (s := s) k1 W' y4 none hn
    refine ⟨_, _, rfl, .inl e2, W2, _, z4, ?_, rfl⟩
    intro a b ha hb
    rw [h2 a b ha hb, h a b ha hb]
    by_cases c : a = k
    · subst c
      by_cases c2 : a ≠ s ∧ (b = s ∨ a < b)
      · rw [if_pos ⟨rfl, c2⟩, if_pos ⟨by omega, c2⟩]
      · rw [if_neg (fun z => c2 z.2), if_neg (fun z => c2 z.2), if_neg (fun z => c2 z.2)]
    · rw [if_neg (fun z => c z.1)]
      congr 1
      rw [eq_iff_iff]
      constructor
      · rintro ⟨h1, h3⟩; exact ⟨by omega, h3⟩
      · rintro ⟨h1, h3⟩; exact ⟨by omega, h3⟩) ⟨l, none, none, fun a b _ _ => by simp, rfl⟩
  obtain ⟨ρ', e, W', y3, y4, h, rfl⟩ := loop
  have eW : shD C C2 n w l (w s + sumR n (l s)) W' = shD C C2 n w l (w s + sumR n (l s)) (won0 s l) := shD_congr fun a b ha hb => by
    rw [h a b ha hb]
    unfold won0
    simp [ha]
  have c1 : ∀ x0, PlainAt [x0, some (.z, seaD C n w l), some (.z, .int s), none, none, none] [5] = true → fb_Shares_init_c1 C [x0, some (.z, seaD C n w l), some (.z, .int s), none, none, none] = some (matL n l) := fun x0 hx => by
    refine vLc_map (I := fun i => rowT n (l i)) (xs := List.range n) hx (by simp) (by simp; omega) fun i m => ⟨_, rfl, ?_⟩
    simp
  let Sq := D.obj C2 ["season"] [seaD C n w l]
  have s1 := sFld_ev (C := C2) (i := 0) (f := "season") (fe := up (vVarZ 1)) (ρ := [some (shS, .obj C2 [] []), some (.z, seaD C n w l), some (.z, .int s), none, none, none]) (ns := []) (ds := []) (g := fun n => if n = ("won" : Str) then (.seq (.seq .z)) else .z) rfl rfl (by decide) (by decide) rfl
  have s2 := sFld_ev (C := C2) (i := 0) (f := "most") (fe := up (vMeth 2 C "most" (m_Season_most C) (vVarZ 1) (aCons (vVarZ 2) aNil))) (ρ := [some (shS, .obj C2 ["season"] [seaD C n w l]), some (.z, seaD C n w l), some (.z, .int s), none, none, none]) (ns := ["season"]) (ds := [seaD C n w l]) (g := fun n => if n = ("won" : Str) then (.seq (.seq .z)) else .z)
    (d := .int (w s + sumR n (l s))) (ρ' := [some (shS, .obj C2 ["season"] [seaD C n w l]), some (.z, seaD C n w l), some (.z, .int s), none, none, none]) (by simp [most_ev hs]) rfl (by decide) (by decide) rfl
  have s3 := sFldO_ev (C := C2) (i := 0) (f := "won") (fe := up (fb_Shares_init_c1 C)) (ρ := [some (shS, .obj C2 ["season", "most"] [seaD C n w l, .int (w s + sumR n (l s))]), some (.z, seaD C n w l), some (.z, .int s), none, none, none]) (ns := ["season", "most"]) (ds := [seaD C n w l, .int (w s + sumR n (l s))]) (g := fun n => if n = ("won" : Str) then (.seq (.seq .z)) else .z)
    (s := .seq (.seq .z)) (d := matL n l) (ρ' := [some (shS, .obj C2 ["season", "most"] [seaD C n w l, .int (w s + sumR n (l s))]), some (.z, seaD C n w l), some (.z, .int s), none, none, none]) (by rw [q_up, c1 _ rfl]; rfl) rfl (by decide) (by decide) shS_won
  have e' : fb_Shares_init C C2 [some (shS, .obj C2 [] []), some (.z, seaD C n w l), some (.z, .int s), none, none, none] = some (.nx (stI C C2 n w l (w s + sumR n (l s)) W' s y3 y4 none)) := by
    unfold fb_Shares_init
    refine (sSeq_nx s1).trans ((sSeq_nx s2).trans ((sSeq_nx s3).trans ?_))
    simp only [q_sFor, q_upI, vRng1, q_aCons, q_aNil, q_vFld, q_vVarZ, List.set_cons_zero, List.getElem?_cons_succ, List.getElem?_cons_zero, Option.bind_some, sea_size, Option.map_some, hn3, and_self, if_true, dRange0]
    exact e
  have e2 : fb_Shares_init C C2 (argS 0 shS [.obj C2 [] [], seaD C n w l, .int s] ++ List.replicate 3 none) = _ := e'
  unfold m_Shares_init
  rw [e2, q_endIO_nx]
  simp only [List.getElem?_cons_zero, q_eqb, if_true, eW]
/-! ### what a side has -/
def has (n : Nat) (w : Nat → Int) (won : Nat → Nat → Int) (i : Nat) : Int := w i + sumR n (won i)
theorem wins_ev {i : Nat} (hi : i < n) : m_Shares_wins C C2 [shD C C2 n w l most won, .int i] = some (.int (has n w won i)) := by
  simp [m_Shares_wins, fb_Shares_wins, hi, has, sumR]
def overL (n : Nat) (w : Nat → Int) (won : Nat → Nat → Int) (most : Int) : List Nat := (List.range n).filter fun i => decide (most < has n w won i)
theorem over_ev (hn : n ≤ 12) : m_Shares_over C C2 [shD C C2 n w l most won] = some (.lst ((overL n w won most).map fun i : Nat => .int i)) := by
  have hn3 : (n : Int) < 1000000000 ∧ -1000000000 < (n : Int) := by omega
  have c1 : fb_Shares_over_c1 C C2 [some (.z, shD C C2 n w l most won), none] = some (.lst ((overL n w won most).map fun i : Nat => .int i)) := by
    refine vLc_eq (I := fun i : Nat => .int i) (xs := List.range n) rfl (by simp [vRng1, hn3]) (by simp; omega) fun i m => ⟨_, rfl, ?_, fun _ => ?_⟩
    · have hi := List.mem_range.mp m
      simp [wins_ev hi]
    · simp
  simp [m_Shares_over, fb_Shares_over, c1]
end
end K06

set_option Elab.async false
set_option linter.all false
set_option maxRecDepth 100000
noncomputable section
namespace K06
open PySem PySem.Spec PyProof.Rows L2 VL
section
variable {C C2 : Addr} {n : Nat} {w : Nat → Int} {l : Nat → Nat → Int} {most : Int} {won : Nat → Nat → Int}
theorem nodup_le : ∀ (n : Nat) (ks : List Nat), ks.Nodup → (∀ k ∈ ks, k < n) → ks.length ≤ n
  | 0, ks, _, h => by
    cases ks with
    | nil => simp
    | cons k ks => exact absurd (h k List.mem_cons_self) (Nat.not_lt_zero _)
  | n + 1, ks, hn, h => by
    by_cases m : n ∈ ks
    · have ih := nodup_le n (ks.erase n) (hn.erase n) fun k hk => by
        have := (hn.mem_erase_iff).mp hk
        have := h k this.2
        omega
      rw [List.length_erase_of_mem m] at ih
      omega
    · have ih := nodup_le n ks hn fun k hk => by
        have := h k hk
        have : k ≠ n := fun e => m (e ▸ hk)
        omega
      omega
/-- the sides come to, each but the first with the one ahead of it -/
structure Way (n : Nat) (won : Nat → Nat → Int) (s : Nat) (ks : List Nat) (ps : List D) : Prop where
  nd : ks.Nodup
  lt : ∀ k ∈ ks, k < n
  len : ks.length = ps.length
  h0 : ks[0]? = some s ∧ ps[0]? = some .non
  par : ∀ i, 0 < i → i < ks.length → ∃ j a b, j < i ∧ ks[j]? = some a ∧ ks[i]? = some b ∧ ps[i]? = some (.int a) ∧ 0 < won a b
theorem Way.le {s : Nat} {ks : List Nat} {ps : List D} (h : Way n won s ks ps) : ks.length ≤ n := by
  exact nodup_le n ks h.nd h.lt
theorem Way.snoc {s : Nat} {ks : List Nat} {ps : List D} (h : Way n won s ks ps) {j a b : Nat} (hj : ks[j]? = some a) (hb : b < n) (hnb : b ∉ ks) (hw : 0 < won a b) : Way n won s (ks ++ [b]) (ps ++ [.int a]) := by
  have hjl := (List.getElem?_eq_some_iff.mp hj).1
  refine ⟨List.nodup_append.mpr ⟨h.nd, by simp, fun x hx y hy e => ?_⟩, fun k m => ?_, by simp [h.len], ⟨?_, ?_⟩, fun i hi hil => ?_⟩
  · rw [List.mem_singleton.mp hy] at e
    exact hnb (e ▸ hx)
  · rcases List.mem_append.mp m with m | m
    · exact h.lt k m
    · rw [List.mem_singleton.mp m]; exact hb
  · rw [List.getElem?_append_left (by omega)]; exact h.h0.1
  · rw [List.getElem?_append_left (by rw [← h.len]; omega)]; exact h.h0.2
  · by_cases e : i < ks.length
    · obtain ⟨j', a', b', h1, h2, h3, h4, h5⟩ := h.par i hi e
      exact ⟨j', a', b', h1, by rw [List.getElem?_append_left (by omega)]; exact h2, by rw [List.getElem?_append_left e]; exact h3, by rw [List.getElem?_append_left (by rw [← h.len]; exact e)]; exact h4, h5⟩
    · simp at hil
      have e2 : i = ks.length := by omega
      subst e2
      exact ⟨j, a, b, hjl, by rw [List.getElem?_append_left hjl]; exact hj, by simp, by rw [h.len]; simp, hw⟩
abbrev stR (C C2 : Addr) (n : Nat) (w : Nat → Int) (l : Nat → Nat → Int) (most : Int) (won : Nat → Nat → Int) (s : Nat) (ks : List Nat) (ps : List D) (at' : Nat) (x5 : Slot) : Sto :=
  [some (.z, shD C C2 n w l most won), some (.z, .int s), some (.seq .z, .dicK (keysK ks) ps), some (.seq .z, .lst (ks.map fun k : Nat => .int k)), some (.z, .int at'), x5]
theorem reached_b1 (hn : n ≤ 12) {s j a b : Nat} {ks : List Nat} {ps : List D} (h : Way n won s ks ps) (hj : ks[j]? = some a) (hb : b < n) : ∃ ks' ps', Way n won s ks' ps' ∧ (ks <+: ks') ∧ (0 < won a b → b ∈ ks') ∧
    fb_Shares_reached_b1 C2 (stR C C2 n w l most won s ks ps j (some (.z, .int b))) = some (.nx (stR C C2 n w l most won s ks' ps' j (some (.z, .int b)))) := by
  have ha : a < n := h.lt a (List.mem_of_getElem? hj)
  have ht : tAndF (vB (v2 dDNotIn (vVarZ 5) (vVarS 2))) (vB (v2 dGt (v2 dIx (v2 dIx (vFld C2 "won" (vVarZ 0)) (v2 dIx (vVarS 3) (vVarZ 4))) (vVarZ 5)) (vC (.int 0)))) (stR C C2 n w l most won s ks ps j (some (.z, .int b))) = some (decide (b ∉ ks ∧ 0 < won a b)) := by
    have e1 := dlook_some (k := b) h.len
    cases hq : dlook (keysK ks) ps (.inl (b : Int)) with
    | some p =>
      rw [hq] at e1
      have h1 : b ∈ ks := by simpa using e1.symm
      simp [h1, hq]
    | none =>
      rw [hq] at e1
      have h1 : b ∉ ks := by simpa using e1.symm
      simp [h1, hq, hj, ha, hb]
  unfold fb_Shares_reached_b1
  rw [sIf_t _ ht]
  by_cases c : b ∉ ks ∧ 0 < won a b
  · refine ⟨ks ++ [b], ps ++ [.int a], h.snoc hj hb c.1 c.2, List.prefix_append _ _, fun _ => by simp, ?_⟩
    have hl := h.le
    have l1 : (keysK ks).length < 1000000 := by simp [keysK]; omega
    have l2 : ks.length < 1000000 := by omega
    rw [if_pos (by simpa using c)]
    simp [hj, l1, l2, dputK_new c.1]
  · refine ⟨ks, ps, h, List.prefix_rfl, fun z => ?_, ?_⟩
    · exact Classical.byContradiction fun m => c ⟨m, z⟩
    · rw [if_neg (by simpa using c)]; rfl
theorem reached_b2 (hn : n ≤ 12) {s j a : Nat} {ks : List Nat} {ps : List D} (h : Way n won s ks ps) (hj : ks[j]? = some a) (x5 : Slot) : ∃ ks' ps' y5, Way n won s ks' ps' ∧ (ks <+: ks') ∧ (∀ b, b < n → 0 < won a b → b ∈ ks') ∧
    fb_Shares_reached_b2 C C2 (stR C C2 n w l most won s ks ps j x5) = some (.nx (stR C C2 n w l most won s ks' ps' (j + 1) y5)) := by
  have hn3 : (n : Int) < 1000000000 ∧ -1000000000 < (n : Int) := by omega
  have loop := forL_inv (g := gN 5) (b := fb_Shares_reached_b1 C2) (I := fun j : Nat => D.int j) (List.range n) (fun k ρ => ∃ ks' ps' y5, Way n won s ks' ps' ∧ (ks <+: ks') ∧ (∀ b, b < k → 0 < won a b → b ∈ ks') ∧ ρ = stR C C2 n w l most won s ks' ps' j y5)
    (ρ := stR C C2 n w l most won s ks ps j x5) (fun k i ρ hk ⟨ks', ps', y5, h1, h2, h3, e⟩ => by
    subst e
    obtain ⟨k1, k2⟩ := List.getElem?_eq_some_iff.mp hk
    simp at k1 k2
    subst k2
    have hj' : ks'[j]? = some a := by
      obtain ⟨t, rfl⟩ := h2
      rw [List.getElem?_append_left (List.getElem?_eq_some_iff.mp hj).1]; exact hj
    obtain ⟨ks2, ps2, g1, g2, g3, g4⟩ := reached_b1 (C := C) (C2 := C2) (w := w) (l := l) (most := most) hn h1 hj' k1
    refine ⟨_, _, rfl, .inl g4, ks2, ps2, _, g1, h2.trans g2, fun b hb hw => ?_, rfl⟩
    by_cases e : b = k
    · subst e; exact g3 hw
    · exact g2.subset (h3 b (by omega) hw)) ⟨ks, ps, x5, h, List.prefix_rfl, fun b hb => absurd hb (Nat.not_lt_zero _), rfl⟩
  obtain ⟨ρ', e, ks', ps', y5, h1, h2, h3, rfl⟩ := loop
  rw [List.length_range] at h3
  refine ⟨ks', ps', y5, h1, h2, h3, ?_⟩
  have e0 : sFor (upI (vRng1 (aCons (vFld C "size" (vFld C2 "season" (vVarZ 0))) aNil))) (gN 5) (fb_Shares_reached_b1 C2) (stR C C2 n w l most won s ks ps j x5) = some (.nx (stR C C2 n w l most won s ks' ps' j y5)) := by
    simp only [q_sFor, q_upI, vRng1, q_aCons, q_aNil, q_vFld, q_vVarZ, List.getElem?_cons_succ, List.getElem?_cons_zero, Option.bind_some, sh_season, sea_size, Option.map_some, hn3, and_self, if_true, dRange0]
    exact e
  unfold fb_Shares_reached_b2
  rw [sSeq_nx e0]
  simp
theorem reached_ev (hn : n ≤ 12) {s : Nat} (hs : s < n) : ∃ ks ps, Way n won s ks ps ∧ (∀ a ∈ ks, ∀ b, b < n → 0 < won a b → b ∈ ks) ∧ m_Shares_reached C C2 [shD C C2 n w l most won, .int s] = some (.dicK (keysK ks) ps) := by
  have w0 : Way n won s [s] [.non] := ⟨by simp, fun k m => by rw [List.mem_singleton.mp m]; exact hs, rfl, ⟨rfl, rfl⟩, fun i hi hl => by simp at hl; omega⟩
  have wl := whileL_meas (t := fb_Shares_reached_t1) (b := fb_Shares_reached_b2 C C2) (fun m ρ => ∃ ks ps j y5, Way n won s ks ps ∧ j ≤ ks.length ∧ m + j = n ∧ (∀ i a, i < j → ks[i]? = some a → ∀ b, b < n → 0 < won a b → b ∈ ks) ∧ ρ = stR C C2 n w l most won s ks ps j y5) (fun _ => False)
    (fun m ρ ⟨ks, ps, j, y5, h1, h2, h3, h4, e⟩ => by
      subst e
      refine ⟨decide (j < ks.length), by simp [fb_Shares_reached_t1], fun c => .inl ?_⟩
      have c : j < ks.length := by simpa using c
      have hj : ks[j]? = some ks[j] := by simp [c]
      obtain ⟨ks', ps', z5, g1, g2, g3, g4⟩ := reached_b2 (C := C) (C2 := C2) (w := w) (l := l) (most := most) hn h1 hj y5
      have hle := h1.le
      have hlen := g2.length_le
      refine ⟨_, m - 1, .inl g4, by omega, ks', ps', j + 1, z5, g1, by omega, by omega, fun i a hi ha b hb hw => ?_, rfl⟩
      have pre : ∀ i x, ks[i]? = some x → ks'[i]? = some x := fun i x hx => by
        obtain ⟨t, rfl⟩ := g2
        rw [List.getElem?_append_left (List.getElem?_eq_some_iff.mp hx).1]; exact hx
      by_cases e : i = j
      · subst e
        rw [pre _ _ hj] at ha
        cases ha
        exact g3 b hb hw
      · have hi2 : i < ks.length := by omega
        have hx : ks[i]? = some ks[i] := by simp [hi2]
        rw [pre _ _ hx] at ha
        cases ha
        exact g2.subset (h4 i _ (by omega) hx b hb hw)) 1000 n (stR C C2 n w l most won s [s] [.non] 0 none) (by omega) ⟨[s], [.non], 0, none, w0, Nat.zero_le _, rfl, fun i a hi => absurd hi (Nat.not_lt_zero _), rfl⟩
  rcases wl with ⟨ρ', m', e, ⟨ks, ps, j, y5, h1, h2, h3, h4, rfl⟩, ht⟩ | ⟨_, _, _, f⟩
  · have hj : ¬ j < ks.length := by
      intro z
      simp [fb_Shares_reached_t1, z] at ht
    refine ⟨ks, ps, h1, fun a m b hb hw => ?_, ?_⟩
    · obtain ⟨i, hi, hx⟩ := List.mem_iff_getElem.mp m
      exact h4 i a (by omega) (by rw [← hx]; simp [hi]) b hb hw
    · have e' : whileL fb_Shares_reached_t1 (fb_Shares_reached_b2 C C2) 1000 [some (.z, shD C C2 n w l most won), some (.z, .int s), some (.seq .z, .dicK [.inl (s : Int)] [.non]), some (.seq .z, .lst [.int (s : Int)]), some (.z, .int 0), none] = _ := e
      simp [m_Shares_reached, fb_Shares_reached, e']
  · exact f.elim
end
end K06

set_option Elab.async false
set_option linter.all false
set_option maxRecDepth 100000
noncomputable section
namespace K06
open PySem PySem.Spec PyProof.Rows L2 VL
section
variable {C C2 : Addr} {n : Nat} {w : Nat → Int} {l : Nat → Nat → Int} {most : Int} {won : Nat → Nat → Int}
/-- the way from the i-th side back to the first one: all its wins are so -/
inductive PathOk (ks : List Nat) (ps : List D) (Q : Nat → Nat → Prop) : Nat → Prop
  | root : PathOk ks ps Q 0
  | step {i j a b : Nat} : 0 < i → j < i → ks[j]? = some a → ks[i]? = some b → ps[i]? = some (.int a) → Q a b → PathOk ks ps Q j → PathOk ks ps Q i
theorem PathOk.mono {ks : List Nat} {ps : List D} {Q Q' : Nat → Nat → Prop} {i : Nat} (h : PathOk ks ps Q i) : (∀ i' j' a b, i' ≤ i → j' < i' → ks[j']? = some a → ks[i']? = some b → Q a b → Q' a b) → PathOk ks ps Q' i := by
  induction h with
  | root => intro _; exact .root
  | step h0 hj h1 h2 h3 h4 _ ih =>
    intro k
    exact .step h0 hj h1 h2 h3 (k _ _ _ _ (Nat.le_refl _) hj h1 h2 h4) (ih fun i' j' a b hi hj' e1 e2 q => k i' j' a b (by omega) hj' e1 e2 q)
theorem nodup_inj {ks : List Nat} (h : ks.Nodup) {i j a : Nat} (h1 : ks[i]? = some a) (h2 : ks[j]? = some a) : i = j := by
  exact (List.getElem?_inj (List.getElem?_eq_some_iff.mp h1).1 h).mp (h1.trans h2.symm)
abbrev stM (C C2 : Addr) (n : Nat) (w : Nat → Int) (l : Nat → Nat → Int) (most : Int) (won : Nat → Nat → Int) (s g : Nat) (ks : List Nat) (ps : List D) (r : Int) : Sto :=
  [some (.z, shD C C2 n w l most won), some (.z, .dicK (keysK ks) ps), some (.z, .int s), some (.z, .int g), some (.z, .int r)]
theorem room_loop {s : Nat} {ks : List Nat} {ps : List D} (h : Way n won s ks ps) : ∀ (i : Nat) (g : Nat) (r : Int) (k : Nat), ks[i]? = some g → i < k → 0 < r → ∃ r', 0 < r' ∧ r' ≤ r ∧ PathOk ks ps (fun a b => r' ≤ won a b) i ∧
    whileL fb_Shares_room_on_t1 (fb_Shares_room_on_b1 C2) k (stM C C2 n w l most won s g ks ps r) = some (.nx (stM C C2 n w l most won s s ks ps r')) := by
  intro i
  induction i using Nat.strongRecOn with
  | _ i ih =>
    intro g r k hg hk hr
    obtain ⟨k, rfl⟩ : ∃ k', k = k' + 1 := ⟨k - 1, by omega⟩
    have hil := (List.getElem?_eq_some_iff.mp hg).1
    by_cases h0 : i = 0
    · subst h0
      have : g = s := by have := h.h0.1; rw [hg] at this; exact Option.some.inj this
      subst this
      refine ⟨r, hr, Int.le_refl _, .root, ?_⟩
      unfold whileL
      have ht : fb_Shares_room_on_t1 (stM C C2 n w l most won g g ks ps r) = some (false, stM C C2 n w l most won g g ks ps r) := by simp [fb_Shares_room_on_t1]
      rw [ht]; rfl
    · obtain ⟨j, a, b, hj, e1, e2, e3, hw⟩ := h.par i (by omega) hil
      rw [hg] at e2; cases e2
      have ha : a < n := h.lt a (List.mem_of_getElem? e1)
      have hb : g < n := h.lt g (List.mem_of_getElem? hg)
      have hgs : g ≠ s := fun e => h0 (nodup_inj h.nd (by rw [hg, e]) h.h0.1)
      have dl := dlook_get h.nd hg e3
      obtain ⟨r', p1, p2, p3, p4⟩ := ih j hj a (if won a g < r then won a g else r) k e1 (by omega) (by split <;> omega)
      refine ⟨r', p1, by split at p2 <;> omega, .step (by omega) hj e1 hg e3 (by split at p2 <;> omega) p3, ?_⟩
      unfold whileL
      have ht : fb_Shares_room_on_t1 (stM C C2 n w l most won s g ks ps r) = some (true, stM C C2 n w l most won s g ks ps r) := by
        have : ¬ (g : Int) = s := by omega
        simp [fb_Shares_room_on_t1, this]
      have hbd : fb_Shares_room_on_b1 C2 (stM C C2 n w l most won s g ks ps r) = some (.nx (stM C C2 n w l most won s a ks ps (if won a g < r then won a g else r))) := by
        simp [fb_Shares_room_on_b1, dl, ha, hb]
      rw [ht, Option.bind_some]
      simp only [if_true]
      rw [hbd]
      exact p4
theorem room_ev {s : Nat} {ks : List Nat} {ps : List D} (h : Way n won s ks ps) (hn : n ≤ 12) {i g : Nat} (hg : ks[i]? = some g) (h1 : most < has n w won s) (h2 : has n w won g < most) : ∃ r, 0 < r ∧ r ≤ has n w won s - most ∧ r ≤ most - has n w won g ∧ PathOk ks ps (fun a b => r ≤ won a b) i ∧
    m_Shares_room_on C C2 [shD C C2 n w l most won, .dicK (keysK ks) ps, .int s, .int g] = some (.int r) := by
  have hs : s < n := h.lt s (List.mem_of_getElem? h.h0.1)
  have hgn : g < n := h.lt g (List.mem_of_getElem? hg)
  have hil := (List.getElem?_eq_some_iff.mp hg).1
  have hle := h.le
  obtain ⟨r, p1, p2, p3, p4⟩ := room_loop (C := C) (C2 := C2) (w := w) (l := l) (most := most) h i g (if most - has n w won g < has n w won s - most then most - has n w won g else has n w won s - most) 1000 hg (by omega) (by split <;> omega)
  refine ⟨r, p1, by split at p2 <;> omega, by split at p2 <;> omega, p3, ?_⟩
  have p4' : whileL fb_Shares_room_on_t1 (fb_Shares_room_on_b1 C2) 1000 [some (.z, shD C C2 n w l most won), some (.z, .dicK (keysK ks) ps), some (.z, .int s), some (.z, .int g), some (.z, .int (if most - has n w won g < has n w won s - most then most - has n w won g else has n w won s - most))] = _ := p4
  simp [m_Shares_room_on, fb_Shares_room_on, wins_ev hs, wins_ev hgn, p4']
/-! ### wins handed on -/
theorem sumR_set {f : Nat → Int} {b : Nat} (v : Int) (hb : b < n) : sumR n (fun x => if x = b then v else f x) = sumR n f + (v - f b) := by
  unfold sumR
  have aux : ∀ m, ((List.range m).map fun x => if x = b then v else f x).sum = ((List.range m).map f).sum + if b < m then v - f b else 0 := by
    intro m
    induction m with
    | zero => simp
    | succ m ih =>
      rw [List.range_succ, List.map_append, List.map_append, List.sum_append, List.sum_append, ih]
      by_cases e : m = b
      · subst e
        simp
        omega
      · by_cases c : b < m
        · have : b < m + 1 := by omega
          simp [e, c, this]; omega
        · have : ¬ b < m + 1 := by omega
          simp [e, c, this]
  rw [aux n, if_pos hb]
theorem sumR_congr {f g : Nat → Int} (h : ∀ i, i < n → f i = g i) : sumR n f = sumR n g := by
  unfold sumR
  rw [List.map_congr_left fun i m => h i (List.mem_range.mp m)]
/-- what one step makes of the wins -/
def handM (won : Nat → Nat → Int) (a b : Nat) (m : Int) : Nat → Nat → Int := setM (setM won a b (won a b - m)) b a (setM won a b (won a b - m) b a + m)
theorem handM_val {a b : Nat} (hab : a ≠ b) (m : Int) (x y : Nat) : handM won a b m x y = if x = a ∧ y = b then won a b - m else if x = b ∧ y = a then won b a + m else won x y := by
  unfold handM setM
  by_cases h1 : x = a ∧ y = b
  · obtain ⟨rfl, rfl⟩ := h1
    simp [hab]
  · by_cases h2 : x = b ∧ y = a
    · obtain ⟨rfl, rfl⟩ := h2
      simp [hab]
    · simp [h1, h2]
theorem handM_row {a b : Nat} (hab : a ≠ b) (ha : a < n) (hb : b < n) (m : Int) (x : Nat) : sumR n (handM won a b m x) = sumR n (won x) + (if x = b then m else 0) - if x = a then m else 0 := by
  have e : handM won a b m x = fun y => if x = a then (if y = b then won a b - m else won x y) else if x = b then (if y = a then won b a + m else won x y) else won x y := by
    funext y
    rw [handM_val hab]
    by_cases h1 : x = a
    · subst h1
      by_cases h2 : y = b
      · simp [h2]
      · simp [h2, hab]
    · by_cases h3 : x = b
      · subst h3
        by_cases h4 : y = a
        · simp [h4, h1]
        · simp [h4, h1]
      · simp [h1, h3]
  rw [e]
  by_cases h1 : x = a
  · subst h1
    simp only [if_true, hab, if_false]
    rw [sumR_set _ hb]; omega
  · by_cases h3 : x = b
    · subst h3
      simp only [h1, if_false, if_true]
      rw [sumR_set _ ha]; omega
    · simp [h1, h3]
abbrev stH (C C2 : Addr) (n : Nat) (w : Nat → Int) (l : Nat → Nat → Int) (most : Int) (won : Nat → Nat → Int) (s g : Nat) (ks : List Nat) (ps : List D) (m : Int) (x5 : Slot) : Sto :=
  [some (shS, shD C C2 n w l most won), some (.z, .dicK (keysK ks) ps), some (.z, .int s), some (.z, .int g), some (.z, .int m), x5]
theorem hand_loop {s : Nat} {ks : List Nat} {ps : List D} {m : Int} {W0 : Nat → Nat → Int} (h : Way n W0 s ks ps) (hm : 0 ≤ m) : ∀ (i : Nat) (won : Nat → Nat → Int) (g k : Nat) (x5 : Slot), ks[i]? = some g → i < k → PathOk ks ps (fun a b => m ≤ won a b) i → ∃ won' y5,
    (∀ x y, won' x y + won' y x = won x y + won y x) ∧ (∀ x, sumR n (won' x) = sumR n (won x) + (if x = g then m else 0) - if x = s then m else 0) ∧ (∀ x y, 0 ≤ won x y → 0 ≤ won' x y) ∧ (∀ x y, x ∉ ks ∨ y ∉ ks → won' x y = won x y) ∧
    whileL fb_Shares_hand_on_t1 (fb_Shares_hand_on_b1 C2) k (stH C C2 n w l most won s g ks ps m x5) = some (.nx (stH C C2 n w l most won' s s ks ps m y5)) := by
  intro i
  induction i using Nat.strongRecOn with
  | _ i ih =>
    intro won g k x5 hg hk hp
    obtain ⟨k, rfl⟩ : ∃ k', k = k' + 1 := ⟨k - 1, by omega⟩
    cases hp with
    | root =>
      have : g = s := by have := h.h0.1; rw [hg] at this; exact Option.some.inj this
      subst this
      refine ⟨won, x5, fun _ _ => rfl, fun x => by split <;> omega, fun _ _ z => z, fun _ _ _ => rfl, ?_⟩
      unfold whileL
      have ht : fb_Shares_hand_on_t1 (stH C C2 n w l most won g g ks ps m x5) = some (false, stH C C2 n w l most won g g ks ps m x5) := by simp [fb_Shares_hand_on_t1]
      rw [ht]; rfl
    | @step _ j a b h0 hj e1 e2 e3 hw hpj =>
      rw [hg] at e2; cases e2
      have ma := List.mem_of_getElem? e1
      have mb := List.mem_of_getElem? hg
      have ha : a < n := h.lt a ma
      have hb : g < n := h.lt g mb
      have hgs : g ≠ s := fun e => by have := nodup_inj h.nd (by rw [hg, e]) h.h0.1; omega
      have hab : a ≠ g := fun e => by have := nodup_inj h.nd e1 (by rw [hg, e]); omega
      have dl := dlook_get h.nd hg e3
      have hp' : PathOk ks ps (fun x y => m ≤ handM won a g m x y) j := hpj.mono fun i' j' x y hi' hj' q1 q2 q => by
        rw [handM_val hab, if_neg, if_neg]
        · exact q
        · rintro ⟨rfl, rfl⟩
          have := nodup_inj h.nd q1 hg
          omega
        · rintro ⟨rfl, rfl⟩
          have := nodup_inj h.nd q2 hg
          omega
      obtain ⟨won', y5, p1, p2, p3, p4, p5⟩ := ih j hj (handM won a g m) a k (some (.z, .int a)) e1 (by omega) hp'
      refine ⟨won', y5, fun x y => ?_, fun x => ?_, fun x y hxy => p3 x y ?_, fun x y hxy => ?_, ?_⟩
      · rw [p1, handM_val hab, handM_val hab]
        by_cases c1 : x = a ∧ y = g
        · obtain ⟨rfl, rfl⟩ := c1
          simp [hab, Ne.symm hab]; omega
        · by_cases c2 : x = g ∧ y = a
          · obtain ⟨rfl, rfl⟩ := c2
            simp [hab, Ne.symm hab]; omega
          · rw [if_neg c1, if_neg c2, if_neg (fun z => c2 ⟨z.2, z.1⟩), if_neg (fun z => c1 ⟨z.2, z.1⟩)]
      · rw [p2, handM_row hab ha hb]
        by_cases c1 : x = a
        · subst c1
          simp [hab]
        · simp [c1]
      · rw [handM_val hab]
        split
        · omega
        · split
          · rename_i c; rw [c.1, c.2] at hxy; omega
          · exact hxy
      · rw [p4 x y hxy, handM_val hab, if_neg, if_neg]
        · rintro ⟨rfl, rfl⟩; exact hxy.elim (fun z => z mb) fun z => z ma
        · rintro ⟨rfl, rfl⟩; exact hxy.elim (fun z => z ma) fun z => z mb
      · unfold whileL
        have ht : fb_Shares_hand_on_t1 (stH C C2 n w l most won s g ks ps m x5) = some (true, stH C C2 n w l most won s g ks ps m x5) := by
          have : ¬ (g : Int) = s := by omega
          simp [fb_Shares_hand_on_t1, this]
        have s1 : (sSet 5 .z (up (v2 dDGet (vVarZ 1) (vVarZ 3)))) (stH C C2 n w l most won s g ks ps m x5) = some (.nx (stH C C2 n w l most won s g ks ps m (some (.z, .int a)))) := by simp [dl]
        have s2 := aug_won (C := C) (C2 := C2) (w := w) (l := l) (most := most) (won := won) (i := a) (j := g) ha hb (fi := vVarZ 5) (fj := vVarZ 3) (fe := vVarZ 4) (g := dSub) (v := won a g - m) (u := m) (ρ := [some (.z, .dicK (keysK ks) ps), some (.z, .int s), some (.z, .int g), some (.z, .int m), some (.z, .int a)]) rfl rfl rfl (by simp)
        have s3 := aug_won (C := C) (C2 := C2) (w := w) (l := l) (most := most) (won := setM won a g (won a g - m)) (i := g) (j := a) hb ha (fi := vVarZ 3) (fj := vVarZ 5) (fe := vVarZ 4) (g := dAddI) (v := setM won a g (won a g - m) g a + m) (u := m) (ρ := [some (.z, .dicK (keysK ks) ps), some (.z, .int s), some (.z, .int g), some (.z, .int m), some (.z, .int a)]) rfl rfl rfl (by simp)
        have hbd : fb_Shares_hand_on_b1 C2 (stH C C2 n w l most won s g ks ps m x5) = some (.nx (stH C C2 n w l most (handM won a g m) s a ks ps m (some (.z, .int a)))) := by
          unfold fb_Shares_hand_on_b1
          rw [sSeq_nx s1, sSeq_nx s2, sSeq_nx s3]
          rfl
        rw [ht, Option.bind_some]
        simp only [if_true]
        rw [hbd]
        exact p5
end
end K06

set_option Elab.async false
set_option linter.all false
set_option maxRecDepth 100000
noncomputable section
namespace K06
open PySem PySem.Spec PyProof.Rows L2 VL
section
variable {C C2 : Addr} {n : Nat} {w : Nat → Int} {l : Nat → Nat → Int} {most : Int} {won : Nat → Nat → Int}
theorem hand_ev {s : Nat} {ks : List Nat} {ps : List D} {m : Int} (h : Way n won s ks ps) (hn : n ≤ 12) (hm : 0 ≤ m) {i g : Nat} (hg : ks[i]? = some g) (hp : PathOk ks ps (fun a b => m ≤ won a b) i) : ∃ won',
    (∀ x y, won' x y + won' y x = won x y + won y x) ∧ (∀ x, sumR n (won' x) = sumR n (won x) + (if x = g then m else 0) - if x = s then m else 0) ∧ (∀ x y, 0 ≤ won x y → 0 ≤ won' x y) ∧ (∀ x y, x ∉ ks ∨ y ∉ ks → won' x y = won x y) ∧
    m_Shares_hand_on C2 [shD C C2 n w l most won, .dicK (keysK ks) ps, .int s, .int g, .int m] = some (.non, shD C C2 n w l most won') := by
  have hil := (List.getElem?_eq_some_iff.mp hg).1
  have hle := h.le
  obtain ⟨won', y5, p1, p2, p3, p4, p5⟩ := hand_loop (C := C) (C2 := C2) (w := w) (l := l) (most := most) h hm i won g 1000 none hg (by omega) hp
  refine ⟨won', p1, p2, p3, p4, ?_⟩
  have e : fb_Shares_hand_on C2 (argS 0 shS [shD C C2 n w l most won, .dicK (keysK ks) ps, .int s, .int g, .int m] ++ List.replicate 1 none) = _ := p5
  unfold m_Shares_hand_on
  rw [e, q_endIO_nx]
  simp only [List.getElem?_cons_zero, q_eqb, if_true]
/-! ### the excess -/
def exc (n : Nat) (w : Nat → Int) (won : Nat → Nat → Int) (most : Int) : Nat := ((List.range n).map fun i => (has n w won i - most).toNat).sum
theorem sum_lt {xs : List Nat} {f g : Nat → Nat} (h : ∀ x ∈ xs, f x ≤ g x) {a : Nat} (ha : a ∈ xs) (hlt : f a < g a) : (xs.map f).sum < (xs.map g).sum := by
  induction xs with
  | nil => cases ha
  | cons x xs ih =>
    have hle : (xs.map f).sum ≤ (xs.map g).sum := by
      clear ih ha
      induction xs with
      | nil => simp
      | cons y ys ih2 =>
        have := h y (by simp)
        have := ih2 fun z m => h z (by
          rcases List.mem_cons.mp m with m | m
          · simp [m]
          · simp [m])
        simp; omega
    have h0 := h x (by simp)
    rcases List.mem_cons.mp ha with e | e
    · subst e; simp; omega
    · have := ih (fun z m => h z (List.mem_cons_of_mem _ m)) e
      simp; omega
structure Inv6 (n : Nat) (l : Nat → Nat → Int) (s : Nat) (won : Nat → Nat → Int) : Prop where
  pos : ∀ x y, x < n → y < n → 0 ≤ won x y
  two : ∀ x y, x < n → y < n → won x y + won y x = l x y
  own : ∀ y, y < n → won s y = l s y
/-- what decide_first hands back -/
inductive Dec (n : Nat) (w : Nat → Int) (l : Nat → Nat → Int) (s : Nat) : D → Prop
  | won (W : Nat → Nat → Int) (h : Inv6 n l s W) (hle : ∀ i, i < n → has n w W i ≤ has n w l s) : Dec n w l s (.tup [.str "won", matT n W])
  | lot (W : Nat → Nat → Int) (h : Inv6 n l s W) (L : List Nat) (hL : L.Pairwise (· < ·)) (hn : ∀ i ∈ L, i < n) (hs : s ∉ L) (h0 : L ≠ []) (hge : ∀ i ∈ L, has n w l s ≤ has n w W i) (hgt : ∃ i ∈ L, has n w l s < has n w W i) (hcl : ∀ a ∈ L, ∀ b, b < n → 0 < W a b → b ∈ L) : Dec n w l s (.tup [.str "lot", .tup (L.map fun i : Nat => .int i)])
theorem keys_sorted (ks : List Nat) (hn : ks.Nodup) (hl : ks.length < 64) (ps : List D) : ∃ L : List Nat, L.Pairwise (· < ·) ∧ (∀ i, i ∈ L ↔ i ∈ ks) ∧ dSortedDK (.dicK (keysK ks) ps) = some (.lst (L.map fun i : Nat => .int i)) := by
  let ms := ks.mergeSort (· ≤ ·)
  have hp : ms.Perm ks := List.mergeSort_perm ks _
  have hs : ms.Pairwise (· ≤ ·) := by
    have := List.pairwise_mergeSort (le := fun a b : Nat => decide (a ≤ b)) (fun a b c h1 h2 => by simp at *; omega) (fun a b => by simp; omega) ks
    exact this.imp fun h => by simpa using h
  have hnd : ms.Nodup := hp.nodup_iff.mpr hn
  refine ⟨ms, (List.pairwise_and_iff.mpr ⟨hs, hnd⟩).imp fun ⟨a, b⟩ => by omega, fun i => hp.mem_iff, ?_⟩
  have e1 : keyInts (keysK ks) = some (ks.map fun k : Nat => (k : Int)) := by
    have := keyInts_map (ks.map fun k : Nat => (k : Int))
    rw [List.map_map] at this
    exact this
  simp only [dSortedDK, e1, Option.bind_some, List.length_map]
  rw [if_pos hl]
  have e2 : isort (ks.map fun k : Nat => (k : Int)) = ms.map fun k : Nat => (k : Int) := by
    have p1 : (isort (ks.map fun k : Nat => (k : Int))).Perm (ms.map fun k : Nat => (k : Int)) := (isort_perm _).trans (hp.symm.map _)
    exact List.Perm.eq_of_pairwise (le := (· ≤ ·)) (fun a b _ _ h1 h2 => by omega) (isort_le _) (List.pairwise_map.mpr (hs.imp fun h => by omega)) p1
  rw [e2, List.map_map]
  rfl
end
end K06

set_option Elab.async false
set_option linter.all false
set_option maxRecDepth 100000
noncomputable section
namespace K06
open PySem PySem.Spec PyProof.Rows L2 VL
section
variable {C C2 : Addr} {n : Nat} {w : Nat → Int} {l : Nat → Nat → Int} {most : Int} {won : Nat → Nat → Int}
theorem eMethIO_ev {k j : Nat} {C : Addr} {mn : Str} {sh : Sh} {m : List D → Option (D × D)} {fs : Sto → Option (List D)} {ρ : Sto} {ns : List Str} {ds xs : List D} {r d' : D} (h1 : ρ[j]? = some (some (sh, .obj C ns ds))) (h2 : mn ∉ ns) (h3 : fs ρ = some xs) (h4 : xs.length + 1 = k) (h5 : m (.obj C ns ds :: xs) = some (r, d')) :
    eMethIO k j C mn sh m fs ρ = some (r, ρ.set j (some (sh, d'))) := by
  unfold eMethIO
  rw [h1]
  simp only [Sh.eqb_self, h2, not_false_eq_true, and_self, if_true, h3, Option.bind_some, h4, h5, Option.map_some]
abbrev stD (C C2 : Addr) (n : Nat) (w : Nat → Int) (l : Nat → Nat → Int) (s : Nat) (W : Nat → Nat → Int) (ov : List Nat) (x4 x5 : Slot) : Sto :=
  [some (.z, seaD C n w l), some (.z, .int s), some (shS, shD C C2 n w l (has n w l s) W), some (.z, .lst (ov.map fun i : Nat => .int i)), x4, x5, none, none]
theorem Inv6.has {s : Nat} (h : Inv6 n l s won) : K06.has n w won s = K06.has n w l s := by
  unfold K06.has
  rw [sumR_congr h.own]
theorem Inv6.zero {s : Nat} (k : Ok n w l) (hs : s < n) (h : Inv6 n l s won) {a : Nat} (ha : a < n) : won a s = 0 := by
  have h1 := h.two a s ha hs
  have h2 := h.own a ha
  have h3 := k.sym a s ha hs
  omega
theorem notin {s src : Nat} (k : Ok n w l) (hs : s < n) (h : Inv6 n l s won) {ks : List Nat} {ps : List D} (hw : Way n won src ks ps) (hne : src ≠ s) : s ∉ ks := by
  intro m
  obtain ⟨i, hi, e⟩ := List.mem_iff_getElem.mp m
  by_cases h0 : i = 0
  · subst h0
    have := hw.h0.1
    rw [List.getElem?_eq_getElem hi, e] at this
    exact hne (Option.some.inj this).symm
  · obtain ⟨j, a, b, _, e1, e2, _, e4⟩ := hw.par i (by omega) hi
    rw [List.getElem?_eq_getElem hi, e] at e2
    cases e2
    have := h.zero k hs (hw.lt a (List.mem_of_getElem? e1))
    omega
theorem goals_ev {s : Nat} {W : Nat → Nat → Int} {ov ks : List Nat} {ps : List D} (hk : ∀ k ∈ ks, k < n) (hl : ks.length ≤ 1000000) (x5 : Slot) : fb_decide_first_c1 C C2 (stD C C2 n w l s W ov (some (.z, .dicK (keysK ks) ps)) x5) = some (.lst ((ks.filter fun i => decide (has n w W i < has n w l s)).map fun i : Nat => .int i)) := by
  refine vLcK_eq (I := fun k : Nat => .inl (k : Int)) (xs := ks) (ds := ps) rfl rfl hl fun i m => ⟨_, rfl, ?_, fun _ => ?_⟩
  · have hi := hk i m
    simp [keyD, wins_ev hi]
  · simp [keyD]
theorem dec_b1 (k : Ok n w l) {s : Nat} (hs : s < n) {W : Nat → Nat → Int} (h : Inv6 n l s W) {src : Nat} {rest : List Nat} (ho : overL n w W (has n w l s) = src :: rest) (x4 x5 : Slot) :
    (∃ W' y4 y5, Inv6 n l s W' ∧ exc n w W' (has n w l s) < exc n w W (has n w l s) ∧ fb_decide_first_b1 C C2 (stD C C2 n w l s W (overL n w W (has n w l s)) x4 x5) = some (.nx (stD C C2 n w l s W' (overL n w W' (has n w l s)) y4 y5))) ∨
    ∃ d ρ', fb_decide_first_b1 C C2 (stD C C2 n w l s W (overL n w W (has n w l s)) x4 x5) = some (.rt d ρ') ∧ Dec n w l s d := by
  have hn := k.n12
  have msrc : src ∈ overL n w W (has n w l s) := by rw [ho]; simp
  obtain ⟨m1, m2⟩ := List.mem_filter.mp msrc
  have hsrc := List.mem_range.mp m1
  have hgt : has n w l s < has n w W src := by simpa using m2
  have hne : src ≠ s := fun e => by rw [e, h.has] at hgt; omega
  obtain ⟨ks, ps, hw, hcl, er⟩ := reached_ev (C := C) (C2 := C2) (n := n) (w := w) (l := l) (most := has n w l s) (won := W) hn hsrc
  have hle := hw.le
  have hsk := notin k hs h hw hne
  rw [ho]
  have pl : plainS (.seq .z) (.dicK (keysK ks) ps) = true := by
    rw [q_pld]
    refine all_plz fun d m => ?_
    obtain ⟨i, hi, e⟩ := List.mem_iff_getElem.mp m
    by_cases h0 : i = 0
    · subst h0
      have := hw.h0.2
      rw [List.getElem?_eq_getElem hi, e] at this
      rw [Option.some.inj this]; rfl
    · obtain ⟨j, a, b, _, _, _, e3, _⟩ := hw.par i (by omega) (by rw [hw.len]; exact hi)
      rw [List.getElem?_eq_getElem hi, e] at e3
      rw [Option.some.inj e3]; rfl
  have s1 : (sSet 4 .z (up (vBor (.seq .z) (vMeth 2 C2 "reached" (m_Shares_reached C C2) (vVarZ 2) (aCons (v2 dIx (vVarZ 3) (vC (.int 0))) aNil))))) (stD C C2 n w l s W (src :: rest) x4 x5) = some (.nx (stD C C2 n w l s W (src :: rest) (some (.z, .dicK (keysK ks) ps)) x5)) := by
    simp [er, pl]
  have s2 : (sSet 5 (.seq .z) (up (fb_decide_first_c1 C C2))) (stD C C2 n w l s W (src :: rest) (some (.z, .dicK (keysK ks) ps)) x5) = some (.nx (stD C C2 n w l s W (src :: rest) (some (.z, .dicK (keysK ks) ps)) (some (.seq .z, .lst ((ks.filter fun i => decide (has n w W i < has n w l s)).map fun i : Nat => .int i))))) := by
    rw [q_sSet, q_up, goals_ev hw.lt (by omega)]; rfl
  unfold fb_decide_first_b1
  rw [sSeq_nx s1, sSeq_nx s2]
  cases hg : ks.filter fun i => decide (has n w W i < has n w l s) with
  | nil =>
    right
    obtain ⟨L, hL, hmem, eL⟩ := keys_sorted ks hw.nd (by omega) ps
    have src_in : src ∈ ks := List.mem_of_getElem? hw.h0.1
    refine ⟨.tup [.str "lot", .tup (L.map fun i : Nat => .int i)], (stD C C2 n w l s W (src :: rest) (some (.z, .dicK (keysK ks) ps)) (some (.seq .z, .lst []))), ?_, ?_⟩
    · have ht : (vB (v2 dEq (v1 dLen (vVarS 5)) (vC (.int 0)))) (stD C C2 n w l s W (src :: rest) (some (.z, .dicK (keysK ks) ps)) (some (.seq .z, .lst []))) = some true := by simp
      have s3 : (sIf (upT (vB (v2 dEq (v1 dLen (vVarS 5)) (vC (.int 0))))) (sRet (up (vTup (aCons (vC (.str "lot")) (aCons (v1 dTuple (v1 dSortedDK (vVarZ 4))) aNil))))) sNext) (stD C C2 n w l s W (src :: rest) (some (.z, .dicK (keysK ks) ps)) (some (.seq .z, .lst []))) = some (.rt (.tup [.str "lot", .tup (L.map fun i : Nat => .int i)]) (stD C C2 n w l s W (src :: rest) (some (.z, .dicK (keysK ks) ps)) (some (.seq .z, .lst [])))) := by
        rw [sIf_t _ ht]
        simp [eL]
      rw [List.map_nil, sSeq_rt s3]
    · refine .lot W h L hL (fun i m => hw.lt i ((hmem i).mp m)) (fun m => hsk ((hmem s).mp m)) (fun e => ?_) (fun i m => ?_) ⟨src, (hmem src).mpr src_in, hgt⟩ fun a m b hb q => (hmem b).mpr (hcl a ((hmem a).mp m) b hb q)
      · have := (hmem src).mpr src_in
        rw [e] at this; cases this
      · have := List.filter_eq_nil_iff.mp hg i ((hmem i).mp m)
        simp at this; exact this
  | cons g gs =>
    left
    have mg : g ∈ ks.filter fun i => decide (has n w W i < has n w l s) := by rw [hg]; simp
    obtain ⟨g1, g2⟩ := List.mem_filter.mp mg
    have g2 : has n w W g < has n w l s := by simpa using g2
    obtain ⟨i, hi, ei⟩ := List.mem_iff_getElem.mp g1
    have hgi : ks[i]? = some g := by rw [← ei]; simp [hi]
    obtain ⟨r, r1, r2, r3, r4, r5⟩ := room_ev (C := C) (C2 := C2) (w := w) (l := l) (most := has n w l s) hw hn hgi hgt g2
    obtain ⟨W', p1, p2, p3, p4, p5⟩ := hand_ev (C := C) (C2 := C2) (w := w) (l := l) (most := has n w l s) hw hn (by omega) hgi r4
    have hgn := hw.lt g g1
    have hgs : g ≠ src := fun e => by rw [e] at g2; omega
    have hrow : ∀ x, has n w W' x = has n w W x + (if x = g then r else 0) - if x = src then r else 0 := fun x => by
      unfold has; rw [p2]; omega
    refine ⟨W', some (.z, .dicK (keysK ks) ps), some (.seq .z, .lst ((g :: gs).map fun i : Nat => .int i)), ⟨fun x y hx hy => p3 x y (h.pos x y hx hy), fun x y hx hy => by rw [p1]; exact h.two x y hx hy, fun y hy => by rw [p4 s y (.inl hsk)]; exact h.own y hy⟩, ?_, ?_⟩
    · unfold exc
      refine sum_lt (fun x m => ?_) (List.mem_range.mpr hsrc) ?_
      · rw [hrow]
        by_cases c1 : x = g
        · subst c1; simp [hgs]; omega
        · by_cases c2 : x = src
          · subst c2; simp [c1]; omega
          · simp [c1, c2]
      · rw [hrow]; simp [Ne.symm hgs]; omega
    · have ht : (vB (v2 dEq (v1 dLen (vVarS 5)) (vC (.int 0)))) (stD C C2 n w l s W (src :: rest) (some (.z, .dicK (keysK ks) ps)) (some (.seq .z, .lst ((g :: gs).map fun i : Nat => .int i)))) = some false := by
        simp; omega
      have s3 : (sIf (upT (vB (v2 dEq (v1 dLen (vVarS 5)) (vC (.int 0))))) (sRet (up (vTup (aCons (vC (.str "lot")) (aCons (v1 dTuple (v1 dSortedDK (vVarZ 4))) aNil))))) sNext) (stD C C2 n w l s W (src :: rest) (some (.z, .dicK (keysK ks) ps)) (some (.seq .z, .lst ((g :: gs).map fun i : Nat => .int i)))) = some (.nx (stD C C2 n w l s W (src :: rest) (some (.z, .dicK (keysK ks) ps)) (some (.seq .z, .lst ((g :: gs).map fun i : Nat => .int i))))) := by
        rw [sIf_t _ ht]; rfl
      have s4 := eMethIO_ev (k := 5) (j := 2) (C := C2) (mn := "hand_on") (sh := shS) (m := m_Shares_hand_on C2) (fs := aCons (vVarZ 4) (aCons (v2 dIx (vVarZ 3) (vC (.int 0))) (aCons (v2 dIx (vVarS 5) (vC (.int 0))) (aCons (vBor .z (vMeth 4 C2 "room_on" (m_Shares_room_on C C2) (vVarZ 2) (aCons (vVarZ 4) (aCons (v2 dIx (vVarZ 3) (vC (.int 0))) (aCons (v2 dIx (vVarZ 5) (vC (.int 0))) aNil))))) aNil))))
        (ρ := stD C C2 n w l s W (src :: rest) (some (.z, .dicK (keysK ks) ps)) (some (.seq .z, .lst ((g :: gs).map fun i : Nat => .int i)))) (ns := ["season", "most", "won"]) (ds := [seaD C n w l, .int (has n w l s), matL n W]) (xs := [.dicK (keysK ks) ps, .int src, .int g, .int r]) (r := .non) (d' := shD C C2 n w l (has n w l s) W') rfl (by decide) (by simp [r5]) rfl p5
      have s5 : (sSet 3 .z (up (vBor (.seq .z) (vMeth 1 C2 "over" (m_Shares_over C C2) (vVarZ 2) aNil)))) (stD C C2 n w l s W' (src :: rest) (some (.z, .dicK (keysK ks) ps)) (some (.seq .z, .lst ((g :: gs).map fun i : Nat => .int i)))) = some (.nx (stD C C2 n w l s W' (overL n w W' (has n w l s)) (some (.z, .dicK (keysK ks) ps)) (some (.seq .z, .lst ((g :: gs).map fun i : Nat => .int i))))) := by
        simp [over_ev hn]
      rw [sSeq_nx s3]
      refine (sSeq_nx ?_).trans s5
      rw [q_sDrop, s4]
      rfl
end
end K06

set_option Elab.async false
set_option linter.all false
set_option maxRecDepth 100000
noncomputable section
namespace K06
open PySem PySem.Spec PyProof.Rows L2 VL
section
variable {C C2 : Addr} {n : Nat} {w : Nat → Int} {l : Nat → Nat → Int} {most : Int} {won : Nat → Nat → Int}
theorem won0_inv (k : Ok n w l) {s : Nat} (hs : s < n) : Inv6 n l s (won0 s l) := by
  refine ⟨fun x y hx hy => ?_, fun x y hx hy => ?_, fun y hy => ?_⟩
  · unfold won0; split
    · omega
    · exact (k.l0 x y hx hy).1
  · have e := k.sym x y hx hy
    unfold won0
    by_cases c : x = y
    · subst c
      have := k.dia x hx
      simp; omega
    · by_cases c1 : x = s
      · subst c1
        have : y ≠ x := fun z => c z.symm
        simp [this]
      · by_cases c2 : y = s
        · subst c2; simp [c1]; omega
        · by_cases c3 : x < y
          · have : ¬ y < x := by omega
            simp [c1, c2, c3, this]; omega
          · have : y < x := by omega
            simp [c1, c2, c3, this]
  · unfold won0; simp
theorem decide_ev (k : Ok n w l) {s : Nat} (hs : s < n) (hE : exc n w (won0 s l) (has n w l s) < 1000) : ∃ d, Dec n w l s d ∧ m_decide_first C C2 [seaD C n w l, .int s] = some d := by
  have hn := k.n12
  have sh := shares_ev (C := C) (C2 := C2) k hs
  have dm : dMake 3 C2 (m_Shares_init C C2) [seaD C n w l, .int s] = some (shD C C2 n w l (has n w l s) (won0 s l)) := dMake_ev rfl sh
  have wl := whileL_meas (t := fb_decide_first_t1) (b := fb_decide_first_b1 C C2) (fun m ρ => ∃ W x4 x5, Inv6 n l s W ∧ exc n w W (has n w l s) = m ∧ ρ = stD C C2 n w l s W (overL n w W (has n w l s)) x4 x5) (Dec n w l s)
    (fun m ρ ⟨W, x4, x5, h, hm, e⟩ => by
      subst e
      refine ⟨decide (0 < (overL n w W (has n w l s)).length), by simp [fb_decide_first_t1], fun c => ?_⟩
      have c : 0 < (overL n w W (has n w l s)).length := by simpa using c
      cases ho : overL n w W (has n w l s) with
      | nil => rw [ho] at c; simp at c
      | cons src rest =>
        rw [← ho]
        rcases dec_b1 (C := C) (C2 := C2) k hs h ho x4 x5 with ⟨W', y4, y5, h', he, e⟩ | ⟨d, ρ', e, hd⟩
        · exact .inl ⟨_, _, .inl e, by omega, W', y4, y5, h', rfl, rfl⟩
        · exact .inr ⟨d, ρ', e, hd⟩) 1000 _ (stD C C2 n w l s (won0 s l) (overL n w (won0 s l) (has n w l s)) none none) hE ⟨won0 s l, none, none, won0_inv k hs, rfl, rfl⟩
  have st0 : argZ [seaD C n w l, .int s] ++ List.replicate 6 (none : Slot) = [some (.z, seaD C n w l), some (.z, .int s), none, none, none, none, none, none] := rfl
  have a1 : (sDrop (up (vCall (n := 2) (m_look_at_side C) (aCons (vVarZ 0) (aCons (vVarZ 1) aNil))))) [some (.z, seaD C n w l), some (.z, .int s), none, none, none, none, none, none] = some (.nx [some (.z, seaD C n w l), some (.z, .int s), none, none, none, none, none, none]) := by
    simp [look_ev hs]
  have a2 : (sSet 2 shS (up (vMake 3 C2 (m_Shares_init C C2) (aCons (vVarZ 0) (aCons (vVarZ 1) aNil))))) [some (.z, seaD C n w l), some (.z, .int s), none, none, none, none, none, none] = some (.nx [some (.z, seaD C n w l), some (.z, .int s), some (shS, shD C C2 n w l (has n w l s) (won0 s l)), none, none, none, none, none]) := by
    simp [dm]
  have a3 : (sSet 3 .z (up (vBor (.seq .z) (vMeth 1 C2 "over" (m_Shares_over C C2) (vVarZ 2) aNil)))) [some (.z, seaD C n w l), some (.z, .int s), some (shS, shD C C2 n w l (has n w l s) (won0 s l)), none, none, none, none, none] = some (.nx (stD C C2 n w l s (won0 s l) (overL n w (won0 s l) (has n w l s)) none none)) := by
    simp [over_ev hn]
  rcases wl with ⟨ρ', m', e, ⟨W, x4, x5, h, _, rfl⟩, ht⟩ | ⟨d, ρ', e, hd⟩
  · have ho : overL n w W (has n w l s) = [] := by
      cases hq : overL n w W (has n w l s) with
      | nil => rfl
      | cons a b => rw [hq] at ht; simp [fb_decide_first_t1] at ht
    refine ⟨_, .won W h fun i hi => ?_, ?_⟩
    · have := List.filter_eq_nil_iff.mp ho i (List.mem_range.mpr hi)
      simp at this; exact this
    · have c2 : ∀ x3, fb_decide_first_c2 C2 [some (.z, seaD C n w l), some (.z, .int s), some (.z, shD C C2 n w l (has n w l s) W), x3, x4, x5, none, none] = some (.lst ((List.range n).map fun i => rowT n (W i))) := fun x3 => by
        refine vLc_map (I := fun i => rowL n (W i)) (xs := List.range n) rfl (by simp) (by simp; omega) fun i m => ⟨_, rfl, ?_⟩
        simp
      have fin : (sFrz 2 (sRet (up (vTup (aCons (vC (.str "won")) (aCons (v1 dTuple (fb_decide_first_c2 C2)) aNil)))))) (stD C C2 n w l s W (overL n w W (has n w l s)) x4 x5) = some (.rt (.tup [.str "won", matT n W]) [some (.z, seaD C n w l), some (.z, .int s), some (.z, shD C C2 n w l (has n w l s) W), some (.z, .lst ((overL n w W (has n w l s)).map fun i : Nat => .int i)), x4, x5, none, none]) := by
        simp [c2]
      unfold m_decide_first
      rw [st0]
      unfold fb_decide_first
      rw [sSeq_nx a1, sSeq_nx a2, sSeq_nx a3, sSeq_nx e, fin]
      rfl
  · refine ⟨d, hd, ?_⟩
    unfold m_decide_first
    rw [st0]
    unfold fb_decide_first
    rw [sSeq_nx a1, sSeq_nx a2, sSeq_nx a3, sSeq_rt e]
    rfl
end
end K06

set_option Elab.async false
set_option linter.all false
set_option maxRecDepth 100000
noncomputable section
namespace K06
open PySem PySem.Spec PyProof.Rows L2 VL
/-! ### sums -/
theorem sumR_zero (f : Nat → Int) : sumR 0 f = 0 := rfl
theorem sumR_succ (n : Nat) (f : Nat → Int) : sumR (n + 1) f = sumR n f + f n := by
  unfold sumR
  rw [List.range_succ, List.map_append, List.sum_append]
  simp
theorem sumR_add (n : Nat) (f g : Nat → Int) : sumR n (fun i => f i + g i) = sumR n f + sumR n g := by
  induction n with
  | zero => rfl
  | succ n ih => rw [sumR_succ, sumR_succ, sumR_succ, ih]; omega
theorem sumR_comm (m n : Nat) (f : Nat → Nat → Int) : sumR m (fun i => sumR n (f i)) = sumR n fun j => sumR m fun i => f i j := by
  induction m with
  | zero =>
    rw [sumR_zero]
    induction n with
    | zero => rfl
    | succ n ih => rw [sumR_succ, ← ih]; rfl
  | succ m ih =>
    rw [sumR_succ, ih, ← sumR_add]
    exact sumR_congr fun j _ => (sumR_succ m _).symm
theorem sumR_le {n : Nat} {f g : Nat → Int} (h : ∀ i, i < n → f i ≤ g i) : sumR n f ≤ sumR n g := by
  induction n with
  | zero => exact Int.le_refl _
  | succ n ih =>
    rw [sumR_succ, sumR_succ]
    have := ih fun i hi => h i (by omega)
    have := h n (by omega)
    omega
theorem sumR_lt {n : Nat} {f g : Nat → Int} (h : ∀ i, i < n → f i ≤ g i) {a : Nat} (ha : a < n) (hlt : f a < g a) : sumR n f < sumR n g := by
  induction n with
  | zero => omega
  | succ n ih =>
    rw [sumR_succ, sumR_succ]
    have h2 := h n (by omega)
    by_cases e : a = n
    · subst e
      have : sumR a f ≤ sumR a g := sumR_le fun i hi => h i (by omega)
      omega
    · have := ih (fun i hi => h i (by omega)) (by omega)
      omega
theorem sumR_ite0 (n : Nat) : sumR n (fun _ => 0) = 0 := by
  induction n with
  | zero => rfl
  | succ n ih => rw [sumR_succ, ih]; rfl
theorem sumR_nonneg {n : Nat} {f : Nat → Int} (h : ∀ i, i < n → 0 ≤ f i) : 0 ≤ sumR n f := by
  have := sumR_le (n := n) (f := fun _ => 0) (g := f) h
  rw [sumR_ite0] at this
  exact this
/-! ### lots by their indicators -/
def sw (n : Nat) (w : Nat → Int) (c : Nat → Bool) : Int := sumR n fun i => if c i then w i else 0
def si (n : Nat) (f : Nat → Nat → Int) (c : Nat → Bool) : Int := sumR n fun i => if c i then sumR n (fun j => if c j then f i j else 0) else 0
def pop (n : Nat) (c : Nat → Bool) : Int := sumR n fun i => if c i then 1 else 0
theorem si_T (n : Nat) (f : Nat → Nat → Int) (c : Nat → Bool) : si n (fun i j => f j i) c = si n f c := by
  unfold si
  have e : ∀ g : Nat → Nat → Int, (sumR n fun i => if c i then sumR n (fun j => if c j then g i j else 0) else 0) = sumR n fun i => sumR n fun j => if c i && c j then g i j else 0 := fun g => sumR_congr fun i _ => by
    cases c i with
    | true => simp
    | false =>
      simp only [Bool.false_eq_true, if_false, Bool.false_and]
      exact (sumR_ite0 n).symm
  rw [e, e, sumR_comm]
  exact sumR_congr fun i _ => sumR_congr fun j _ => by rw [Bool.and_comm]
theorem si_add (n : Nat) (f g : Nat → Nat → Int) (c : Nat → Bool) : si n (fun i j => f i j + g i j) c = si n f c + si n g c := by
  unfold si
  rw [← sumR_add]
  refine sumR_congr fun i _ => ?_
  cases c i with
  | true =>
    simp only [if_true]
    rw [← sumR_add]
    refine sumR_congr fun j _ => ?_
    cases c j <;> simp
  | false => rfl
theorem si_congr {n : Nat} {f g : Nat → Nat → Int} (c : Nat → Bool) (h : ∀ i j, i < n → j < n → f i j = g i j) : si n f c = si n g c := by
  unfold si
  refine sumR_congr fun i hi => ?_
  rw [sumR_congr fun j hj => by rw [h i j hi hj]]
section
variable {n : Nat} {w : Nat → Int} {l : Nat → Nat → Int} {s : Nat}
/-- what is won within a lot is half of the square -/
theorem si_half {W : Nat → Nat → Int} (h : Inv6 n l s W) (c : Nat → Bool) : 2 * si n W c = si n l c := by
  have e1 := si_add n W (fun i j => W j i) c
  rw [si_T n W c] at e1
  have e2 : si n (fun i j => W i j + W j i) c = si n l c := si_congr c fun i j hi hj => h.two i j hi hj
  omega
/-- the lot's wins and matches -/
def lotW (n : Nat) (w : Nat → Int) (l : Nat → Nat → Int) (c : Nat → Bool) : Int := sw n w c + si n l c / 2
theorem lotW_of {W : Nat → Nat → Int} (h : Inv6 n l s W) (c : Nat → Bool) : lotW n w l c = sw n w c + si n W c := by
  unfold lotW
  have := si_half h c
  omega
def canP (n : Nat) (w : Nat → Int) (l : Nat → Nat → Int) (s : Nat) : Prop := ∀ c : Nat → Bool, c s = false → lotW n w l c ≤ has n w l s * pop n c
theorem mul_pop (x : Int) (c : Nat → Bool) : x * pop n c = sumR n fun i => if c i then x else 0 := by
  unfold pop
  induction n with
  | zero => simp [sumR_zero]
  | succ n ih =>
    rw [sumR_succ, sumR_succ, Int.mul_add, ih]
    cases c n <;> simp
theorem sw_si (W : Nat → Nat → Int) (c : Nat → Bool) : sw n w c + si n W c = sumR n fun i => if c i then w i + sumR n (fun j => if c j then W i j else 0) else 0 := by
  unfold sw si
  rw [← sumR_add]
  refine sumR_congr fun i _ => ?_
  cases c i <;> simp
theorem can_won {W : Nat → Nat → Int} (h : Inv6 n l s W) (hle : ∀ i, i < n → has n w W i ≤ has n w l s) : canP n w l s := by
  intro c _
  rw [lotW_of h, sw_si, mul_pop]
  refine sumR_le fun i hi => ?_
  cases hc : c i with
  | false => simp
  | true =>
    simp only [if_true]
    refine Int.le_trans ?_ (hle i hi)
    unfold has
    have : sumR n (fun j => if c j then W i j else 0) ≤ sumR n (W i) := sumR_le fun j hj => by
      have := h.pos i j hi hj
      split <;> omega
    omega
theorem lot_heavy {W : Nat → Nat → Int} (h : Inv6 n l s W) {L : List Nat} (hge : ∀ i ∈ L, has n w l s ≤ has n w W i) (hgt : ∃ i ∈ L, has n w l s < has n w W i) (hn : ∀ i ∈ L, i < n) (hcl : ∀ a ∈ L, ∀ b, b < n → 0 < W a b → b ∈ L) :
    has n w l s * pop n (fun i => decide (i ∈ L)) < lotW n w l (fun i => decide (i ∈ L)) := by
  rw [lotW_of h, sw_si, mul_pop]
  have e : ∀ i, i < n → i ∈ L → sumR n (fun j => if decide (j ∈ L) then W i j else 0) = sumR n (W i) := fun i hi m => sumR_congr fun j hj => by
    by_cases c : j ∈ L
    · simp [c]
    · simp only [c, decide_false, Bool.false_eq_true, if_false]
      have h1 := h.pos i j hi hj
      have h2 : ¬ 0 < W i j := fun z => c (hcl i m j hj z)
      omega
  obtain ⟨a, ma, ha⟩ := hgt
  refine sumR_lt (a := a) (fun i hi => ?_) (hn a ma) ?_
  · by_cases m : i ∈ L
    · have := hge i m
      simp only [m, decide_true, if_true]
      rw [e i hi m]; exact this
    · simp [m]
  · simp only [ma, decide_true, if_true]
    rw [e a (hn a ma) ma]; exact ha
theorem can_lot {W : Nat → Nat → Int} (h : Inv6 n l s W) {L : List Nat} (hs : s ∉ L) (hge : ∀ i ∈ L, has n w l s ≤ has n w W i) (hgt : ∃ i ∈ L, has n w l s < has n w W i) (hn : ∀ i ∈ L, i < n) (hcl : ∀ a ∈ L, ∀ b, b < n → 0 < W a b → b ∈ L) : ¬ canP n w l s := by
  intro z
  have h1 := lot_heavy h hge hgt hn hcl
  have h2 := z (fun i => decide (i ∈ L)) (by simp [hs])
  omega
end
end K06

set_option Elab.async false
set_option linter.all false
set_option maxRecDepth 100000
noncomputable section
namespace K06
open PySem PySem.Spec PyProof.Rows L2 VL
section
variable {n : Nat} {w : Nat → Int} {l : Nat → Nat → Int}
theorem ind_add {c c' : Nat → Bool} {b : Nat} (hb : b < n) (h0 : c' b = false) (hc : ∀ i, c i = (c' i || decide (i = b))) (F : Nat → Int) : sumR n (fun i => if c i then F i else 0) = sumR n (fun i => if c' i then F i else 0) + F b := by
  have e : (fun i => if c i then F i else 0) = fun i => if i = b then F b else (if c' i then F i else 0) := by
    funext i
    rw [hc i]
    by_cases h : i = b
    · subst h; simp
    · simp [h]
  rw [e, sumR_set (F b) hb]
  simp [h0]
theorem lotW_add (k : Ok n w l) {c c' : Nat → Bool} {b : Nat} (hb : b < n) (h0 : c' b = false) (hc : ∀ i, c i = (c' i || decide (i = b))) : lotW n w l c = lotW n w l c' + w b + sumR n fun j => if c' j then l b j else 0 := by
  unfold lotW
  have e1 : sw n w c = sw n w c' + w b := ind_add hb h0 hc w
  have e2 : si n l c = si n l c' + 2 * sumR n fun j => if c' j then l b j else 0 := by
    unfold si
    rw [ind_add hb h0 hc fun i => sumR n fun j => if c j then l i j else 0]
    have e3 : ∀ i, sumR n (fun j => if c j then l i j else 0) = sumR n (fun j => if c' j then l i j else 0) + l i b := fun i => ind_add hb h0 hc (l i)
    rw [e3 b, k.dia b hb]
    have e4 : sumR n (fun i => if c' i then sumR n (fun j => if c j then l i j else 0) else 0) = sumR n (fun i => if c' i then sumR n (fun j => if c' j then l i j else 0) else 0) + sumR n fun i => if c' i then l b i else 0 := by
      rw [← sumR_add]
      refine sumR_congr fun i hi => ?_
      cases c' i with
      | true => simp only [if_true]; rw [e3 i, k.sym i b hi hb]
      | false => rfl
    rw [e4]; omega
  rw [e1, e2]; omega
theorem lotW_congr {c c' : Nat → Bool} (h : ∀ i, i < n → c i = c' i) : lotW n w l c = lotW n w l c' := by
  unfold lotW sw si
  rw [sumR_congr fun i hi => by rw [h i hi], sumR_congr (f := fun i => if c i then sumR n (fun j => if c j then l i j else 0) else 0) fun i hi => by rw [h i hi, sumR_congr fun j hj => by rw [h j hj]]]
theorem pop_congr {c c' : Nat → Bool} (h : ∀ i, i < n → c i = c' i) : pop n c = pop n c' := by
  unfold pop
  exact sumR_congr fun i hi => by rw [h i hi]
theorem pop_len (c : Nat → Bool) : (((List.range n).filter c).length : Int) = pop n c := by
  unfold pop
  induction n with
  | zero => rfl
  | succ n ih =>
    rw [sumR_succ, ← ih, List.range_succ, List.filter_append, List.length_append]
    cases h : c n <;> simp [h]
theorem filt_sum (c : Nat → Bool) (F : Nat → Int) : (((List.range n).filter c).map F).sum = sumR n fun i => if c i then F i else 0 := by
  induction n with
  | zero => rfl
  | succ n ih =>
    rw [sumR_succ, ← ih, List.range_succ, List.filter_append, List.map_append, List.sum_append]
    cases h : c n <;> simp [h]
/-! ### the law's lots -/
def lotsD (n : Nat) (w : Nat → Int) (l : Nat → Nat → Int) (k : Nat) : D := .lst ((List.range k).map fun m => .int (lotW n w l m.testBit))
abbrev stL (n : Nat) (w : Nat → Int) (l : Nat → Nat → Int) (k : Nat) (x2 x5 x6 : Slot) : Sto := [some (.z, rowT n w), some (.z, matT n l), x2, some (.z, .int n), some (.seq .z, lotsD n w l k), x5, x6, none, none]
theorem two12 {n : Nat} (h : n ≤ 12) : 2 ^ n ≤ 4096 := Nat.le_trans (Nat.pow_le_pow_right (by decide) h) (by decide)
theorem lots_b1 (k : Ok n w l) {m : Nat} (h0 : 0 < m) (hm : m < 2 ^ n) (x5 x6 : Slot) : ∃ y5 y6, fb__law_lots_b1 (stL n w l m (some (.z, .int m)) x5 x6) = some (.nx (stL n w l (m + 1) (some (.z, .int m)) y5 y6)) := by
  have hn := k.n12
  have h2 := two12 hn
  have hn3 : (n : Int) < 1000000000 ∧ -1000000000 < (n : Int) := by omega
  have c1 : fb__law_lots_c1 (stL n w l m (some (.z, .int m)) x5 x6) = some (.lst (((List.range n).filter m.testBit).map fun i : Nat => .int i)) := by
    refine vLc_eq (I := fun i : Nat => .int i) (xs := List.range n) rfl (by simp [vRng1, hn3]) (by simp; omega) fun i mi => ⟨_, rfl, ?_, fun _ => by simp⟩
    have := bitv_nat m i
    cases hb : m.testBit i <;> simp [this, hb]
  obtain ⟨b, hb1, hb2⟩ : ∃ b, b < n ∧ m.testBit b = true := Classical.byContradiction fun z => by
    have := no_bits hm fun i hi => by
      cases h : m.testBit i with
      | false => rfl
      | true => exact (z ⟨i, hi, h⟩).elim
    omega
  cases hf : (List.range n).filter m.testBit with
  | nil =>
    have := List.filter_eq_nil_iff.mp hf b (List.mem_range.mpr hb1)
    exact (this hb2).elim
  | cons low rest' =>
    have ml : low ∈ (List.range n).filter m.testBit := by rw [hf]; simp
    obtain ⟨m1, m2⟩ := List.mem_filter.mp ml
    have hlow := List.mem_range.mp m1
    obtain ⟨r, er, hr0, hrb⟩ := tb_sub m2
    have hp : 0 < 2 ^ low := Nat.two_pow_pos _
    have hrm : r < m := by omega
    have c2 : ∀ x5, PlainAt (stL n w l m (some (.z, .int m)) x5 (some (.z, .int r))) [8] = true → x5 = some (.z, .int low) → fb__law_lots_c2 (stL n w l m (some (.z, .int m)) x5 (some (.z, .int r))) = some (.lst (((List.range n).filter r.testBit).map fun i => .int (l low i))) := fun x5 hpl e => by
      subst e
      refine vLc_eq (I := fun i : Nat => .int i) (xs := List.range n) rfl (by simp [vRng1, hn3]) (by simp; omega) fun i mi => ⟨_, rfl, ?_, fun _ => ?_⟩
      · have := bitv_nat r i
        cases hb : r.testBit i <;> simp [this, hb]
      · have hi := List.mem_range.mp mi
        simp [hlow, hi]
    rw [hf] at c1
    refine ⟨some (.z, .int low), some (.z, .int r), ?_⟩
    have hl2 : (low : Int) ≤ 1000000 := by omega
    have hpw : bPow 1 (low : Int) = true := by simp [bPow, hl2]
    have em : (m : Int) - 2 ^ low = (r : Int) := by rw [er]; push_cast; omega
    have s1 : (sSet 5 .z (up (v2 dIx fb__law_lots_c1 (vC (.int 0))))) (stL n w l m (some (.z, .int m)) x5 x6) = some (.nx (stL n w l m (some (.z, .int m)) (some (.z, .int low)) x6)) := by
      simp [c1]
    have s2 : (sSet 6 .z (up (v2 dSub (vVarZ 2) (v2 dShl (vC (.int 1)) (vVarZ 5))))) (stL n w l m (some (.z, .int m)) (some (.z, .int low)) x6) = some (.nx (stL n w l m (some (.z, .int m)) (some (.z, .int low)) (some (.z, .int r)))) := by
      simp [hpw, em]
    have hm3 : m < 1000000 := by omega
    have ew : lotW n w l r.testBit + w low + (((List.range n).filter r.testBit).map (l low)).sum = lotW n w l m.testBit := by
      rw [lotW_add k hlow hr0 hrb, filt_sum]
    unfold fb__law_lots_b1
    rw [sSeq_nx s1, sSeq_nx s2]
    have e0 := c2 _ rfl rfl
    simp [e0, hlow, lotsD, hrm, hm3, ew, List.range_succ]
theorem lots_ev (k : Ok n w l) : m__law_lots [rowT n w, matT n l] = some (lotsD n w l (2 ^ n)) := by
  have hn := k.n12
  have h2 := two12 hn
  have hp : 0 < 2 ^ n := Nat.two_pow_pos _
  have loop := forL_inv (g := gN 2) (b := fb__law_lots_b1) (I := fun j : Nat => D.int j) (List.range' 1 (2 ^ n - 1)) (fun k ρ => ∃ x2 x5 x6, ρ = stL n w l (k + 1) x2 x5 x6)
    (ρ := stL n w l 1 none none none) (fun k j ρ hk ⟨x2, x5, x6, e⟩ => by
    subst e
    obtain ⟨k1, k2⟩ := List.getElem?_eq_some_iff.mp hk
    simp at k1 k2
    have hj : j = k + 1 := by omega
    subst hj
    obtain ⟨y5, y6, e⟩ := lots_b1 ‹Ok n w l› (m := k + 1) (by omega) (by omega) x5 x6
    exact ⟨_, _, rfl, .inl e, _, y5, y6, rfl⟩) ⟨none, none, none, rfl⟩
  obtain ⟨ρ', e, x2, x5, x6, rfl⟩ := loop
  rw [List.length_range', show 2 ^ n - 1 + 1 = 2 ^ n by omega] at e
  have z0 : lotW n w l (Nat.testBit 0) = 0 := by
    have : ∀ i, Nat.testBit 0 i = false := Nat.zero_testBit
    unfold lotW sw si
    simp [this, sumR_ite0]
  have e0 : lotsD n w l 1 = .lst [.int 0] := by
    unfold lotsD
    rw [show List.range 1 = [0] from rfl, List.map_singleton, z0]
  have hpw : bPow 1 (n : Int) = true := by simp [bPow]; omega
  have e1 : forL (gN 2) fb__law_lots_b1 ((List.range' 1 (2 ^ n - 1)).map fun j : Nat => D.int j) [some (.z, rowT n w), some (.z, matT n l), none, some (.z, .int n), some (.seq .z, .lst [.int 0]), none, none, none, none] = some (.nx (stL n w l (2 ^ n) x2 x5 x6)) := by
    rw [← e0]; exact e
  have ep : (2 : Int) ^ n = ((2 ^ n : Nat) : Int) := by push_cast; rfl
  have hr : dRange 1 (2 ^ n) = (List.range' 1 (2 ^ n - 1)).map fun j : Nat => D.int j := by rw [ep]; exact dRange_nat 1 (2 ^ n)
  have hr3 : (2 : Int) ^ n < 1000000000 ∧ -1000000000 < (2 : Int) ^ n := by rw [ep]; omega
  simp [m__law_lots, fb__law_lots, hpw, vRng2, hr3, hr, e1]
/-! ### whom no lot shuts out -/
def canB (n : Nat) (w : Nat → Int) (l : Nat → Nat → Int) (s : Nat) : Bool := (List.range' 1 (2 ^ n - 1)).all fun m => m.testBit s || decide (lotW n w l m.testBit ≤ has n w l s * pop n m.testBit)
theorem canB_iff {s : Nat} (hs : s < n) : canB n w l s = true ↔ canP n w l s := by
  have hp : 0 < 2 ^ n := Nat.two_pow_pos _
  unfold canB
  rw [List.all_eq_true]
  constructor
  · intro h c hc
    obtain ⟨m, hm, hb⟩ := bits_of n c
    rw [lotW_congr fun i hi => (hb i hi).symm, pop_congr fun i hi => (hb i hi).symm]
    by_cases h0 : m = 0
    · subst h0
      have : ∀ i, Nat.testBit 0 i = false := Nat.zero_testBit
      unfold lotW sw si pop
      simp [this, sumR_ite0]
    · have := h m (List.mem_range'.mpr ⟨m - 1, by omega, by omega⟩)
      rw [hb s hs, hc] at this
      simpa using this
  · intro h m hm
    cases hb : m.testBit s with
    | true => rfl
    | false => simpa using h m.testBit hb
end
end K06

set_option Elab.async false
set_option linter.all false
set_option maxRecDepth 100000
noncomputable section
namespace K06
open PySem PySem.Spec PyProof.Rows L2 VL
section
variable {n : Nat} {w : Nat → Int} {l : Nat → Nat → Int}
theorem bMul_small {x : Int} {k : Nat} (h : k ≤ 12) : bMul x (k : Int) = true := by
  simp [bMul]; omega
theorem lots_ix {k m : Nat} (h : m < k) : dIx (lotsD n w l k) (.int m) = some (.int (lotW n w l m.testBit)) := by
  unfold lotsD
  rw [dIx_lst]
  simp [h]
abbrev stC (n : Nat) (w : Nat → Int) (l : Nat → Nat → Int) (s : Nat) (x : Slot) : Sto := [some (.z, lotsD n w l (2 ^ n)), some (.z, .int n), some (.z, .int s), some (.z, .int (has n w l s)), x, none]
theorem can_ev (k : Ok n w l) {s : Nat} (hs : s < n) : m__law_can [lotsD n w l (2 ^ n), .int n, .int s, .int (has n w l s)] = some (.bl (canB n w l s)) := by
  have hn := k.n12
  have h2 := two12 hn
  have hp : 0 < 2 ^ n := Nat.two_pow_pos _
  have hn3 : (n : Int) < 1000000000 ∧ -1000000000 < (n : Int) := by omega
  have loop := forL_all (g := gN 4) (b := fb__law_can_b1) (I := fun j : Nat => D.int j) (fun ρ => ∃ x, ρ = stC n w l s x) (fun m => m.testBit s || decide (lotW n w l m.testBit ≤ has n w l s * pop n m.testBit)) (fun _ => .bl false) (xs := List.range' 1 (2 ^ n - 1)) (ρ := stC n w l s none) ⟨none, rfl⟩ (fun m hm ρ ⟨x, e⟩ => by
    subst e
    obtain ⟨j, hj1, hj2⟩ := List.mem_range'.mp hm
    have hm2 : m < 2 ^ n := by omega
    have c1 : fb__law_can_c1 (stC n w l s (some (.z, .int m))) = some (.lst (((List.range n).filter m.testBit).map fun i : Nat => .int i)) := by
      refine vLc_eq (I := fun i : Nat => .int i) (xs := List.range n) rfl (by simp [vRng1, hn3]) (by simp; omega) fun i mi => ⟨_, rfl, ?_, fun _ => by simp⟩
      have := bitv_nat m i
      cases hb : m.testBit i <;> simp [this, hb]
    have hl : (((List.range n).filter m.testBit).length : Int) = pop n m.testBit := pop_len _
    have hM : ∀ y : Int, bMul (has n w l s) (((List.range n).filter m.testBit).length : Nat) = true := fun _ => bMul_small (Nat.le_trans (List.length_filter_le _ _) (by simpa using hn))
    have ht : tAndF (vB (v2 dEq (v2 dAnd (v2 dShr (vVarZ 4) (vVarZ 2)) (vC (.int 1))) (vC (.int 0)))) (vB (v2 dGt (v2 dIx (vVarZ 0) (vVarZ 4)) (v2 dMulI (vVarZ 3) (v1 dLen fb__law_can_c1)))) (stC n w l s (some (.z, .int m))) = some (!(m.testBit s || decide (lotW n w l m.testBit ≤ has n w l s * pop n m.testBit))) := by
      have t1 : vB (v2 dEq (v2 dAnd (v2 dShr (vVarZ 4) (vVarZ 2)) (vC (.int 1))) (vC (.int 0))) (stC n w l s (some (.z, .int m))) = some (!m.testBit s) := by
        have hv := bitv_nat m s
        cases hb : m.testBit s <;> simp [hv, hb]
      have t2 : vB (v2 dGt (v2 dIx (vVarZ 0) (vVarZ 4)) (v2 dMulI (vVarZ 3) (v1 dLen fb__law_can_c1))) (stC n w l s (some (.z, .int m))) = some (decide (has n w l s * pop n m.testBit < lotW n w l m.testBit)) := by
        have hM := hM 0
        rw [hl] at hM
        rw [q_vB, q_v2, q_v2, q_v2, q_v1, c1, q_vVarZ, q_vVarZ, q_vVarZ]
        simp only [List.getElem?_cons_succ, List.getElem?_cons_zero, Option.bind_some, lots_ix hm2, q_len_l, List.length_map, hl, q_IIc, hM, if_true, q_II]
      rw [q_tAnd, t1, Option.bind_some]
      cases m.testBit s with
      | true => rfl
      | false =>
        simp only [Bool.not_false, if_true]
        rw [t2, Bool.false_or, ← decide_not, decide_eq_decide.mpr Int.not_le.symm]
    refine ⟨stC n w l s (some (.z, .int m)), stC n w l s (some (.z, .int m)), rfl, ?_⟩
    obtain ⟨b, hb⟩ : ∃ b, (m.testBit s || decide (lotW n w l m.testBit ≤ has n w l s * pop n m.testBit)) = b := ⟨_, rfl⟩
    rw [hb] at ht
    have e : fb__law_can_b1 (stC n w l s (some (.z, .int m))) = if !b then some (.rt (.bl false) (stC n w l s (some (.z, .int m)))) else some (.nx (stC n w l s (some (.z, .int m)))) := by
      unfold fb__law_can_b1
      rw [sIf_t _ ht]
      cases b <;> simp
    rw [e]
    simp only [hb]
    cases b with
    | true => simp
    | false => simp)
  obtain ⟨ρ', w1⟩ := loop
  have hpw : bPow 1 (n : Int) = true := by simp [bPow]; omega
  have ep : (2 : Int) ^ n = ((2 ^ n : Nat) : Int) := by push_cast; rfl
  have hr : dRange 1 (2 ^ n) = (List.range' 1 (2 ^ n - 1)).map fun j : Nat => D.int j := by rw [ep]; exact dRange_nat 1 (2 ^ n)
  have hr3 : (2 : Int) ^ n < 1000000000 ∧ -1000000000 < (2 : Int) ^ n := by rw [ep]; omega
  rcases w1 with ⟨_, e, ha⟩ | ⟨x, e, hf⟩
  · have e' : forL (gN 4) fb__law_can_b1 ((List.range' 1 (2 ^ n - 1)).map fun j : Nat => D.int j) [some (.z, lotsD n w l (2 ^ n)), some (.z, .int n), some (.z, .int s), some (.z, .int (has n w l s)), none, none] = _ := e
    have : canB n w l s = true := ha
    rw [this]
    simp [m__law_can, fb__law_can, hpw, vRng2, hr3, hr, e']
  · have e' : forL (gN 4) fb__law_can_b1 ((List.range' 1 (2 ^ n - 1)).map fun j : Nat => D.int j) [some (.z, lotsD n w l (2 ^ n)), some (.z, .int n), some (.z, .int s), some (.z, .int (has n w l s)), none, none] = _ := e
    have : canB n w l s = false := by
      unfold canB
      rw [List.all_eq_false]
      have h1 := List.find?_some hf
      have h2 := List.mem_of_find?_eq_some hf
      exact ⟨x, h2, by simpa using h1⟩
    rw [this]
    simp [m__law_can, fb__law_can, hpw, vRng2, hr3, hr, e']
end
end K06

set_option Elab.async false
set_option linter.all false
set_option maxRecDepth 100000
noncomputable section
namespace K06
open PySem PySem.Spec PyProof.Rows L2 VL
section
variable {C C2 : Addr} {n : Nat} {w : Nat → Int} {l : Nat → Nat → Int} {s : Nat}
/-- small enough for the loops -/
structure Sml (n : Nat) (w : Nat → Int) (l : Nat → Nat → Int) : Prop where
  w : ∀ i, i < n → w i ≤ 30
  l : ∀ i j, i < n → j < n → l i j ≤ 3
theorem sumR_const (n : Nat) (c : Int) : sumR n (fun _ => c) = n * c := by
  induction n with
  | zero => simp [sumR_zero]
  | succ n ih => rw [sumR_succ, ih]; push_cast; rw [Int.add_mul]; omega
theorem exc_le (k : Ok n w l) (hs : s < n) (z : Sml n w l) : exc n w (won0 s l) (has n w l s) < 1000 := by
  have hn := k.n12
  have h0 : 0 ≤ has n w l s := by
    unfold has
    have := (k.w0 s hs).1
    have := sumR_nonneg fun j hj => (k.l0 s j hs hj).1
    omega
  have h1 : ∀ i, i < n → (has n w (won0 s l) i - has n w l s).toNat ≤ 66 := fun i hi => by
    have a := z.w i hi
    have b : sumR n (won0 s l i) ≤ sumR n fun _ => 3 := sumR_le fun j hj => by
      have := z.l i j hi hj
      unfold won0; split <;> omega
    rw [sumR_const] at b
    unfold has at h0 ⊢
    omega
  have h2 : ∀ m, m ≤ n → ((List.range m).map fun i => (has n w (won0 s l) i - has n w l s).toNat).sum ≤ m * 66 := by
    intro m hm
    induction m with
    | zero => simp
    | succ m ih =>
      rw [List.range_succ, List.map_append, List.sum_append]
      have := ih (by omega)
      have := h1 m (by omega)
      simp; omega
  have := h2 n (Nat.le_refl _)
  unfold exc
  omega
theorem dec_ev (k : Ok n w l) (hs : s < n) (z : Sml n w l) : ∃ d, Dec n w l s d ∧ m_decide_first C C2 [seaD C n w l, .int s] = some d := decide_ev k hs (exc_le k hs z)
theorem Dec.can {d : D} (hs : s < n) (h : Dec n w l s d) : (canB n w l s = true ∧ ∃ W, Inv6 n l s W ∧ (∀ i, i < n → has n w W i ≤ has n w l s) ∧ d = .tup [.str "won", matT n W]) ∨ (canB n w l s = false ∧ ∃ L : List Nat, L.Pairwise (· < ·) ∧ (∀ i ∈ L, i < n) ∧ s ∉ L ∧ L ≠ [] ∧ has n w l s * pop n (fun i => decide (i ∈ L)) < lotW n w l (fun i => decide (i ∈ L)) ∧ d = .tup [.str "lot", .tup (L.map fun i : Nat => .int i)]) := by
  cases h with
  | won W h hle => exact .inl ⟨(canB_iff hs).mpr (can_won h hle), W, h, hle, rfl⟩
  | lot W h L hL hn hsL h0 hge hgt hcl =>
    refine .inr ⟨?_, L, hL, hn, hsL, h0, lot_heavy h hge hgt hn hcl, rfl⟩
    cases q : canB n w l s with
    | false => rfl
    | true => exact (can_lot h hsL hge hgt hn hcl ((canB_iff hs).mp q)).elim
@[simp] theorem e_ww : dEq (.str "won") (.str "won") = some (.bl true) := by rw [dEq_str]; congr 2
@[simp] theorem e_lw : dEq (.str "lot") (.str "won") = some (.bl false) := by rw [dEq_str]; congr 2
@[simp] theorem e_wl : dEq (.str "won") (.str "lot") = some (.bl false) := by rw [dEq_str]; congr 2
@[simp] theorem e_ll : dEq (.str "lot") (.str "lot") = some (.bl true) := by rw [dEq_str]; congr 2
@[simp] theorem n_ww : dNe (.str "won") (.str "won") = some (.bl false) := by rw [dNe_str]; congr 2
@[simp] theorem n_lw : dNe (.str "lot") (.str "won") = some (.bl true) := by rw [dNe_str]; congr 2
@[simp] theorem n_wl : dNe (.str "won") (.str "lot") = some (.bl true) := by rw [dNe_str]; congr 2
@[simp] theorem n_ll : dNe (.str "lot") (.str "lot") = some (.bl false) := by rw [dNe_str]; congr 2
theorem can_first_ev (k : Ok n w l) (hs : s < n) (z : Sml n w l) : m_can_be_first C C2 [seaD C n w l, .int s] = some (.bl (canB n w l s)) := by
  obtain ⟨d, hd, e⟩ := dec_ev (C := C) (C2 := C2) k hs z
  rcases hd.can hs with ⟨hc, W, _, _, rfl⟩ | ⟨hc, L, _, _, _, _, _, rfl⟩
  · simp [m_can_be_first, fb_can_be_first, e, hc]
  · simp [m_can_be_first, fb_can_be_first, e, hc]
def canL (n : Nat) (w : Nat → Int) (l : Nat → Nat → Int) : List Nat := (List.range n).filter (canB n w l)
theorem still_ev (k : Ok n w l) (z : Sml n w l) : m_still_first C C2 [seaD C n w l] = some (.tup ((canL n w l).map fun i : Nat => .int i)) := by
  have hn := k.n12
  have hn3 : (n : Int) < 1000000000 ∧ -1000000000 < (n : Int) := by omega
  have c1 : fb_still_first_c1 C C2 [some (.z, seaD C n w l), none] = some (.lst ((canL n w l).map fun i : Nat => .int i)) := by
    refine vLc_eq (I := fun i : Nat => .int i) (xs := List.range n) rfl (by simp [vRng1, hn3]) (by simp; omega) fun i m => ⟨_, rfl, ?_, fun _ => by simp⟩
    have hi := List.mem_range.mp m
    simp [can_first_ev k hi z]
  simp [m_still_first, fb_still_first, c1]
/-! ### rows of wins looked at -/
theorem flat_bl {xs ys : List Nat} (p : Nat → Nat → Bool) : ((xs.map fun i => ys.map fun j => D.bl (p i j)).flatten) = ((xs.map fun i => ys.map fun j => p i j).flatten).map D.bl := by
  induction xs with
  | nil => rfl
  | cons x xs ih => simp [ih]
theorem dAll_flat {xs ys : List Nat} (p : Nat → Nat → Bool) : dAll (.lst ((xs.map fun i => ys.map fun j => D.bl (p i j)).flatten)) = some (.bl (xs.all fun i => ys.all fun j => p i j)) := by
  rw [flat_bl]
  simp only [dAll, dBls_map, Option.map_some]
  congr 2
  induction xs with
  | nil => rfl
  | cons x xs ih => simp [ih]
def wonB (n : Nat) (W l : Nat → Nat → Int) : Bool := (List.range n).all fun i => (List.range n).all fun j => W i j + W j i == l i j
theorem is_won_ev (hn : n ≤ 12) {W : Nat → Nat → Int} (h0 : ∀ i j, i < n → j < n → 0 ≤ W i j ∧ W i j ≤ 100000) : m_is_won C [seaD C n w l, matT n W] = some (.bl (wonB n W l)) := by
  have c1 : ∀ x2 x3 x4, fb_is_won_c1 C [some (.z, seaD C n w l), some (.z, matT n W), x2, x3, x4, none] = some (.lst ((List.range n).map fun _ => .bl true)) := fun x2 x3 x4 => by
    refine vLc_map (I := fun i => rowT n (W i)) (xs := List.range n) rfl (by simp) (by simp; omega) fun i m => ⟨_, rfl, ?_⟩
    simp [isT, tyName, isTab]
  have c2 : ∀ x2 x4, fb_is_won_c2 [some (.z, seaD C n w l), some (.z, matT n W), x2, none, x4, none] = some (.lst (((List.range n).map fun i => (List.range n).map fun j => D.bl true).flatten)) := fun x2 x4 => by
    refine vLc2_map (I := fun i => rowT n (W i)) (J := fun i j => .int (W i j)) (xs := List.range n) (ys := fun _ => List.range n) rfl (by simp) 12 12 (by simpa using hn) (fun _ _ => by simpa using hn) (by decide) fun i m => ⟨_, rfl, rfl, by simp, fun j mj => ⟨_, rfl, ?_⟩⟩
    obtain ⟨a, b⟩ := h0 i j (List.mem_range.mp m) (List.mem_range.mp mj)
    simp [count_ev, a, b]
  have c3 : fb_is_won_c3 C [some (.z, seaD C n w l), some (.z, matT n W), some (.z, .lst ((List.range n).map fun i : Nat => .int i)), none, none, none] = some (.lst (((List.range n).map fun i => (List.range n).map fun j => D.bl (W i j + W j i == l i j)).flatten)) := by
    refine vLc2_map (I := fun i : Nat => .int i) (J := fun _ (j : Nat) => .int j) (xs := List.range n) (ys := fun _ => List.range n) rfl (by simp) 12 12 (by simpa using hn) (fun _ _ => by simpa using hn) (by decide) fun i m => ⟨_, rfl, rfl, by simp, fun j mj => ⟨_, rfl, ?_⟩⟩
    have hi := List.mem_range.mp m
    have hj := List.mem_range.mp mj
    simp [hi, hj]
  have a1 : dAll (.lst ((List.range n).map fun _ => .bl true)) = some (.bl true) := dAll_true fun d m => by
    obtain ⟨_, _, rfl⟩ := List.mem_map.mp m; rfl
  have a2 : dAll (.lst (((List.range n).map fun i => (List.range n).map fun j => D.bl true).flatten)) = some (.bl true) := dAll_true fun d m => by
    obtain ⟨_, _, m⟩ := mem_flat m
    obtain ⟨_, _, rfl⟩ := List.mem_map.mp m; rfl
  have a3 := dAll_flat (xs := List.range n) (ys := List.range n) fun i j => W i j + W j i == l i j
  have hn2 : (n : Int) ≤ 1000000 := by omega
  simp [m_is_won, fb_is_won, c1, c2, c3, a1, a2, a3, isT, tyName, isTab, hn2, wonB]
end
end K06

set_option Elab.async false
set_option linter.all false
set_option maxRecDepth 100000
noncomputable section
namespace K06
open PySem PySem.Spec PyProof.Rows L2 VL
section
variable {C C2 : Addr} {n : Nat} {w : Nat → Int} {l : Nat → Nat → Int} {s : Nat}
/-- a sorted lot is the sides that are in it -/
theorem lot_filter {L : List Nat} (hL : L.Pairwise (· < ·)) (hn : ∀ i ∈ L, i < n) : (List.range n).filter (fun i => decide (i ∈ L)) = L := by
  have h1 : ((List.range n).filter (fun i => decide (i ∈ L))).Pairwise (· < ·) := List.Pairwise.filter _ List.pairwise_lt_range
  have e := strict_ext (cast_sorted h1) (cast_sorted hL) fun k => by
    simp only [List.mem_map, List.mem_filter, List.mem_range, decide_eq_true_eq]
    constructor
    · rintro ⟨i, ⟨_, h⟩, rfl⟩; exact ⟨i, h, rfl⟩
    · rintro ⟨i, h, rfl⟩; exact ⟨i, ⟨hn i h, h⟩, rfl⟩
  have e2 := congrArg (List.map Int.toNat) e
  simpa only [List.map_map, Function.comp_def, Int.toNat_natCast, List.map_id'] using e2
theorem lot_len {L : List Nat} (hL : L.Pairwise (· < ·)) (hn : ∀ i ∈ L, i < n) : (L.length : Int) = pop n fun i => decide (i ∈ L) := by
  rw [← pop_len, lot_filter hL hn]
theorem lot_sum {L : List Nat} (hL : L.Pairwise (· < ·)) (hn : ∀ i ∈ L, i < n) (F : Nat → Int) : (L.map F).sum = sumR n fun i => if decide (i ∈ L) then F i else 0 := by
  rw [← filt_sum, lot_filter hL hn]
theorem lot_le {L : List Nat} (hL : L.Pairwise (· < ·)) (hn : ∀ i ∈ L, i < n) : L.length ≤ n := by
  rw [← lot_filter hL hn]
  exact Nat.le_trans (List.length_filter_le _ _) (by simp)
theorem sum_flat {xs ys : List Nat} (f : Nat → Nat → Int) : (((xs.map fun i => ys.map fun j => f i j).flatten)).sum = (xs.map fun i => (ys.map (f i)).sum).sum := by
  induction xs with
  | nil => rfl
  | cons x xs ih => simp [ih, List.sum_append]
theorem flat_int {xs ys : List Nat} (f : Nat → Nat → Int) : ((xs.map fun i => ys.map fun j => D.int (f i j)).flatten) = ((xs.map fun i => ys.map fun j => f i j).flatten).map D.int := by
  induction xs with
  | nil => rfl
  | cons x xs ih => simp [ih]
theorem dSumA_flat {xs ys : List Nat} (f : Nat → Nat → Int) : dSumA (.lst ((xs.map fun i => ys.map fun j => D.int (f i j)).flatten)) = some (.int ((xs.map fun i => (ys.map (f i)).sum).sum)) := by
  rw [flat_int]
  simp only [dSumA, dInts_map, Option.map_some, sum_flat]
theorem lot_sq {L : List Nat} (hL : L.Pairwise (· < ·)) (hn : ∀ i ∈ L, i < n) (f : Nat → Nat → Int) : (L.map fun i => (L.map (f i)).sum).sum = si n f fun i => decide (i ∈ L) := by
  unfold si
  rw [lot_sum hL hn]
  exact sumR_congr fun i _ => by rw [lot_sum hL hn]
def lotB (n : Nat) (w : Nat → Int) (l : Nat → Nat → Int) (s : Nat) (L : List Nat) : Bool := !(decide (L = []) || decide (s ∈ L)) && decide (has n w l s * pop n (fun i => decide (i ∈ L)) < lotW n w l (fun i => decide (i ∈ L)))
theorem dMulI_int {a b : Int} (h : bMul a b = true) : dMulI (.int a) (.int b) = some (.int (a*b)) := by simp only [q_IIc, h, if_true]
theorem bMul12 {x : Int} {k : Nat} (h : k ≤ 12) : bMul (k : Int) x = true := by
  simp [bMul]; omega
theorem lot_right_ev (hn : n ≤ 12) (hs : s < n) {L : List Nat} (hL : L.Pairwise (· < ·)) (hLn : ∀ i ∈ L, i < n) : m_lot_right C [seaD C n w l, .int s, .tup (L.map fun i : Nat => .int i)] = some (.bl (lotB n w l s L)) := by
  have hle := lot_le hL hLn
  have c1 : fb_lot_right_c1 C [some (.z, seaD C n w l), some (.z, .int s), some (.z, .tup (L.map fun i : Nat => .int i)), none, none, none] = some (.lst (L.map fun _ => .bl true)) := by
    refine vLc_map (I := fun i : Nat => .int i) (xs := L) rfl (by simp) (by omega) fun i m => ⟨_, rfl, ?_⟩
    have hi : (i : Int) < n := by have := hLn i m; omega
    simp [is_integer_ev, hi]
  have a1 : dAll (.lst (L.map fun _ => .bl true)) = some (.bl true) := dAll_true fun d m => by
    obtain ⟨_, _, rfl⟩ := List.mem_map.mp m; rfl
  obtain ⟨ds', c2⟩ : ∃ ds', fb_lot_right_c2 [some (.z, seaD C n w l), some (.z, .int s), some (.z, .tup (L.map fun i : Nat => .int i)), none, none, none] = some (.dicK ((kfold [] (L.map fun i : Nat => (i : Int))).map Sum.inl) ds') := by
    refine vDc_keys rfl ?_ (by simp; omega) fun i m => ⟨_, _, rfl, rfl, by simp, rfl⟩
    simp
  have c3 : fb_lot_right_c3 C [some (.z, seaD C n w l), some (.z, .int s), some (.z, .tup (L.map fun i : Nat => .int i)), none, none, none] = some (.lst ((L.map fun i => L.map fun j => D.int (l i j)).flatten)) := by
    refine vLc2_map (I := fun i : Nat => .int i) (J := fun _ (j : Nat) => .int j) (xs := L) (ys := fun _ => L) rfl (by simp) 12 12 (by omega) (fun _ _ => by omega) (by decide) fun i m => ⟨_, rfl, rfl, by simp, fun j mj => ⟨_, rfl, ?_⟩⟩
    simp [hLn i m, hLn j mj]
  have c4 : ∀ x3, fb_lot_right_c4 C [some (.z, seaD C n w l), some (.z, .int s), some (.z, .tup (L.map fun i : Nat => .int i)), x3, none, none] = some (.lst (L.map fun i => .int (w i))) := fun x3 => by
    refine vLc_map (I := fun i : Nat => .int i) (xs := L) rfl (by simp) (by omega) fun i m => ⟨_, rfl, ?_⟩
    simp [hLn i m]
  have k1 : dSortedDK (.dicK ((kfold [] (L.map fun i : Nat => (i : Int))).map Sum.inl) ds') = some (.lst (L.map fun i : Nat => D.int (i : Int))) := by
    rw [dSortedDK_keys (by simp; omega), sset_self (cast_sorted hL), ← map_cast]
  have k2 : dNe (.lst (L.map fun i : Nat => D.int (i : Int))) (.lst (L.map fun i : Nat => D.int (i : Int))) = some (.bl false) := by
    rw [map_cast, dNe_lsts]; simp
  have a3 := dSumA_flat (xs := L) (ys := L) l
  rw [lot_sq hL hLn] at a3
  have a4 : dSumA (.lst (L.map fun i => D.int (w i))) = some (.int (sw n w fun i => decide (i ∈ L))) := by
    rw [dSumA_int, lot_sum hL hLn]; rfl
  have hd : bDiv (si n l fun i => decide (i ∈ L)) 2 = true := rfl
  have hm := bMul12 (x := has n w l s) (show L.length ≤ 12 by omega)
  have hfd : (si n l fun i => decide (i ∈ L)).fdiv 2 = (si n l fun i => decide (i ∈ L)) / 2 := Int.fdiv_eq_ediv_of_nonneg _ (by decide)
  have ht : tOrF (vB (v2 dEq (v1 dLen (vVarZ 2)) (vC (.int 0)))) (tOrF (vB (v2 dIn (vVarZ 1) (vVarZ 2))) (vB (v2 dNe (v1 dList (vVarZ 2)) (v1 dSortedDK fb_lot_right_c2)))) [some (.z, seaD C n w l), some (.z, .int s), some (.z, .tup (L.map fun i : Nat => .int i)), none, none, none] = some (decide (L = []) || decide (s ∈ L)) := by
    by_cases h1 : L = []
    · subst h1; simp
    · have h2 : ¬ ((L.length : Int) = 0) := fun z => h1 (List.eq_nil_of_length_eq_zero (by omega))
      by_cases h3 : s ∈ L
      · simp [h1, h3]
      · simp [h1, h3, c2, k1, k2]
  have e : m_lot_right C [seaD C n w l, .int s, .tup (L.map fun i : Nat => .int i)] = endP (fb_lot_right C [some (.z, seaD C n w l), some (.z, .int s), some (.z, .tup (L.map fun i : Nat => .int i)), none, none, none]) := rfl
  rw [e]
  unfold fb_lot_right
  have s1 : (sIf (upT (tOrF (tNotF (vB (vIsi "tuple" (vVarZ 2)))) (tNotF (vB (v1 dAll (fb_lot_right_c1 C)))))) (sRet (up (vC (.bl false)))) sNext) [some (.z, seaD C n w l), some (.z, .int s), some (.z, .tup (L.map fun i : Nat => .int i)), none, none, none] = some (.nx [some (.z, seaD C n w l), some (.z, .int s), some (.z, .tup (L.map fun i : Nat => .int i)), none, none, none]) := by
    simp [c1, a1, isT, tyName, isTab]
  rw [sSeq_nx s1]
  unfold lotB
  cases hb : (decide (L = []) || decide (s ∈ L)) with
  | true =>
    have s2 : (sIf (upT (tOrF (vB (v2 dEq (v1 dLen (vVarZ 2)) (vC (.int 0)))) (tOrF (vB (v2 dIn (vVarZ 1) (vVarZ 2))) (vB (v2 dNe (v1 dList (vVarZ 2)) (v1 dSortedDK fb_lot_right_c2)))))) (sRet (up (vC (.bl false)))) sNext) [some (.z, seaD C n w l), some (.z, .int s), some (.z, .tup (L.map fun i : Nat => .int i)), none, none, none] = some (.rt (.bl false) [some (.z, seaD C n w l), some (.z, .int s), some (.z, .tup (L.map fun i : Nat => .int i)), none, none, none]) := by
      rw [sIf_t _ ht, hb]; rfl
    rw [sSeq_rt s2]; rfl
  | false =>
    have s2 : (sIf (upT (tOrF (vB (v2 dEq (v1 dLen (vVarZ 2)) (vC (.int 0)))) (tOrF (vB (v2 dIn (vVarZ 1) (vVarZ 2))) (vB (v2 dNe (v1 dList (vVarZ 2)) (v1 dSortedDK fb_lot_right_c2)))))) (sRet (up (vC (.bl false)))) sNext) [some (.z, seaD C n w l), some (.z, .int s), some (.z, .tup (L.map fun i : Nat => .int i)), none, none, none] = some (.nx [some (.z, seaD C n w l), some (.z, .int s), some (.z, .tup (L.map fun i : Nat => .int i)), none, none, none]) := by
      rw [sIf_t _ ht, hb]; rfl
    have s3 : (sSet 3 .z (up (v2 dFdiv (v1 dSumA (fb_lot_right_c3 C)) (vC (.int 2))))) [some (.z, seaD C n w l), some (.z, .int s), some (.z, .tup (L.map fun i : Nat => .int i)), none, none, none] = some (.nx [some (.z, seaD C n w l), some (.z, .int s), some (.z, .tup (L.map fun i : Nat => .int i)), some (.z, .int ((si n l fun i => decide (i ∈ L)) / 2)), none, none]) := by
      simp only [q_sSet, q_up, q_v2, q_v1, c3, Option.bind_some, a3, q_vC, q_IIc, hd, if_true, hfd, Option.map_some, List.set_cons_succ, List.set_cons_zero]
    have s4 : (sRet (up (v2 dGt (v2 dAddI (v1 dSumA (fb_lot_right_c4 C)) (vVarZ 3)) (v2 dMulI (v1 dLen (vVarZ 2)) (vMeth 2 C "most" (m_Season_most C) (vVarZ 0) (aCons (vVarZ 1) aNil)))))) [some (.z, seaD C n w l), some (.z, .int s), some (.z, .tup (L.map fun i : Nat => .int i)), some (.z, .int ((si n l fun i => decide (i ∈ L)) / 2)), none, none] = some (.rt (.bl (decide (has n w l s * pop n (fun i => decide (i ∈ L)) < lotW n w l (fun i => decide (i ∈ L))))) [some (.z, seaD C n w l), some (.z, .int s), some (.z, .tup (L.map fun i : Nat => .int i)), some (.z, .int ((si n l fun i => decide (i ∈ L)) / 2)), none, none]) := by
      have hM : w s + sumR n (l s) = has n w l s := rfl
      have hc : (L.length : Int) * has n w l s = has n w l s * pop n (fun i => decide (i ∈ L)) := by rw [lot_len hL hLn, Int.mul_comm]
      have hlw : sw n w (fun i => decide (i ∈ L)) + si n l (fun i => decide (i ∈ L)) / 2 = lotW n w l fun i => decide (i ∈ L) := rfl
      have A : v2 dMulI (v1 dLen (vVarZ 2)) (vMeth 2 C "most" (m_Season_most C) (vVarZ 0) (aCons (vVarZ 1) aNil)) [some (.z, seaD C n w l), some (.z, .int s), some (.z, .tup (L.map fun i : Nat => .int i)), some (.z, .int ((si n l fun i => decide (i ∈ L)) / 2)), none, none] = some (.int (has n w l s * pop n (fun i => decide (i ∈ L)))) := by
        have A1 : v1 dLen (vVarZ 2) [some (.z, seaD C n w l), some (.z, .int s), some (.z, .tup (L.map fun i : Nat => .int i)), some (.z, .int ((si n l fun i => decide (i ∈ L)) / 2)), none, none] = some (.int (L.length : Int)) := by
          simp only [q_v1, Option.bind_some, q_vVarZ, List.getElem?_cons_succ, List.getElem?_cons_zero, q_len_t, List.length_map]
        have A2 : vMeth 2 C "most" (m_Season_most C) (vVarZ 0) (aCons (vVarZ 1) aNil) [some (.z, seaD C n w l), some (.z, .int s), some (.z, .tup (L.map fun i : Nat => .int i)), some (.z, .int ((si n l fun i => decide (i ∈ L)) / 2)), none, none] = some (.int (has n w l s)) := by
          simp [most_ev hs]; exact hM
        rw [← hc, q_v2, A1, A2, Option.bind_some, Option.bind_some, dMulI_int hm]
      have B : v2 dAddI (v1 dSumA (fb_lot_right_c4 C)) (vVarZ 3) [some (.z, seaD C n w l), some (.z, .int s), some (.z, .tup (L.map fun i : Nat => .int i)), some (.z, .int ((si n l fun i => decide (i ∈ L)) / 2)), none, none] = some (.int (lotW n w l (fun i => decide (i ∈ L)))) := by
        rw [← hlw]
        simp only [q_v2, q_v1, c4, Option.bind_some, a4, q_vVarZ, List.getElem?_cons_succ, List.getElem?_cons_zero, q_II]
      rw [q_sRet, q_up, q_v2, A, B, Option.bind_some, Option.bind_some]
      simp only [q_II, Option.map_some]
    rw [sSeq_nx s2, sSeq_nx s3, s4]
    simp
end
end K06

set_option Elab.async false
set_option linter.all false
set_option maxRecDepth 100000
noncomputable section
namespace K06
open PySem PySem.Spec PyProof.Rows L2 VL
section
variable {C C2 : Addr} {n : Nat} {w : Nat → Int} {l : Nat → Nat → Int} {s : Nat}
theorem wonB_iff {W : Nat → Nat → Int} : wonB n W l = true ↔ ∀ i j, i < n → j < n → W i j + W j i = l i j := by
  simp only [wonB, List.all_eq_true, List.mem_range, beq_iff_eq]
  exact ⟨fun h i j hi hj => h i hi j hj, fun h i hi j hj => h i j hi hj⟩
theorem first_c1 (hn : n ≤ 12) {W : Nat → Nat → Int} : fb_first_right_c1 C [some (.z, seaD C n w l), some (.z, .int s), some (.z, .tup [.str "won", matT n W]), none, none, none] = some (.lst ((List.range n).map fun i => .int (has n w W i))) := by
  refine vLc_map (I := fun i => .tup [.int (w i), rowT n (W i)]) (xs := List.range n) rfl ?_ (by simp; omega) fun i m => ⟨[some (.z, seaD C n w l), some (.z, .int s), some (.z, .tup [.str "won", matT n W]), none, some (.z, .int (w i)), some (.z, rowT n (W i))], rfl, ?_⟩
  · simp [dZip_map]
  · simp [dSumA_int]; rfl
theorem first_won_f (hn : n ≤ 12) (hs : s < n) {W : Nat → Nat → Int} (h0 : ∀ i j, i < n → j < n → 0 ≤ W i j ∧ W i j ≤ 100000) (h : wonB n W l = false) : m_first_right C [seaD C n w l, .int s, .tup [.str "won", matT n W]] = some (.bl false) := by
  have e := is_won_ev (C := C) (w := w) (l := l) hn h0
  rw [h] at e
  simp [m_first_right, fb_first_right, look_ev hs, e, isT, tyName, isTab]
theorem first_won_t (hn : n ≤ 12) (hs : s < n) {W : Nat → Nat → Int} (h0 : ∀ i j, i < n → j < n → 0 ≤ W i j ∧ W i j ≤ 100000) (h : wonB n W l = true) (hm : ∀ i, i < n → has n w W i ≤ has n w W s) : m_first_right C [seaD C n w l, .int s, .tup [.str "won", matT n W]] = some (.bl true) := by
  have e := is_won_ev (C := C) (w := w) (l := l) hn h0
  rw [h] at e
  have mx : imax ((List.range n).map (has n w W)) = some (has n w W s) := imax_of (List.mem_map.mpr ⟨s, List.mem_range.mpr hs, rfl⟩) fun y m => by
    obtain ⟨i, hi, rfl⟩ := List.mem_map.mp m
    exact hm i (List.mem_range.mp hi)
  simp [m_first_right, fb_first_right, look_ev hs, e, isT, tyName, isTab, first_c1 hn, q_dMaxF, mx, hs]
theorem first_lot (hn : n ≤ 12) (hs : s < n) {L : List Nat} (hL : L.Pairwise (· < ·)) (hLn : ∀ i ∈ L, i < n) : m_first_right C [seaD C n w l, .int s, .tup [.str "lot", .tup (L.map fun i : Nat => .int i)]] = some (.bl (lotB n w l s L)) := by
  have e := lot_right_ev (C := C) (w := w) (l := l) hn hs hL hLn
  generalize lotB n w l s L = b at e
  simp [m_first_right, fb_first_right, look_ev hs, e, isT, tyName, isTab]
/-- the program's own paper is right -/
theorem own_right (k : Ok n w l) (hs : s < n) {d : D} (h : Dec n w l s d) : m_first_right C [seaD C n w l, .int s, d] = some (.bl true) := by
  rcases h.can hs with ⟨_, W, hW, hle, rfl⟩ | ⟨_, L, hL, hLn, h1, h2, h3, rfl⟩
  · refine first_won_t k.n12 hs (fun i j hi hj => ?_) (wonB_iff.mpr hW.two) fun i hi => ?_
    · have a := hW.pos i j hi hj
      have b := hW.pos j i hj hi
      have c := hW.two i j hi hj
      have d := (k.l0 i j hi hj).2
      omega
    · rw [hW.has]; exact hle i hi
  · rw [first_lot k.n12 hs hL hLn]
    simp [lotB, h1, h2, h3]
/-- a paper of the season behind a match of s is no right paper of wins before it -/
theorem after_right (k : Ok n w l) {w' : Nat → Int} {l' : Nat → Nat → Int} (k' : Ok n w' l') (hs : s < n) {t : Nat} (ht : t < n) (hd : l' s t ≠ l s t) {d : D} (h : Dec n w' l' s d) :
    (∃ b, m_first_right C [seaD C n w l, .int s, d] = some (.bl b) ∧ (b = true → dIx d (.int 0) = some (.str "lot"))) := by
  rcases h.can hs with ⟨_, W, hW, hle, rfl⟩ | ⟨_, L, hL, hLn, h1, h2, h3, rfl⟩
  · refine ⟨false, first_won_f k.n12 hs (fun i j hi hj => ?_) ?_, nofun⟩
    · have a := hW.pos i j hi hj
      have b := hW.pos j i hj hi
      have c := hW.two i j hi hj
      have d := (k'.l0 i j hi hj).2
      omega
    · cases q : wonB n W l with
      | false => rfl
      | true =>
        have := wonB_iff.mp q s t hs ht
        have := hW.two s t hs ht
        omega
  · exact ⟨_, first_lot k.n12 hs hL hLn, fun _ => rfl⟩
end
end K06

set_option Elab.async false
set_option linter.all false
set_option maxRecDepth 100000
noncomputable section
namespace K06
open PySem PySem.Spec PyProof.Rows L2 VL
section
variable {C C2 : Addr} {n : Nat} {w : Nat → Int} {l : Nat → Nat → Int} {s : Nat}
abbrev prD (p : Nat × Nat) : D := .tup [.int (p.1 : Int), .int (p.2 : Int)]
def prs (k n : Nat) : List (Nat × Nat) := ((List.range k).map fun i => (List.range n).map fun j => (i, j)).flatten
theorem prs_succ (k n : Nat) : prs (k + 1) n = prs k n ++ (List.range n).map fun j => (k, j) := by
  simp [prs, List.range_succ]
theorem prs_len (k n : Nat) : (prs k n).length = k * n := by
  induction k with
  | zero => simp [prs]
  | succ k ih => rw [prs_succ, List.length_append, ih]; simp [Nat.add_mul]
theorem prs_mem {k n : Nat} {p : Nat × Nat} : p ∈ prs k n ↔ p.1 < k ∧ p.2 < n := by
  unfold prs
  constructor
  · intro h
    obtain ⟨i, hi, h⟩ := mem_flat h
    obtain ⟨j, hj, rfl⟩ := List.mem_map.mp h
    exact ⟨List.mem_range.mp hi, List.mem_range.mp hj⟩
  · intro ⟨h1, h2⟩
    refine List.mem_flatten.mpr ⟨_, List.mem_map.mpr ⟨p.1, List.mem_range.mpr h1, rfl⟩, List.mem_map.mpr ⟨p.2, List.mem_range.mpr h2, rfl⟩⟩
theorem dCatL_lst {xs ys : List D} (h : xs.length + ys.length ≤ 1000000) : dCatL (.lst xs) (.lst ys) = some (.lst (xs ++ ys)) := if_pos h
theorem both_ev (hn : n ≤ 12) : m__law_both [.int n] = some (.lst ((prs n n).map prD)) := by
  have hn3 : (n : Int) < 1000000000 ∧ -1000000000 < (n : Int) := by omega
  have loop := forL_inv (g := gN 2) (b := fb__law_both_b1) (I := fun j : Nat => D.int j) (List.range n) (fun k ρ => ∃ y, ρ = [some (.z, .int n), some (.z, .lst ((prs k n).map prD)), y, none]) (ρ := [some (.z, .int n), some (.z, .lst []), none, none]) (fun i j ρ hk ⟨y, e⟩ => by
    subst e
    obtain ⟨k1, k2⟩ := List.getElem?_eq_some_iff.mp hk
    simp at k1 k2
    subst k2
    have c1 : fb__law_both_c1 [some (.z, .int n), some (.z, .lst ((prs i n).map prD)), some (.z, .int i), none] = some (.lst ((List.range n).map fun j => prD (i, j))) := by
      refine vLc_map (I := fun j : Nat => .int j) (xs := List.range n) rfl (by simp [vRng1, hn3]) (by simp; omega) fun j m => ⟨_, rfl, ?_⟩
      simp
    have h1 : (prs i n).length ≤ 144 := by
      rw [prs_len]
      exact Nat.le_trans (Nat.mul_le_mul (Nat.le_of_lt (Nat.lt_of_lt_of_le k1 hn)) hn) (by decide)
    have e : dCatL (.lst ((prs i n).map prD)) (.lst ((List.range n).map fun j => prD (i, j))) = some (.lst ((prs (i + 1) n).map prD)) := by
      rw [prs_succ, List.map_append, List.map_map]
      exact dCatL_lst (by simp; omega)
    refine ⟨[some (.z, .int n), some (.z, .lst ((prs i n).map prD)), some (.z, .int i), none], [some (.z, .int n), some (.z, .lst ((prs (i + 1) n).map prD)), some (.z, .int i), none], rfl, .inl ?_, ⟨_, rfl⟩⟩
    unfold fb__law_both_b1
    rw [q_sSet, q_up, q_v2, q_vVarZ, c1]
    simp only [List.getElem?_cons_succ, List.getElem?_cons_zero, Option.bind_some, e, Option.map_some]
    rfl) ⟨none, rfl⟩
  obtain ⟨ρ', e, y, rfl⟩ := loop
  simp at e
  simp [m__law_both, fb__law_both, vRng1, hn3, e]
/-! ### sums over pairs -/
theorem filt_sum2 {ι : Type} (xs : List ι) (p : ι → Bool) (F : ι → Int) : ((xs.filter p).map F).sum = (xs.map fun x => if p x then F x else 0).sum := by
  induction xs with
  | nil => rfl
  | cons x xs ih => cases h : p x <;> simp [h, ih]
theorem prs_sum (k n : Nat) (G : Nat × Nat → Int) : ((prs k n).map G).sum = sumR k fun i => sumR n fun j => G (i, j) := by
  induction k with
  | zero => simp [prs, sumR_zero]
  | succ k ih => rw [prs_succ, List.map_append, List.sum_append, ih, sumR_succ, List.map_map]; rfl
theorem up_half (k : Ok n w l) (c : Nat → Bool) : (((prs n n).filter fun p => decide (p.1 < p.2) && (c p.1 && c p.2)).map fun p => l p.1 p.2).sum = si n l c / 2 := by
  rw [filt_sum2, prs_sum]
  have e1 : (sumR n fun i => sumR n fun j => if (decide (i < j) && (c i && c j)) = true then l i j else 0) = sumR n fun i => sumR n fun j => if (decide (j < i) && (c j && c i)) = true then l i j else 0 := by
    rw [sumR_comm]
    exact sumR_congr fun i hi => sumR_congr fun j hj => by rw [k.sym j i hj hi]
  have e2 : si n l c = (sumR n fun i => sumR n fun j => if (decide (i < j) && (c i && c j)) = true then l i j else 0) + sumR n fun i => sumR n fun j => if (decide (j < i) && (c j && c i)) = true then l i j else 0 := by
    rw [← sumR_add]
    unfold si
    refine sumR_congr fun i hi => ?_
    rw [← sumR_add]
    cases h : c i with
    | false => simp [sumR_ite0]
    | true =>
      simp only [if_true, Bool.true_and, Bool.and_true]
      refine sumR_congr fun j hj => ?_
      cases h2 : c j with
      | false => simp
      | true =>
        simp only [if_true, Bool.and_true, decide_eq_true_eq]
        rcases Nat.lt_trichotomy i j with q | q | q
        · rw [if_pos q, if_neg (by omega)]; omega
        · subst q; simp [k.dia i hi]
        · rw [if_neg (by omega), if_pos q]; omega
  rw [← e1] at e2
  show (sumR n fun i => sumR n fun j => if (decide (i < j) && (c i && c j)) = true then l i j else 0) = _
  omega
/-! ### the law's own look at a paper -/
theorem vLc_none {ι : Type} {vs : List Nat} {fi : Sto → Option (List D)} {g : D → Sto → Option Sto} {ft : Sto → Option Bool} {fe : Sto → Option D} {ρ : Sto} {I : ι → D} {xs : List ι} (hp : PlainAt ρ vs = true) (hi : fi ρ = some (xs.map I)) (hl : xs.length ≤ 1000000)
    (h : ∀ x ∈ xs, ∃ ρ1, g (I x) (wipeS ρ vs) = some ρ1 ∧ ft ρ1 = some false) : vLc vs fi g ft fe ρ = some (.lst []) := by
  rw [vLc_eq (p := fun _ => false) (E := fun _ => .non) hp hi hl fun x m => by
    obtain ⟨ρ1, h1, h2⟩ := h x m
    exact ⟨ρ1, h1, h2, nofun⟩, List.filter_eq_nil_iff.mpr fun _ _ => by simp]
  rfl
abbrev stP (n : Nat) (w : Nat → Int) (l : Nat → Nat → Int) (s : Nat) (d : D) (x5 x6 x7 x8 x9 x10 : Slot) : Sto := [some (.z, rowT n w), some (.z, matT n l), some (.z, .int s), some (.z, d), some (.z, .int n), x5, x6, x7, x8, x9, x10, none, none, none]
theorem both_call (hn : n ≤ 12) {d : D} {x5 x6 x7 x8 x9 x10 x11 x12 x13 : Slot} : vCall (n := 1) m__law_both (aCons (vVarZ 4) aNil) [some (.z, rowT n w), some (.z, matT n l), some (.z, .int s), some (.z, d), some (.z, .int n), x5, x6, x7, x8, x9, x10, x11, x12, x13] = some (.lst ((prs n n).map prD)) := by
  have ha : aCons (vVarZ 4) aNil [some (.z, rowT n w), some (.z, matT n l), some (.z, .int s), some (.z, d), some (.z, .int n), x5, x6, x7, x8, x9, x10, x11, x12, x13] = some [.int n] := rfl
  rw [q_vCall, ha, Option.bind_some, if_pos (show [D.int (n : Int)].length = 1 from rfl)]
  exact both_ev hn
theorem paper_won (k : Ok n w l) (hs : s < n) {W : Nat → Nat → Int} (hW : Inv6 n l s W) (hle : ∀ i, i < n → has n w W i ≤ has n w l s) : m__law_paper [rowT n w, matT n l, .int s, .tup [.str "won", matT n W]] = some (.bl true) := by
  have hn := k.n12
  have hn3 : (n : Int) < 1000000000 ∧ -1000000000 < (n : Int) := by omega
  have c1 : fb__law_paper_c1 (stP n w l s (.tup [.str "won", matT n W]) none (some (.z, matT n W)) none none none none) = some (.lst []) := by
    exact vLc_none (I := fun i => rowT n (W i)) (xs := List.range n) rfl (by simp) (by simp; omega) fun i m => ⟨_, rfl, by simp [isT, tyName, isTab]⟩
  have hl : (prs n n).length ≤ 1000000 := by
    rw [prs_len]
    exact Nat.le_trans (Nat.mul_le_mul hn hn) (by decide)
  have c2 : fb__law_paper_c2 (stP n w l s (.tup [.str "won", matT n W]) none (some (.z, matT n W)) (some (.z, .lst ((prs n n).map prD))) none none none) = some (.lst []) := by
    refine vLc_none (I := prD) (xs := prs n n) rfl (by simp) hl fun p m => ⟨[some (.z, rowT n w), some (.z, matT n l), some (.z, .int s), some (.z, .tup [.str "won", matT n W]), some (.z, .int n), none, some (.z, matT n W), some (.z, .lst ((prs n n).map prD)), none, none, none, some (.z, .int p.1), some (.z, .int p.2), none], rfl, ?_⟩
    obtain ⟨h1, h2⟩ := prs_mem.mp m
    have a := hW.pos p.1 p.2 h1 h2
    have b := hW.two p.1 p.2 h1 h2
    simp [h1, h2, dNe_int, a, b]
  have c3 : fb__law_paper_c3 (stP n w l s (.tup [.str "won", matT n W]) none (some (.z, matT n W)) (some (.z, .lst ((prs n n).map prD))) none none none) = some (.lst ((List.range n).map fun i => .int (has n w W i))) := by
    refine vLc_map (I := fun i : Nat => .int i) (xs := List.range n) rfl (by simp [vRng1, hn3]) (by simp; omega) fun i m => ⟨_, rfl, ?_⟩
    have hi := List.mem_range.mp m
    simp [hi, dSumA_int]; rfl
  have hsW := hW.has (w := w)
  have mx : imax ((List.range n).map (has n w W)) = some (has n w l s) := imax_of (List.mem_map.mpr ⟨s, List.mem_range.mpr hs, hsW⟩) fun y m => by
    obtain ⟨i, hi, rfl⟩ := List.mem_map.mp m
    exact hle i (List.mem_range.mp hi)
  have cb := both_call (l := l) (w := w) (s := s) (d := .tup [.str "won", matT n W]) hn (x5 := none) (x6 := some (.z, matT n W)) (x7 := none) (x8 := none) (x9 := none) (x10 := none) (x11 := none) (x12 := none) (x13 := none)
  have e : m__law_paper [rowT n w, matT n l, .int s, .tup [.str "won", matT n W]] = endP (fb__law_paper [some (.z, rowT n w), some (.z, matT n l), some (.z, .int s), some (.z, .tup [.str "won", matT n W]), none, none, none, none, none, none, none, none, none, none]) := rfl
  have s0 : (sSet 4 .z (up (v1 dLen (vVarZ 0)))) [some (.z, rowT n w), some (.z, matT n l), some (.z, .int s), some (.z, .tup [.str "won", matT n W]), none, none, none, none, none, none, none, none, none, none] = some (.nx (stP n w l s (.tup [.str "won", matT n W]) none none none none none none)) := by simp
  have s1 : (sSet 6 .z (up (v2 dIx (vVarZ 3) (vC (.int 1))))) (stP n w l s (.tup [.str "won", matT n W]) none none none none none none) = some (.nx (stP n w l s (.tup [.str "won", matT n W]) none (some (.z, matT n W)) none none none none)) := by simp
  have s2 : (sIf (upT (tOrF (tNotF (vB (vIsi "tuple" (vVarZ 6)))) (tOrF (vB (v2 dNe (v1 dLen (vVarZ 6)) (vVarZ 4))) (vB (v2 dGt (v1 dLen fb__law_paper_c1) (vC (.int 0))))))) (sRet (up (vC (.bl false)))) sNext) (stP n w l s (.tup [.str "won", matT n W]) none (some (.z, matT n W)) none none none none) = some (.nx (stP n w l s (.tup [.str "won", matT n W]) none (some (.z, matT n W)) none none none none)) := by
    simp [c1, isT, tyName, isTab]
  have s3 : (sSet 7 .z (up (vCall (n := 1) m__law_both (aCons (vVarZ 4) aNil)))) (stP n w l s (.tup [.str "won", matT n W]) none (some (.z, matT n W)) none none none none) = some (.nx (stP n w l s (.tup [.str "won", matT n W]) none (some (.z, matT n W)) (some (.z, .lst ((prs n n).map prD))) none none none)) := by
    rw [q_sSet, q_up, cb]; rfl
  have s4 : (sIf (upT (vB (v2 dGt (v1 dLen fb__law_paper_c2) (vC (.int 0))))) (sRet (up (vC (.bl false)))) sNext) (stP n w l s (.tup [.str "won", matT n W]) none (some (.z, matT n W)) (some (.z, .lst ((prs n n).map prD))) none none none) = some (.nx (stP n w l s (.tup [.str "won", matT n W]) none (some (.z, matT n W)) (some (.z, .lst ((prs n n).map prD))) none none none)) := by
    simp [c2]
  have s5 : (sSet 8 (.seq .z) (up fb__law_paper_c3)) (stP n w l s (.tup [.str "won", matT n W]) none (some (.z, matT n W)) (some (.z, .lst ((prs n n).map prD))) none none none) = some (.nx (stP n w l s (.tup [.str "won", matT n W]) none (some (.z, matT n W)) (some (.z, .lst ((prs n n).map prD))) (some (.seq .z, .lst ((List.range n).map fun i => .int (has n w W i)))) none none)) := by
    simp [c3]
  have s6 : (sRet (up (v2 dEq (v2 dIx (vVarS 8) (vVarZ 2)) (v1 dMax (vVarS 8))))) (stP n w l s (.tup [.str "won", matT n W]) none (some (.z, matT n W)) (some (.z, .lst ((prs n n).map prD))) (some (.seq .z, .lst ((List.range n).map fun i => .int (has n w W i)))) none none) = some (.rt (.bl true) (stP n w l s (.tup [.str "won", matT n W]) none (some (.z, matT n W)) (some (.z, .lst ((prs n n).map prD))) (some (.seq .z, .lst ((List.range n).map fun i => .int (has n w W i)))) none none)) := by
    simp [q_dMaxF, mx, hs, hsW]
  have t1 : vB (v2 dEq (v2 dIx (vVarZ 3) (vC (.int 0))) (vC (.str "won"))) (stP n w l s (.tup [.str "won", matT n W]) none none none none none none) = some true := by simp
  rw [e]
  unfold fb__law_paper
  rw [sSeq_nx s0]
  rw [sSeq, sIf_t _ t1, if_pos rfl, sSeq_nx s1, sSeq_nx s2, sSeq_nx s3, sSeq_nx s4, sSeq_nx s5, s6]
  rfl
theorem paper_lot (k : Ok n w l) (hs : s < n) {L : List Nat} (hL : L.Pairwise (· < ·)) (hLn : ∀ i ∈ L, i < n) (hsL : s ∉ L) (h0 : L ≠ []) (hh : has n w l s * pop n (fun i => decide (i ∈ L)) < lotW n w l (fun i => decide (i ∈ L))) : m__law_paper [rowT n w, matT n l, .int s, .tup [.str "lot", .tup (L.map fun i : Nat => .int i)]] = some (.bl true) := by
  have hn := k.n12
  have hn3 : (n : Int) < 1000000000 ∧ -1000000000 < (n : Int) := by omega
  have hle := lot_le hL hLn
  have hl : (prs n n).length ≤ 1000000 := by
    rw [prs_len]
    exact Nat.le_trans (Nat.mul_le_mul hn hn) (by decide)
  obtain ⟨d, hd⟩ : ∃ d, D.tup [.str "lot", .tup (L.map fun i : Nat => .int i)] = d := ⟨_, rfl⟩
  have c4 : fb__law_paper_c4 (stP n w l s d none none none none (some (.z, .tup (L.map fun i : Nat => .int i))) (some (.z, .int (has n w l s)))) = some (.lst (((prs n n).filter fun p => decide (p.1 < p.2) && (decide (p.1 ∈ L) && decide (p.2 ∈ L))).map fun p => .int (l p.1 p.2))) := by
    refine vLc_eq (I := prD) (xs := prs n n) rfl (by rw [q_vItems, both_call hn]; rfl) hl fun p m => ⟨[some (.z, rowT n w), some (.z, matT n l), some (.z, .int s), some (.z, d), some (.z, .int n), none, none, none, none, some (.z, .tup (L.map fun i : Nat => .int i)), some (.z, .int (has n w l s)), some (.z, .int p.1), some (.z, .int p.2), none], rfl, ?_, fun _ => ?_⟩
    · cases h1 : decide (p.1 < p.2) <;> cases h2 : decide (p.1 ∈ L) <;> cases h3 : decide (p.2 ∈ L) <;> simp_all
    · obtain ⟨h1, h2⟩ := prs_mem.mp m
      simp [h1, h2]
  have c5 : fb__law_paper_c5 (stP n w l s d (some (.z, .int (si n l (fun i => decide (i ∈ L)) / 2))) none none none (some (.z, .tup (L.map fun i : Nat => .int i))) (some (.z, .int (has n w l s)))) = some (.lst (L.map fun i => .int (w i))) := by
    refine vLc_map (I := fun i : Nat => .int i) (xs := L) rfl (by simp) (by omega) fun i m => ⟨_, rfl, ?_⟩
    simp [hLn i m]
  have a4 : dSumA (.lst (((prs n n).filter fun p => decide (p.1 < p.2) && (decide (p.1 ∈ L) && decide (p.2 ∈ L))).map fun p => D.int (l p.1 p.2))) = some (.int (si n l (fun i => decide (i ∈ L)) / 2)) := by
    rw [dSumA_int, up_half k fun i => decide (i ∈ L)]
  have a5 : dSumA (.lst (L.map fun i => D.int (w i))) = some (.int (sw n w fun i => decide (i ∈ L))) := by
    rw [dSumA_int, lot_sum hL hLn]; rfl
  have hm : bMul (has n w l s) (L.length : Int) = true := bMul_small (show L.length ≤ 12 by omega)
  have hc : has n w l s * (L.length : Int) = has n w l s * pop n (fun i => decide (i ∈ L)) := by rw [lot_len hL hLn]
  have hlw : sw n w (fun i => decide (i ∈ L)) + si n l (fun i => decide (i ∈ L)) / 2 = lotW n w l fun i => decide (i ∈ L) := rfl
  have hM : w s + sumR n (l s) = has n w l s := rfl
  have hd0 : dIx d (.int 0) = some (.str "lot") := by rw [← hd]; rfl
  have hd1 : dIx d (.int 1) = some (.tup (L.map fun i : Nat => .int i)) := by rw [← hd]; rfl
  rw [hd]
  have e : m__law_paper [rowT n w, matT n l, .int s, d] = endP (fb__law_paper [some (.z, rowT n w), some (.z, matT n l), some (.z, .int s), some (.z, d), none, none, none, none, none, none, none, none, none, none]) := rfl
  have s0 : (sSet 4 .z (up (v1 dLen (vVarZ 0)))) [some (.z, rowT n w), some (.z, matT n l), some (.z, .int s), some (.z, d), none, none, none, none, none, none, none, none, none, none] = some (.nx (stP n w l s d none none none none none none)) := by simp
  have t1 : vB (v2 dEq (v2 dIx (vVarZ 3) (vC (.int 0))) (vC (.str "won"))) (stP n w l s d none none none none none none) = some false := by simp [hd0]
  have m1 : (v1 dSumA (v2 dIx (vVarZ 1) (vVarZ 2))) (stP n w l s d none none none none none none) = some (.int (sumR n (l s))) := by
    simp [hs, dSumA_int]; rfl
  have m2 : (v2 dAddI (v2 dIx (vVarZ 0) (vVarZ 2)) (v1 dSumA (v2 dIx (vVarZ 1) (vVarZ 2)))) (stP n w l s d none none none none none none) = some (.int (has n w l s)) := by
    rw [q_v2, m1, ← hM]
    simp [hs]
  have s1 : (sAsg (up (vTup (aCons (v2 dIx (vVarZ 3) (vC (.int 1))) (aCons (v2 dAddI (v2 dIx (vVarZ 0) (vVarZ 2)) (v1 dSumA (v2 dIx (vVarZ 1) (vVarZ 2)))) aNil)))) (gTupF 2 (gsCons (gN 9) (gsCons (gN 10) gsNil)))) (stP n w l s d none none none none none none) = some (.nx (stP n w l s d none none none none (some (.z, .tup (L.map fun i : Nat => .int i))) (some (.z, .int (has n w l s))))) := by
    have m3 : vTup (aCons (v2 dIx (vVarZ 3) (vC (.int 1))) (aCons (v2 dAddI (v2 dIx (vVarZ 0) (vVarZ 2)) (v1 dSumA (v2 dIx (vVarZ 1) (vVarZ 2)))) aNil)) (stP n w l s d none none none none none none) = some (.tup [.tup (L.map fun i : Nat => .int i), .int (has n w l s)]) := by
      have m4 : v2 dIx (vVarZ 3) (vC (.int 1)) (stP n w l s d none none none none none none) = some (.tup (L.map fun i : Nat => .int i)) := by
        rw [q_v2]; exact hd1
      generalize has n w l s = hh at m2 ⊢
      simp only [q_vTup, q_aCons, m2, q_aNil, m4, Option.bind_some, Option.map_some, List.length_cons, List.length_nil]
      rfl
    rw [q_sAsg, q_up, m3]; rfl
  have k1 : dSortedSetA (.tup (L.map fun i : Nat => D.int i)) = some (.lst (L.map fun i : Nat => D.int (i : Int))) := by
    rw [q_setA_t, map_cast, dInts_map, Option.bind_some, if_pos (by simp; omega), sset_self (cast_sorted hL)]
  have k2 : dNe (.lst (L.map fun i : Nat => D.int (i : Int))) (.lst (L.map fun i : Nat => D.int (i : Int))) = some (.bl false) := by
    rw [map_cast, dNe_lsts]; simp
  have s2 : (sIf (upT (tOrF (tNotF (vB (vIsi "tuple" (vVarZ 9)))) (tOrF (vB (v2 dNe (v1 dList (vVarZ 9)) (v1 dSortedSetA (vVarZ 9)))) (tOrF (vB (v2 dIn (vVarZ 2) (vVarZ 9))) (vB (v2 dEq (v1 dLen (vVarZ 9)) (vC (.int 0)))))))) (sRet (up (vC (.bl false)))) sNext) (stP n w l s d none none none none (some (.z, .tup (L.map fun i : Nat => .int i))) (some (.z, .int (has n w l s)))) = some (.nx (stP n w l s d none none none none (some (.z, .tup (L.map fun i : Nat => .int i))) (some (.z, .int (has n w l s))))) := by
    generalize has n w l s = hh
    simp [k1, k2, -q_setA_t, hsL, h0, isT, tyName, isTab]
  have s3 : (sSet 5 .z (up (v1 dSumA fb__law_paper_c4))) (stP n w l s d none none none none (some (.z, .tup (L.map fun i : Nat => .int i))) (some (.z, .int (has n w l s)))) = some (.nx (stP n w l s d (some (.z, .int (si n l (fun i => decide (i ∈ L)) / 2))) none none none (some (.z, .tup (L.map fun i : Nat => .int i))) (some (.z, .int (has n w l s))))) := by
    rw [q_sSet, q_up, q_v1, c4, Option.bind_some, a4]; rfl
  have s4 : (sRet (up (v2 dGt (v2 dAddI (v1 dSumA fb__law_paper_c5) (vVarZ 5)) (v2 dMulI (vVarZ 10) (v1 dLen (vVarZ 9)))))) (stP n w l s d (some (.z, .int (si n l (fun i => decide (i ∈ L)) / 2))) none none none (some (.z, .tup (L.map fun i : Nat => .int i))) (some (.z, .int (has n w l s)))) = some (.rt (.bl true) (stP n w l s d (some (.z, .int (si n l (fun i => decide (i ∈ L)) / 2))) none none none (some (.z, .tup (L.map fun i : Nat => .int i))) (some (.z, .int (has n w l s))))) := by
    have A : v2 dMulI (vVarZ 10) (v1 dLen (vVarZ 9)) (stP n w l s d (some (.z, .int (si n l (fun i => decide (i ∈ L)) / 2))) none none none (some (.z, .tup (L.map fun i : Nat => .int i))) (some (.z, .int (has n w l s)))) = some (.int (has n w l s * pop n (fun i => decide (i ∈ L)))) := by
      have A1 : v1 dLen (vVarZ 9) (stP n w l s d (some (.z, .int (si n l (fun i => decide (i ∈ L)) / 2))) none none none (some (.z, .tup (L.map fun i : Nat => .int i))) (some (.z, .int (has n w l s)))) = some (.int (L.length : Int)) := by
        simp only [q_v1, Option.bind_some, q_vVarZ, List.getElem?_cons_succ, List.getElem?_cons_zero, q_len_t, List.length_map]
      have A2 : vVarZ 10 (stP n w l s d (some (.z, .int (si n l (fun i => decide (i ∈ L)) / 2))) none none none (some (.z, .tup (L.map fun i : Nat => .int i))) (some (.z, .int (has n w l s)))) = some (.int (has n w l s)) := rfl
      rw [← hc, q_v2, A1, A2, Option.bind_some, Option.bind_some, dMulI_int hm]
    have B : v2 dAddI (v1 dSumA fb__law_paper_c5) (vVarZ 5) (stP n w l s d (some (.z, .int (si n l (fun i => decide (i ∈ L)) / 2))) none none none (some (.z, .tup (L.map fun i : Nat => .int i))) (some (.z, .int (has n w l s)))) = some (.int (lotW n w l (fun i => decide (i ∈ L)))) := by
      rw [← hlw]
      simp only [q_v2, q_v1, c5, Option.bind_some, a5, q_vVarZ, List.getElem?_cons_succ, List.getElem?_cons_zero, q_II]
    rw [q_sRet, q_up, q_v2, A, B, Option.bind_some, Option.bind_some]
    simp only [q_II, Option.map_some, decide_eq_true hh]
  rw [e]
  unfold fb__law_paper
  rw [sSeq_nx s0]
  have s5 : ∀ a : Sto → Option Fl, sIf (upT (vB (v2 dEq (v2 dIx (vVarZ 3) (vC (.int 0))) (vC (.str "won"))))) a sNext (stP n w l s d none none none none none none) = some (.nx (stP n w l s d none none none none none none)) := fun a => by
    rw [sIf_t _ t1]; rfl
  rw [sSeq_nx (s5 _), sSeq_nx s1, sSeq_nx s2, sSeq_nx s3, s4]
  rfl
/-- the law is content with decide_first's paper -/
theorem paper_ev (k : Ok n w l) (hs : s < n) {d : D} (h : Dec n w l s d) : m__law_paper [rowT n w, matT n l, .int s, d] = some (.bl true) := by
  rcases h.can hs with ⟨_, W, hW, hle, rfl⟩ | ⟨_, L, hL, hLn, h1, h2, h3, rfl⟩
  · exact paper_won k hs hW hle
  · exact paper_lot k hs hL hLn h1 h2 h3
end
end K06

set_option Elab.async false
set_option linter.all false
set_option maxRecDepth 100000
noncomputable section
namespace K06
open PySem PySem.Spec PyProof.Rows L2 VL
section
variable {C C2 : Addr} {n : Nat} {w : Nat → Int} {l : Nat → Nat → Int} {s : Nat}
theorem ne_cast (i j : Nat) : ((i : Int) != (j : Int)) = !decide (i = j) := by
  by_cases h : i = j
  · subst h; simp
  · have : ¬ (i : Int) = j := by omega
    simp [h]; omega
theorem most_has (hs : s < n) : m_Season_most C [seaD C n w l, .int s] = some (.int (has n w l s)) := most_ev hs
/-! ### the bound -/
/-- who can come to as many can come first too -/
theorem can_mono (k : Ok n w l) (z : Sml n w l) {t : Nat} (hs : s < n) (ht : t < n) (h : has n w l t ≤ has n w l s) (hc : canB n w l t = true) : canB n w l s = true := by
  obtain ⟨d, hd, _⟩ := dec_ev (C := 0) (C2 := 0) k ht z
  rcases hd.can ht with ⟨_, W, hW, hle, _⟩ | ⟨h2, _⟩
  · refine (canB_iff hs).mpr (can_won (W := fun x y => if x = s then l s y else if y = s then 0 else W x y) ⟨fun x y hx hy => ?_, fun x y hx hy => ?_, fun y hy => by simp⟩ fun i hi => ?_)
    · show 0 ≤ ite _ _ _
      have := hW.pos x y hx hy
      have := (k.l0 s y hs hy).1
      split
      · omega
      · split <;> omega
    · show ite _ _ _ + ite _ _ _ = _
      have := hW.two x y hx hy
      have := k.sym x y hx hy
      by_cases h1 : x = s <;> by_cases h2 : y = s
      · subst h1; subst h2; have := k.dia _ hs; simp [this]
      · subst h1; simp [h2]
      · subst h2; simp [h1]; omega
      · simp [h1, h2]; omega
    · by_cases h1 : i = s
      · subst h1; simp [has]
      · refine Int.le_trans ?_ (Int.le_trans (hle i hi) h)
        unfold has
        refine Int.add_le_add_left (sumR_le fun j hj => ?_) _
        have := hW.pos i j hi hj
        show ite _ _ _ ≤ _
        rw [if_neg h1]
        split <;> omega
  · rw [hc] at h2; cases h2
/-- someone can -/
theorem can_some (k : Ok n w l) : ∃ s, s < n ∧ canB n w l s = true := by
  have hne : (List.range n).map (has n w l) ≠ [] := by
    have := k.n0
    simp; omega
  obtain ⟨m, _, hm, hmx⟩ := imax_spec hne
  obtain ⟨s, hs, rfl⟩ := List.mem_map.mp hm
  have hs := List.mem_range.mp hs
  refine ⟨s, hs, (canB_iff hs).mpr (can_won (won0_inv k hs) fun i hi => ?_)⟩
  refine Int.le_trans ?_ (hmx _ (List.mem_map.mpr ⟨i, List.mem_range.mpr hi, rfl⟩))
  unfold has
  have : sumR n (won0 s l i) ≤ sumR n (l i) := sumR_le fun j hj => by
    have := (k.l0 i j hi hj).1
    have e : won0 s l i j = l i j ∨ won0 s l i j = 0 := by unfold won0; split <;> simp
    omega
  omega
theorem bound_spec (k : Ok n w l) (z : Sml n w l) : ∃ b, imin ((canL n w l).map (has n w l)) = some b ∧ ∀ i, i < n → decide (b ≤ has n w l i) = canB n w l i := by
  obtain ⟨s, hs, hc⟩ := can_some k
  have hne : (canL n w l).map (has n w l) ≠ [] := by
    have : s ∈ canL n w l := List.mem_filter.mpr ⟨List.mem_range.mpr hs, hc⟩
    intro e
    rw [List.map_eq_nil_iff] at e
    rw [e] at this; cases this
  obtain ⟨b, e, hm, hle⟩ := imin_spec hne
  refine ⟨b, e, fun i hi => ?_⟩
  obtain ⟨t, ht, rfl⟩ := List.mem_map.mp hm
  obtain ⟨h1, h2⟩ := List.mem_filter.mp ht
  cases q : canB n w l i with
  | true => exact decide_eq_true (hle _ (List.mem_map.mpr ⟨i, List.mem_filter.mpr ⟨List.mem_range.mpr hi, q⟩, rfl⟩))
  | false =>
    refine decide_eq_false fun h => ?_
    rw [can_mono k z hi (List.mem_range.mp h1) h h2] at q
    cases q
theorem bound_ev (k : Ok n w l) (z : Sml n w l) {b : Int} (hb : imin ((canL n w l).map (has n w l)) = some b) : m_bound C C2 [seaD C n w l] = some (.int b) := by
  have hn := k.n12
  have c1 : fb_bound_c1 C C2 [some (.z, seaD C n w l), none] = some (.lst ((canL n w l).map fun i => .int (has n w l i))) := by
    refine vLc_map (I := fun i : Nat => .int i) (xs := canL n w l) rfl (by simp [still_ev k z]) (Nat.le_trans (List.length_filter_le _ _) (by simp; omega)) fun i m => ⟨_, rfl, ?_⟩
    have hi := List.mem_range.mp (List.mem_filter.mp m).1
    have := most_has (C := C) (w := w) (l := l) hi
    generalize has n w l i = q at this ⊢
    simp [this]
  simp [m_bound, fb_bound, c1, q_dMinF, hb]
/-! ### who surely comes first -/
def surB (n : Nat) (w : Nat → Int) (l : Nat → Nat → Int) (s : Nat) : Bool := ((List.range n).filter fun j => !decide (j = s)).all fun j => decide (has n w l j ≤ w s)
theorem dAll_map {ι : Type} (xs : List ι) (p : ι → Bool) : dAll (.lst (xs.map fun x => D.bl (p x))) = some (.bl (xs.all p)) := by
  have := dBls_map (xs.map p)
  rw [List.map_map] at this
  have e : (xs.map fun x => D.bl (p x)) = xs.map (D.bl ∘ p) := rfl
  simp only [dAll, e, this, Option.map_some, List.all_map]
  rfl
theorem surely_ev (hn : n ≤ 12) (hs : s < n) : m_surely_first C [seaD C n w l, .int s] = some (.bl (surB n w l s)) := by
  have hn3 : (n : Int) < 1000000000 ∧ -1000000000 < (n : Int) := by omega
  have c1 : fb_surely_first_c1 C [some (.z, seaD C n w l), some (.z, .int s), none] = some (.lst (((List.range n).filter fun j => !decide (j = s)).map fun j => .bl (decide (has n w l j ≤ w s)))) := by
    refine vLc_eq (I := fun i : Nat => .int i) (xs := List.range n) rfl (by simp [vRng1, hn3]) (by simp; omega) fun i m => ⟨_, rfl, by simp [dNe_int, ne_cast], fun _ => ?_⟩
    have hi := List.mem_range.mp m
    have := most_has (C := C) (w := w) (l := l) hi
    generalize has n w l i = q at this ⊢
    simp [this, hs]
  have a1 := dAll_map ((List.range n).filter fun j => !decide (j = s)) fun j => decide (has n w l j ≤ w s)
  unfold surB
  generalize (((List.range n).filter fun j => !decide (j = s)).all fun j => decide (has n w l j ≤ w s)) = q at a1 ⊢
  simp [m_surely_first, fb_surely_first, look_ev hs, c1, a1]
theorem sumA_ev {i : Nat} (hi : i < n) : (dIx (matT n l) (.int i)).bind dSumA = some (.int (sumR n (l i))) := by
  simp [hi, dSumA_int]; rfl
theorem lsurely_ev (hn : n ≤ 12) (hs : s < n) : m__law_surely [rowT n w, matT n l, .int s] = some (.bl (surB n w l s)) := by
  have hn3 : (n : Int) < 1000000000 ∧ -1000000000 < (n : Int) := by omega
  have c1 : fb__law_surely_c1 [some (.z, rowT n w), some (.z, matT n l), some (.z, .int s), none] = some (.lst (((List.range n).filter fun j => !decide (j = s) && decide (w s < has n w l j)).map fun j : Nat => .int j)) := by
    refine vLc_eq (I := fun i : Nat => .int i) (xs := List.range n) rfl (by simp [vRng1, hn3]) (by simp; omega) fun i m => ⟨[some (.z, rowT n w), some (.z, matT n l), some (.z, .int s), some (.z, .int i)], rfl, ?_, fun _ => by simp⟩
    have hi := List.mem_range.mp m
    have t1 : vB (v2 dNe (vVarZ 3) (vVarZ 2)) [some (.z, rowT n w), some (.z, matT n l), some (.z, .int s), some (.z, .int i)] = some (!decide (i = s)) := by simp [dNe_int, ne_cast]
    have t2 : vB (v2 dGt (v2 dAddI (v2 dIx (vVarZ 0) (vVarZ 3)) (v1 dSumA (v2 dIx (vVarZ 1) (vVarZ 3)))) (v2 dIx (vVarZ 0) (vVarZ 2))) [some (.z, rowT n w), some (.z, matT n l), some (.z, .int s), some (.z, .int i)] = some (decide (w s < has n w l i)) := by
      have m1 : v1 dSumA (v2 dIx (vVarZ 1) (vVarZ 3)) [some (.z, rowT n w), some (.z, matT n l), some (.z, .int s), some (.z, .int i)] = some (.int (sumR n (l i))) := sumA_ev hi
      have m2 : v2 dIx (vVarZ 0) (vVarZ 3) [some (.z, rowT n w), some (.z, matT n l), some (.z, .int s), some (.z, .int i)] = some (.int (w i)) := by simp [hi]
      have m3 : v2 dIx (vVarZ 0) (vVarZ 2) [some (.z, rowT n w), some (.z, matT n l), some (.z, .int s), some (.z, .int i)] = some (.int (w s)) := by simp [hs]
      rw [q_vB, q_v2, m3, q_v2, m1, m2]
      rfl
    rw [q_tAnd, t1, Option.bind_some]
    cases h : decide (i = s) with
    | true => simp
    | false => simp only [Bool.not_false, if_true, t2, Bool.true_and]
  have e : decide ((((List.range n).filter fun j => !decide (j = s) && decide (w s < has n w l j)).length : Int) = 0) = surB n w l s := by
    unfold surB
    rw [Bool.eq_iff_iff]
    simp only [decide_eq_true_eq, List.all_eq_true, List.mem_filter, List.mem_range, Bool.not_eq_true', decide_eq_false_iff_not]
    constructor
    · intro h j ⟨hj, hjs⟩
      have h0 : ((List.range n).filter fun j => !decide (j = s) && decide (w s < has n w l j)) = [] := List.eq_nil_of_length_eq_zero (by omega)
      have := List.filter_eq_nil_iff.mp h0 j (List.mem_range.mpr hj)
      simp [hjs] at this
      exact this
    · intro h
      have : ((List.range n).filter fun j => !decide (j = s) && decide (w s < has n w l j)) = [] := List.filter_eq_nil_iff.mpr fun j hj q => by
        simp at q
        have := h j ⟨List.mem_range.mp hj, q.1⟩
        omega
      rw [this]; rfl
  have r : fb__law_surely [some (.z, rowT n w), some (.z, matT n l), some (.z, .int s), none] = some (.rt (.bl (surB n w l s)) [some (.z, rowT n w), some (.z, matT n l), some (.z, .int s), none]) := by
    rw [← e]
    generalize (List.range n).filter (fun j => !decide (j = s) && decide (w s < has n w l j)) = q at c1 ⊢
    simp [fb__law_surely, c1]
    cases q <;> simp <;> omega
  show endP (fb__law_surely [some (.z, rowT n w), some (.z, matT n l), some (.z, .int s), none]) = _
  rw [r]; rfl
end
end K06

set_option Elab.async false
set_option linter.all false
set_option maxRecDepth 100000
noncomputable section
namespace K06
open PySem PySem.Spec PyProof.Rows L2 VL
section
variable {C C2 : Addr} {n : Nat} {w : Nat → Int} {l : Nat → Nat → Int} {s : Nat}
theorem rng1_of {f : Sto → Option D} {ρ : Sto} {k : Nat} (h : f ρ = some (.int k)) (hk : k ≤ 1000000) : vRng1 (aCons f aNil) ρ = some ((List.range k).map fun j : Nat => D.int j) := by
  have h3 : (k : Int) < 1000000000 ∧ -1000000000 < (k : Int) := by omega
  simp [vRng1, h, h3]
/-- what another side o can come to if s wins m of its matches -/
def agn (n : Nat) (w : Nat → Int) (l : Nat → Nat → Int) (s M : Nat) (o : Nat) (m : Nat) : Int := has n w l o - (if (m : Int) - ((M : Int) - l s o) > 0 then (m : Int) - ((M : Int) - l s o) else 0)
def doB (n : Nat) (w : Nat → Int) (l : Nat → Nat → Int) (s M m : Nat) : Bool := (List.range n).all fun o => decide (o = s) || decide (agn n w l s M o m ≤ w s + m)
def doR (n : Nat) (w : Nat → Int) (l : Nat → Nat → Int) (s M : Nat) : D := match (List.range (M + 1)).find? (doB n w l s M) with | some m => .int m | none => .non
theorem eq_cast (i j : Nat) : ((i : Int) == (j : Int)) = decide (i = j) := by
  by_cases h : i = j
  · subst h; simp
  · have : ¬ (i : Int) = j := by omega
    simp [h]; omega
theorem against_ev (hs : s < n) {M : Nat} (hM : sumR n (l s) = M) {o : Nat} (ho : o < n) (m : Nat) : m_most_against C [seaD C n w l, .int s, .int o, .int m] = some (.int (if o = s then w s + m else agn n w l s M o m)) := by
  have mt := matches_ev (C := C) (w := w) (l := l) hs
  rw [hM] at mt
  have ms := most_has (C := C) (w := w) (l := l) ho
  unfold agn
  generalize has n w l o = q at ms ⊢
  by_cases h : o = s
  · subst h
    simp [m_most_against, fb_most_against, ho]
  · have h2 : ¬ s = o := fun z => h z.symm
    have hh : ¬ (s : Int) = o := by omega
    simp [m_most_against, fb_most_against, ho, hs, mt, ms, h, h2, hh, dMax2]
theorem doAll (hs : s < n) (M m : Nat) : ((List.range n).all fun o => decide ((if o = s then w s + m else agn n w l s M o m) ≤ w s + m)) = doB n w l s M m := by
  unfold doB
  congr 1
  funext o
  by_cases h : o = s <;> simp [h]
theorem wins_do_ev (hn : n ≤ 12) (hs : s < n) {M : Nat} (hM : sumR n (l s) = M) (hM2 : M ≤ 100000) : m_wins_that_do C [seaD C n w l, .int s] = some (doR n w l s M) := by
  have hn3 : (n : Int) < 1000000000 ∧ -1000000000 < (n : Int) := by omega
  have mt := matches_ev (C := C) (w := w) (l := l) hs
  rw [hM] at mt
  have loop := forL_all (g := gN 2) (b := fb_wins_that_do_b1 C) (I := fun j : Nat => D.int j) (fun ρ => ∃ x, ρ = [some (.z, seaD C n w l), some (.z, .int s), x, none]) (fun m => !doB n w l s M m) (fun m => .int (m : Int)) (xs := List.range (M + 1)) (ρ := [some (.z, seaD C n w l), some (.z, .int s), none, none]) ⟨none, rfl⟩ (fun m hm ρ ⟨x, e⟩ => by
    subst e
    have c1 : fb_wins_that_do_c1 C [some (.z, seaD C n w l), some (.z, .int s), some (.z, .int m), none] = some (.lst ((List.range n).map fun o => .bl (decide ((if o = s then w s + m else agn n w l s M o m) ≤ w s + m)))) := by
      refine vLc_map (I := fun i : Nat => .int i) (xs := List.range n) rfl (by simp [vRng1, hn3]) (by simp; try omega) fun o mo => ⟨_, rfl, ?_⟩
      have ho := List.mem_range.mp mo
      have ag := against_ev (C := C) (w := w) hs hM ho m
      generalize (if o = s then w s + (m : Int) else agn n w l s M o m) = q at ag ⊢
      simp [hs, ag]
    have a1 := dAll_map (List.range n) fun o => decide ((if o = s then w s + m else agn n w l s M o m) ≤ w s + m)
    rw [doAll hs M m] at a1
    have ht : vB (v1 dAll (fb_wins_that_do_c1 C)) [some (.z, seaD C n w l), some (.z, .int s), some (.z, .int m), none] = some (doB n w l s M m) := by
      rw [q_vB, q_v1, c1, Option.bind_some, a1]
    refine ⟨[some (.z, seaD C n w l), some (.z, .int s), some (.z, .int m), none], [some (.z, seaD C n w l), some (.z, .int s), some (.z, .int m), none], rfl, ?_⟩
    have e : fb_wins_that_do_b1 C [some (.z, seaD C n w l), some (.z, .int s), some (.z, .int m), none] = if doB n w l s M m then some (.rt (.int m) [some (.z, seaD C n w l), some (.z, .int s), some (.z, .int m), none]) else some (.nx [some (.z, seaD C n w l), some (.z, .int s), some (.z, .int m), none]) := by
      unfold fb_wins_that_do_b1
      rw [sIf_t _ ht]
      cases doB n w l s M m <;> simp
    rw [e]
    cases doB n w l s M m with
    | true => simp
    | false => simp)
  have hv : v2 dAddI (vMeth 2 C "matches" (m_Season_matches C) (vVarZ 0) (aCons (vVarZ 1) aNil)) (vC (.int 1)) [some (.z, seaD C n w l), some (.z, .int s), none, none] = some (.int ((M + 1 : Nat) : Int)) := by
    simp [mt]
  have hr := rng1_of hv (by omega)
  have e0 : m_wins_that_do C [seaD C n w l, .int s] = endP (fb_wins_that_do C [some (.z, seaD C n w l), some (.z, .int s), none, none]) := rfl
  rw [e0]
  unfold fb_wins_that_do
  have s1 : (sDrop (up (vCall (n := 2) (m_look_at_side C) (aCons (vVarZ 0) (aCons (vVarZ 1) aNil))))) [some (.z, seaD C n w l), some (.z, .int s), none, none] = some (.nx [some (.z, seaD C n w l), some (.z, .int s), none, none]) := by simp [look_ev hs]
  rw [sSeq_nx s1]
  unfold doR
  obtain ⟨ρ', hl⟩ := loop
  rcases hl with ⟨⟨x, rfl⟩, e, ha⟩ | ⟨x, e, hf⟩
  · have hnone : (List.range (M + 1)).find? (doB n w l s M) = none := by
      rw [List.find?_eq_none]
      intro m hm
      have := List.all_eq_true.mp ha m hm
      simpa using this
    have s2 : (sFor (upI (vRng1 (aCons (v2 dAddI (vMeth 2 C "matches" (m_Season_matches C) (vVarZ 0) (aCons (vVarZ 1) aNil)) (vC (.int 1))) aNil))) (gN 2) (fb_wins_that_do_b1 C)) [some (.z, seaD C n w l), some (.z, .int s), none, none] = some (.nx [some (.z, seaD C n w l), some (.z, .int s), x, none]) := by
      rw [q_sFor, q_upI, hr]
      exact e
    rw [hnone, sSeq_nx s2]; rfl
  · have hsome : (List.range (M + 1)).find? (doB n w l s M) = some x := by
      simpa only [Bool.not_not] using hf
    have s2 : (sFor (upI (vRng1 (aCons (v2 dAddI (vMeth 2 C "matches" (m_Season_matches C) (vVarZ 0) (aCons (vVarZ 1) aNil)) (vC (.int 1))) aNil))) (gN 2) (fb_wins_that_do_b1 C)) [some (.z, seaD C n w l), some (.z, .int s), none, none] = some (.rt (.int x) ρ') := by
      rw [q_sFor, q_upI, hr]
      exact e
    rw [hsome, sSeq_rt s2]; rfl
/-! ### the law's own count -/
abbrev stW (n : Nat) (w : Nat → Int) (l : Nat → Nat → Int) (s m : Nat) (x4 x5 x6 : Slot) : Sto := [some (.z, rowT n w), some (.z, matT n l), some (.z, .int s), some (.z, .int m), x4, x5, x6]
theorem ldo_b1 (k : Ok n w l) (hs : s < n) {M : Nat} (hM : sumR n (l s) = M) {o : Nat} (ho : o < n) (m : Nat) (b : Bool) (x6 : Slot) : ∃ y6, fb__law_do_b1 (stW n w l s m (some (.z, .bl b)) (some (.z, .int o)) x6) = some (.nx (stW n w l s m (some (.z, .bl (b && (decide (o = s) || decide (agn n w l s M o m ≤ w s + m))))) (some (.z, .int o)) y6)) := by
  have t1 : vB (v2 dNe (vVarZ 5) (vVarZ 2)) (stW n w l s m (some (.z, .bl b)) (some (.z, .int o)) x6) = some (!decide (o = s)) := by simp [dNe_int, ne_cast]
  unfold fb__law_do_b1
  rw [sIf_t _ t1]
  by_cases h : o = s
  · subst h
    exact ⟨x6, by simp⟩
  · have m1 : ∀ x6, v1 dSumA (v2 dIx (vVarZ 1) (vVarZ 2)) (stW n w l s m (some (.z, .bl b)) (some (.z, .int o)) x6) = some (.int M) := fun x6 => by
      rw [← hM]; exact sumA_ev hs
    obtain ⟨g, hg⟩ : ∃ g : Int, (if (M : Int) - m < l s o then (M : Int) - m else l s o) = g := ⟨_, rfl⟩
    have s1 : (sSet 6 .z (up (vB2 dMin2 (aCons (v2 dIx (v2 dIx (vVarZ 1) (vVarZ 2)) (vVarZ 5)) (aCons (v2 dSub (v1 dSumA (v2 dIx (vVarZ 1) (vVarZ 2))) (vVarZ 3)) aNil))))) (stW n w l s m (some (.z, .bl b)) (some (.z, .int o)) x6) = some (.nx (stW n w l s m (some (.z, .bl b)) (some (.z, .int o)) (some (.z, .int g)))) := by
      have m2 : v2 dSub (v1 dSumA (v2 dIx (vVarZ 1) (vVarZ 2))) (vVarZ 3) (stW n w l s m (some (.z, .bl b)) (some (.z, .int o)) x6) = some (.int ((M : Int) - m)) := by
        rw [q_v2, m1]; rfl
      have m3 : v2 dIx (v2 dIx (vVarZ 1) (vVarZ 2)) (vVarZ 5) (stW n w l s m (some (.z, .bl b)) (some (.z, .int o)) x6) = some (.int (l s o)) := by simp [hs, ho]
      have m4 : aCons (v2 dIx (v2 dIx (vVarZ 1) (vVarZ 2)) (vVarZ 5)) (aCons (v2 dSub (v1 dSumA (v2 dIx (vVarZ 1) (vVarZ 2))) (vVarZ 3)) aNil) (stW n w l s m (some (.z, .bl b)) (some (.z, .int o)) x6) = some [.int (l s o), .int ((M : Int) - m)] := by
        rw [q_aCons, q_aCons, m2, m3]; rfl
      rw [q_sSet, q_up]
      unfold vB2
      rw [m4, ← hg]
      rfl
    have t2 : vB (v2 dGt (v2 dAddI (v2 dSub (v2 dAddI (v2 dIx (vVarZ 0) (vVarZ 5)) (v1 dSumA (v2 dIx (vVarZ 1) (vVarZ 5)))) (v2 dIx (v2 dIx (vVarZ 1) (vVarZ 5)) (vVarZ 2))) (vVarZ 6)) (v2 dAddI (v2 dIx (vVarZ 0) (vVarZ 2)) (vVarZ 3))) (stW n w l s m (some (.z, .bl b)) (some (.z, .int o)) (some (.z, .int g))) = some (decide (w s + m < w o + sumR n (l o) - l o s + g)) := by
      have i1 : v2 dIx (vVarZ 0) (vVarZ 5) (stW n w l s m (some (.z, .bl b)) (some (.z, .int o)) (some (.z, .int g))) = some (.int (w o)) := by simp [ho]
      have i2 : v1 dSumA (v2 dIx (vVarZ 1) (vVarZ 5)) (stW n w l s m (some (.z, .bl b)) (some (.z, .int o)) (some (.z, .int g))) = some (.int (sumR n (l o))) := sumA_ev ho
      have i3 : v2 dIx (v2 dIx (vVarZ 1) (vVarZ 5)) (vVarZ 2) (stW n w l s m (some (.z, .bl b)) (some (.z, .int o)) (some (.z, .int g))) = some (.int (l o s)) := by simp [ho, hs]
      have i4 : v2 dIx (vVarZ 0) (vVarZ 2) (stW n w l s m (some (.z, .bl b)) (some (.z, .int o)) (some (.z, .int g))) = some (.int (w s)) := by simp [hs]
      rw [q_vB, q_v2, q_v2 (fb := vVarZ 6), q_v2 (g := dSub), q_v2 (fb := v1 dSumA (v2 dIx (vVarZ 1) (vVarZ 5))), i1, i2, i3, q_v2 (fb := vVarZ 3), i4]
      rfl
    have hc : decide (w s + m < w o + sumR n (l o) - l o s + g) = !decide (agn n w l s M o m ≤ w s + m) := by
      have hsy := k.sym o s ho hs
      have : w o + sumR n (l o) - l o s + g = agn n w l s M o m := by
        rw [← hg, hsy]
        unfold agn has
        split <;> split <;> omega
      rw [this, ← decide_not]
      exact decide_eq_decide.mpr Int.not_le.symm
    refine ⟨some (.z, .int g), ?_⟩
    have h' : decide (o = s) = false := decide_eq_false h
    rw [h', Bool.not_false, if_pos rfl, sSeq_nx s1, sIf_t _ t2, hc, Bool.false_or]
    cases decide (agn n w l s M o m ≤ w s + m) <;> simp
theorem ldo_ev (k : Ok n w l) (hs : s < n) {M : Nat} (hM : sumR n (l s) = M) (hM2 : M ≤ 100000) : m__law_do [rowT n w, matT n l, .int s] = some (doR n w l s M) := by
  have hn := k.n12
  have inner : ∀ (m : Nat) (x5 x6 : Slot), ∃ y5 y6, forL (gN 5) fb__law_do_b1 ((List.range n).map fun j : Nat => D.int j) (stW n w l s m (some (.z, .bl true)) x5 x6) = some (.nx (stW n w l s m (some (.z, .bl (doB n w l s M m))) y5 y6)) := fun m x5 x6 => by
    obtain ⟨ρ', e, y5, y6, rfl⟩ := forL_inv (g := gN 5) (b := fb__law_do_b1) (I := fun j : Nat => D.int j) (List.range n) (fun q ρ => ∃ y5 y6, ρ = stW n w l s m (some (.z, .bl ((List.range q).all fun o => decide (o = s) || decide (agn n w l s M o m ≤ w s + m)))) y5 y6) (ρ := stW n w l s m (some (.z, .bl true)) x5 x6) (fun i j ρ hk ⟨y5, y6, e⟩ => by
      subst e
      obtain ⟨k1, k2⟩ := List.getElem?_eq_some_iff.mp hk
      simp at k1 k2
      subst k2
      obtain ⟨z6, hz⟩ := ldo_b1 k hs hM k1 m ((List.range i).all fun o => decide (o = s) || decide (agn n w l s M o m ≤ w s + m)) y6
      refine ⟨_, _, rfl, .inl hz, some (.z, .int i), z6, ?_⟩
      rw [List.range_succ, List.all_append]
      simp) ⟨x5, x6, rfl⟩
    rw [List.length_range] at e
    exact ⟨y5, y6, e⟩
  have loop := forL_all (g := gN 3) (b := fb__law_do_b2) (I := fun j : Nat => D.int j) (fun ρ => ∃ x3 x4 x5 x6, ρ = [some (.z, rowT n w), some (.z, matT n l), some (.z, .int s), x3, x4, x5, x6]) (fun m => !doB n w l s M m) (fun m => .int (m : Int)) (xs := List.range (M + 1)) (ρ := [some (.z, rowT n w), some (.z, matT n l), some (.z, .int s), none, none, none, none]) ⟨none, none, none, none, rfl⟩ (fun m hm ρ ⟨x3, x4, x5, x6, e⟩ => by
    subst e
    obtain ⟨y5, y6, hi⟩ := inner m x5 x6
    have s1 : (sSet 4 .z (up (vC (.bl true)))) (stW n w l s m x4 x5 x6) = some (.nx (stW n w l s m (some (.z, .bl true)) x5 x6)) := rfl
    have hv : v1 dLen (vVarZ 0) (stW n w l s m (some (.z, .bl true)) x5 x6) = some (.int n) := by simp
    have s2 : (sFor (upI (vRng1 (aCons (v1 dLen (vVarZ 0)) aNil))) (gN 5) fb__law_do_b1) (stW n w l s m (some (.z, .bl true)) x5 x6) = some (.nx (stW n w l s m (some (.z, .bl (doB n w l s M m))) y5 y6)) := by
      rw [q_sFor, q_upI, rng1_of hv (by omega)]
      exact hi
    have ht : vB (vVarZ 4) (stW n w l s m (some (.z, .bl (doB n w l s M m))) y5 y6) = some (doB n w l s M m) := rfl
    refine ⟨stW n w l s m x4 x5 x6, stW n w l s m (some (.z, .bl (doB n w l s M m))) y5 y6, rfl, ?_⟩
    have e : fb__law_do_b2 (stW n w l s m x4 x5 x6) = if doB n w l s M m then some (.rt (.int m) (stW n w l s m (some (.z, .bl (doB n w l s M m))) y5 y6)) else some (.nx (stW n w l s m (some (.z, .bl (doB n w l s M m))) y5 y6)) := by
      unfold fb__law_do_b2
      rw [sSeq_nx s1, sSeq_nx s2, sIf_t _ ht]
      cases doB n w l s M m <;> rfl
    rw [e]
    cases doB n w l s M m with
    | true => simp
    | false => simp)
  have hv : v2 dAddI (v1 dSumA (v2 dIx (vVarZ 1) (vVarZ 2))) (vC (.int 1)) [some (.z, rowT n w), some (.z, matT n l), some (.z, .int s), none, none, none, none] = some (.int ((M + 1 : Nat) : Int)) := by
    have m1 : v1 dSumA (v2 dIx (vVarZ 1) (vVarZ 2)) [some (.z, rowT n w), some (.z, matT n l), some (.z, .int s), none, none, none, none] = some (.int M) := by
      rw [← hM]; exact sumA_ev hs
    rw [q_v2, m1]; rfl
  have hr := rng1_of hv (by omega)
  have e0 : m__law_do [rowT n w, matT n l, .int s] = endP (fb__law_do [some (.z, rowT n w), some (.z, matT n l), some (.z, .int s), none, none, none, none]) := rfl
  rw [e0]
  unfold fb__law_do doR
  obtain ⟨ρ', hl⟩ := loop
  rcases hl with ⟨_, e, ha⟩ | ⟨x, e, hf⟩
  · have hnone : (List.range (M + 1)).find? (doB n w l s M) = none := by
      rw [List.find?_eq_none]
      intro m hm
      have := List.all_eq_true.mp ha m hm
      simpa using this
    have s2 : (sFor (upI (vRng1 (aCons (v2 dAddI (v1 dSumA (v2 dIx (vVarZ 1) (vVarZ 2))) (vC (.int 1))) aNil))) (gN 3) fb__law_do_b2) [some (.z, rowT n w), some (.z, matT n l), some (.z, .int s), none, none, none, none] = some (.nx ρ') := by
      rw [q_sFor, q_upI, hr]
      exact e
    rw [hnone, sSeq_nx s2]; rfl
  · have hsome : (List.range (M + 1)).find? (doB n w l s M) = some x := by
      simpa only [Bool.not_not] using hf
    have s2 : (sFor (upI (vRng1 (aCons (v2 dAddI (v1 dSumA (v2 dIx (vVarZ 1) (vVarZ 2))) (vC (.int 1))) aNil))) (gN 3) fb__law_do_b2) [some (.z, rowT n w), some (.z, matT n l), some (.z, .int s), none, none, none, none] = some (.rt (.int x) ρ') := by
      rw [q_sFor, q_upI, hr]
      exact e
    rw [hsome, sSeq_rt s2]; rfl
end
end K06

set_option Elab.async false
set_option linter.all false
set_option maxRecDepth 100000
noncomputable section
namespace K06
open PySem PySem.Spec PyProof.Rows L2 VL
section
variable {C C2 : Addr} {n : Nat} {w : Nat → Int} {l : Nat → Nat → Int} {s : Nat}
theorem rng1 {ρ : Sto} (hn : n ≤ 12) {f : Sto → Option D} (h : f ρ = some (.int n)) : vRng1 (aCons f aNil) ρ = some ((List.range n).map fun j : Nat => D.int j) := by
  have h3 : (n : Int) < 1000000000 ∧ -1000000000 < (n : Int) := by omega
  simp [vRng1, h, h3]
structure Sy (n : Nat) (M : Nat → Nat → Int) : Prop where
  b : ∀ i j, i < n → j < n → 0 ≤ M i j ∧ M i j ≤ 3
  sym : ∀ i j, i < n → j < n → M i j = M j i
  dia : ∀ i, i < n → M i i = 0
theorem Sy.put {M : Nat → Nat → Int} (h : Sy n M) {p q : Nat} (hpq : p < q) {v : Int} (h0 : 0 ≤ v) (h3 : v ≤ 3) : Sy n (setM (setM M p q v) q p v) := by
  refine ⟨fun i j hi hj => ?_, fun i j hi hj => ?_, fun i hi => ?_⟩
  · have := h.b i j hi hj
    unfold setM; split
    · omega
    · split <;> omega
  · have := h.sym i j hi hj
    unfold setM
    by_cases h1 : i = q ∧ j = p
    · obtain ⟨rfl, rfl⟩ := h1
      rw [if_pos ⟨rfl, rfl⟩, if_neg (by omega), if_pos ⟨rfl, rfl⟩]
    · by_cases h2 : i = p ∧ j = q
      · obtain ⟨rfl, rfl⟩ := h2
        rw [if_neg h1, if_pos ⟨rfl, rfl⟩, if_pos ⟨rfl, rfl⟩]
      · rw [if_neg h1, if_neg h2, if_neg (by omega), if_neg (by omega), this]
  · have := h.dia i hi
    unfold setM
    rw [if_neg (by omega), if_neg (by omega), this]
theorem putM {M : Nat → Nat → Int} {i j : Nat} (hi : i < n) (v : Int) : putS (matL n M) [i] (.lst (((List.range n).map fun j => D.int (M i j)).set j (.int v))) = matL n (setM M i j v) := by
  have e1 : ((List.range n).map fun j => D.int (M i j)).set j (.int v) = (List.range n).map fun b => D.int (setM M i j v i b) := by
    rw [vec_set]
    refine List.map_congr_left fun b _ => ?_
    unfold setM
    by_cases h : b = j <;> simp [h]
  have e2 : ((List.range n).map fun a => rowL n (M a)).set i (.lst ((List.range n).map fun b => D.int (setM M i j v i b))) = (List.range n).map fun a => rowL n (setM M i j v a) := by
    rw [vec_set]
    refine List.map_congr_left fun a _ => ?_
    by_cases h : a = i
    · subst h; simp
    · rw [if_neg h]
      unfold rowL
      congr 1
      refine List.map_congr_left fun b _ => ?_
      unfold setM
      rw [if_neg (fun z => h z.1)]
  rw [e1]
  have : ((List.range n).map fun a => rowL n (M a))[i]? = some (rowL n (M i)) := by simp [hi]
  unfold matL
  unfold putS
  simp only [this]
  rw [show putS (rowL n (M i)) [] (.lst ((List.range n).map fun b => D.int (setM M i j v i b))) = .lst ((List.range n).map fun b => D.int (setM M i j v i b)) from q_put0 _ _, e2]
abbrev stE (n : Nat) (d : D) (few wide : Nat) (w : Nat → Int) (M : Nat → Nat → Int) (x2 x7 : Slot) : Sto := [some (.seq .z, d), some (.z, .int n), x2, some (.z, .int few), some (.z, .int wide), some (.z, rowL n w), some (.seq (.seq .z), matL n M), x7, none, none]
theorem sea_set {d : D} {few wide : Nat} {M : Nat → Nat → Int} {i j : Nat} (hi : i < n) (hj : j < n) (v : Int) {x2 x7 : Slot} {fi fj : Sto → Option D} (h1 : fi (stE n d few wide w M x2 x7) = some (.int i)) (h2 : fj (stE n d few wide w M x2 x7) = some (.int j)) :
    gSet 6 .z (lIx 6 (lVar 6) fi) fj (.int v) (stE n d few wide w M x2 x7) = some (stE n d few wide w (setM M i j v) x2 x7) := by
  have nv : navS (.seq (.seq .z)) (matL n M) [i] = some (.seq .z, rowL n (M i)) := by simp [navS, hi]
  simp [h1, h2, hi, hj, ixN_nat, putM, nv]
theorem sea_b1 {d : D} (hd : WfD d) (hn : n ≤ 12) {few : Nat} (hf : 0 < few) (hf2 : few < 1000) {wide : Nat} {M : Nat → Nat → Int} (hM : Sy n M) {p q : Nat} (hpq : p < q) (hq : q < n) : ∃ d' M', WfD d' ∧ Sy n M' ∧
    fb__law_season_b1 (stE n d few wide w M (some (.z, .int p)) (some (.z, .int q))) = some (.nx (stE n d' few wide w M' (some (.z, .int p)) (some (.z, .int q)))) := by
  have hp : p < n := by omega
  obtain ⟨u1, d1, e1, _, w1⟩ := draw_ev hd few hf (by omega)
  obtain ⟨u2, d2, e2, hv2, w2⟩ := draw_ev w1 4 (by decide) (by decide)
  have e2' : m__law_draw [d1, .int 4] = some (.int u2, d2) := e2
  obtain ⟨v, d', hv0, hv3, hd', ee⟩ : ∃ (v : Int) (d' : D), 0 ≤ v ∧ v ≤ 3 ∧ WfD d' ∧ (eIf (eB (VL.e2 dEq (eCallIO 2 0 0 (.seq .z) m__law_draw (aCons (vVar 0) (aCons (vVarZ 3) aNil))) (up (vC (.int 0))))) (eCallIO 2 0 0 (.seq .z) m__law_draw (aCons (vVar 0) (aCons (vC (.int 4)) aNil))) (up (vC (.int 0)))) (stE n d few wide w M (some (.z, .int p)) (some (.z, .int q))) = some (.int v, stE n d' few wide w M (some (.z, .int p)) (some (.z, .int q))) := by
    by_cases h : u1 = 0
    · subst h
      refine ⟨u2, d2, by omega, by omega, w2, ?_⟩
      have e1' : m__law_draw [d, .int few] = some (.int 0, d1) := e1
      simp [e1', e2']
    · refine ⟨0, d1, by omega, by omega, w1, ?_⟩
      simp [e1, h]
  refine ⟨d', setM (setM M p q v) q p v, hd', hM.put hpq hv0 hv3, ?_⟩
  have s1 : (sAsg (eIf (eB (VL.e2 dEq (eCallIO 2 0 0 (.seq .z) m__law_draw (aCons (vVar 0) (aCons (vVarZ 3) aNil))) (up (vC (.int 0))))) (eCallIO 2 0 0 (.seq .z) m__law_draw (aCons (vVar 0) (aCons (vC (.int 4)) aNil))) (up (vC (.int 0)))) (gSet 6 .z (lIx 6 (lVar 6) (vVarZ 2)) (vVarZ 7))) (stE n d few wide w M (some (.z, .int p)) (some (.z, .int q))) = some (.nx (stE n d' few wide w (setM M p q v) (some (.z, .int p)) (some (.z, .int q)))) := by
    rw [q_sAsg, ee, Option.bind_some, sea_set hp hq v rfl rfl]; rfl
  have b2 : vBor .z (v2 dIx (v2 dIx (vVarZ 6) (vVarZ 2)) (vVarZ 7)) (stE n d' few wide w (setM M p q v) (some (.z, .int p)) (some (.z, .int q))) = some (.int v) := by
    have : setM M p q v p q = v := by unfold setM; simp
    rw [q_vBor]
    have e : v2 dIx (v2 dIx (vVarZ 6) (vVarZ 2)) (vVarZ 7) (frzAll (stE n d' few wide w (setM M p q v) (some (.z, .int p)) (some (.z, .int q)))) = some (.int (setM M p q v p q)) := by
      simp [frzAll, hp, hq]
    rw [e, this]; rfl
  have s2 : (sAsg (up (vBor .z (v2 dIx (v2 dIx (vVarZ 6) (vVarZ 2)) (vVarZ 7)))) (gSet 6 .z (lIx 6 (lVar 6) (vVarZ 7)) (vVarZ 2))) (stE n d' few wide w (setM M p q v) (some (.z, .int p)) (some (.z, .int q))) = some (.nx (stE n d' few wide w (setM (setM M p q v) q p v) (some (.z, .int p)) (some (.z, .int q)))) := by
    rw [q_sAsg, q_up, b2, Option.map_some, Option.bind_some, sea_set hq hp v rfl rfl]; rfl
  unfold fb__law_season_b1
  rw [sSeq_nx s1, s2]
theorem sea_b2 {d : D} (hd : WfD d) (hn : n ≤ 12) {few : Nat} (hf : 0 < few) (hf2 : few < 1000) {wide : Nat} {M : Nat → Nat → Int} (hM : Sy n M) {p : Nat} (hp : p < n) (x7 : Slot) : ∃ d' M' y7, WfD d' ∧ Sy n M' ∧
    fb__law_season_b2 (stE n d few wide w M (some (.z, .int p)) x7) = some (.nx (stE n d' few wide w M' (some (.z, .int p)) y7)) := by
  have loop := forL_inv (g := gN 7) (b := fb__law_season_b1) (I := fun j : Nat => D.int j) (List.range' (p + 1) (n - (p + 1))) (fun k ρ => ∃ d' M' y7, WfD d' ∧ Sy n M' ∧ ρ = stE n d' few wide w M' (some (.z, .int p)) y7)
    (ρ := stE n d few wide w M (some (.z, .int p)) x7) (fun k j ρ hk ⟨d1, M1, y7, h1, h2, e⟩ => by
    subst e
    obtain ⟨k1, k2⟩ := List.getElem?_eq_some_iff.mp hk
    simp at k1 k2
    obtain ⟨d2, M2, g1, g2, g3⟩ := sea_b1 (w := w) (wide := wide) h1 hn hf hf2 h2 (p := p) (q := j) (by omega) (by omega)
    exact ⟨_, _, rfl, .inl g3, d2, M2, some (.z, .int j), g1, g2, rfl⟩) ⟨d, M, x7, hd, hM, rfl⟩
  obtain ⟨ρ', e, d', M', y7, h1, h2, rfl⟩ := loop
  refine ⟨d', M', y7, h1, h2, ?_⟩
  have e1 : (p : Int) + 1 = ((p + 1 : Nat) : Int) := by omega
  have e2 : ((n : Int) < 1000000000 ∧ -1000000000 < (n : Int)) ∧ ((p + 1 : Nat) : Int) < 1000000000 ∧ -1000000000 < ((p + 1 : Nat) : Int) := by omega
  simp only [fb__law_season_b2, q_sFor, q_upI, vRng2, q_aCons, q_v2, q_vVarZ, q_vC, q_aNil, List.getElem?_cons_succ, List.getElem?_cons_zero, Option.bind_some, q_II, Option.map_some, e1, e2, and_self, if_true, dRange_nat]
  exact e
theorem sea_c1 {d : D} (hd : WfD d) (hn : n ≤ 12) {few wide : Nat} (hw : 0 < wide) (hw2 : wide ≤ 30) : ∃ d' w, WfD d' ∧ (∀ i, i < n → 0 ≤ w i ∧ w i ≤ 29) ∧
    fb__law_season_c1 [some (.seq .z, d), some (.z, .int n), none, some (.z, .int few), some (.z, .int wide), none, none, none, none, none] = some (rowL n w, [some (.seq .z, d'), some (.z, .int n), none, some (.z, .int few), some (.z, .int wide), none, none, none, none, none]) := by
  obtain ⟨ys, ρ', e, d', vs, h1, h2, h3, h4, h5⟩ := lcE_eq (vs := [8]) (g := gN 8) (ft := upT fun _ => some true) (fe := eCallIO 2 0 0 (.seq .z) m__law_draw (aCons (vVar 0) (aCons (vVarZ 4) aNil))) (I := fun j : Nat => D.int j)
    (fun k acc ρ => ∃ (d' : D) (vs : List Nat), WfD d' ∧ vs.length = k ∧ (∀ v ∈ vs, v < wide) ∧ acc = (vs.map fun v : Nat => D.int v) ∧ ρ = [some (.seq .z, d'), some (.z, .int n), none, some (.z, .int few), some (.z, .int wide), none, none, none, none, none])
    (xs := List.range n) (k := 0) (acc := []) (ρ := [some (.seq .z, d), some (.z, .int n), none, some (.z, .int few), some (.z, .int wide), none, none, none, none, none]) ⟨d, [], hd, rfl, nofun, rfl, rfl⟩ (fun j x acc ρ hj ⟨d1, vs, h1, h2, h3, h4, h5⟩ => by
      subst h5
      obtain ⟨v, d2, e, hv, hd2⟩ := draw_ev h1 wide hw (by omega)
      refine ⟨[some (.seq .z, d1), some (.z, .int n), none, some (.z, .int few), some (.z, .int wide), none, none, none, some (.z, .int x), none], true, _, rfl, rfl, fun _ => ⟨.int v, [some (.seq .z, d2), some (.z, .int n), none, some (.z, .int few), some (.z, .int wide), none, none, none, some (.z, .int x), none], ?_, d2, vs ++ [v], hd2, by simp [h2]; try omega, fun u m => ?_, by simp [h4], rfl⟩, nofun⟩
      · simp [e]
      · rcases List.mem_append.mp m with m | m
        · exact h3 u m
        · rw [List.mem_singleton.mp m]; exact hv)
  rw [List.length_range, Nat.zero_add] at h2
  rw [List.nil_append] at h4
  subst h5
  have hn3 : (n : Int) < 1000000000 ∧ -1000000000 < (n : Int) := by omega
  refine ⟨d', fun i => ((vs[i]?.getD 0 : Nat) : Int), h1, fun i hi => ?_, ?_⟩
  · have : vs[i]? = some vs[i] := List.getElem?_eq_getElem (by omega)
    have q := h3 vs[i] (List.getElem_mem _)
    simp only [this, Option.getD_some]
    omega
  · have hr := rng1 (f := vVarZ 1) (n := n) (ρ := [some (.seq .z, d), some (.z, .int n), none, some (.z, .int few), some (.z, .int wide), none, none, none, none, none]) hn rfl
    have hys : ys = (List.range n).map fun i => D.int (((vs[i]?.getD 0 : Nat)) : Int) := by
      rw [h4]
      refine List.ext_getElem (by simp [h2]) fun i a b => ?_
      simp at a
      simp [a]
    unfold fb__law_season_c1 eLc
    rw [if_pos (show VL.PlainAt _ _ = true from rfl), hr, Option.bind_some, if_pos (by simp; omega), e, hys]
    rfl
theorem season_law_ev {d : D} (hd : WfD d) : ∃ n w l d', WfD d' ∧ Ok n w l ∧ (∀ i, i < n → w i ≤ 29) ∧ (∀ i j, i < n → j < n → l i j ≤ 3) ∧ m__law_season [d] = some (.tup [rowT n w, matT n l], d') := by
  obtain ⟨ni, d1, g1, mn, w1⟩ := pick_ev hd [1, 2, 5, 8, 11, 12] (by decide) (by decide)
  obtain ⟨n, hn0, hn, rfl⟩ : ∃ n : Nat, 0 < n ∧ n ≤ 12 ∧ ni = (n : Int) := by
    simp at mn
    rcases mn with rfl | rfl | rfl | rfl | rfl | rfl
    · exact ⟨1, by decide, by decide, rfl⟩
    · exact ⟨2, by decide, by decide, rfl⟩
    · exact ⟨5, by decide, by decide, rfl⟩
    · exact ⟨8, by decide, by decide, rfl⟩
    · exact ⟨11, by decide, by decide, rfl⟩
    · exact ⟨12, by decide, by decide, rfl⟩
  obtain ⟨fi, d2, g2, mf, w2⟩ := pick_ev w1 [2, 4, 9] (by decide) (by decide)
  obtain ⟨few, rfl, hf, hf2⟩ : ∃ o : Nat, fi = (o : Int) ∧ 0 < o ∧ o < 1000 := by
    simp at mf
    rcases mf with rfl | rfl | rfl
    · exact ⟨2, rfl, by decide, by decide⟩
    · exact ⟨4, rfl, by decide, by decide⟩
    · exact ⟨9, rfl, by decide, by decide⟩
  obtain ⟨wi, d3, g3, mw, w3⟩ := pick_ev w2 [3, 9, 30] (by decide) (by decide)
  obtain ⟨wide, rfl, hw, hw2⟩ : ∃ o : Nat, wi = (o : Int) ∧ 0 < o ∧ o ≤ 30 := by
    simp at mw
    rcases mw with rfl | rfl | rfl
    · exact ⟨3, rfl, by decide, by decide⟩
    · exact ⟨9, rfl, by decide, by decide⟩
    · exact ⟨30, rfl, by decide, by decide⟩
  obtain ⟨d4, w, w4, hwb, e4⟩ := sea_c1 (n := n) (few := few) w3 hn hw hw2
  have loop := forL_inv (g := gN 2) (b := fb__law_season_b2) (I := fun j : Nat => D.int j) (List.range n) (fun k ρ => ∃ d' M' y2 y7, WfD d' ∧ Sy n M' ∧ ρ = stE n d' few wide w M' y2 y7)
    (ρ := stE n d4 few wide w (fun _ _ => 0) none none) (fun k j ρ hk ⟨d1, M1, y2, y7, h1, h2, e⟩ => by
    subst e
    obtain ⟨k1, k2⟩ := List.getElem?_eq_some_iff.mp hk
    simp at k1 k2
    subst k2
    obtain ⟨d2, M2, z7, g1, g2, g3⟩ := sea_b2 (w := w) (wide := wide) h1 hn hf hf2 h2 k1 y7
    exact ⟨_, _, rfl, .inl g3, d2, M2, some (.z, .int k), z7, g1, g2, rfl⟩) ⟨d4, fun _ _ => 0, none, none, w4, ⟨fun _ _ _ _ => by omega, fun _ _ _ _ => rfl, fun _ _ => rfl⟩, rfl⟩
  obtain ⟨ρ', e, d', M, y2, y7, h1, h2, rfl⟩ := loop
  refine ⟨n, w, M, d', h1, ⟨hn0, hn, fun i hi => ?_, fun i j hi hj => ?_, h2.sym, h2.dia⟩, fun i hi => (hwb i hi).2, fun i j hi hj => (h2.b i j hi hj).2, ?_⟩
  · have := hwb i hi; omega
  · have := h2.b i j hi hj; omega
  have g1' : m__law_pick [d, .lst [.int 1, .int 2, .int 5, .int 8, .int 11, .int 12]] = some (.int n, d1) := g1
  have g2' : m__law_pick [d1, .lst [.int 2, .int 4, .int 9]] = some (.int few, d2) := g2
  have g3' : m__law_pick [d2, .lst [.int 3, .int 9, .int 30]] = some (.int wide, d3) := g3
  have s1 : (sSet 1 .z (eCallIO 2 0 0 (.seq .z) m__law_pick (aCons (vVar 0) (aCons (vLst (aCons (vC (.int 1)) (aCons (vC (.int 2)) (aCons (vC (.int 5)) (aCons (vC (.int 8)) (aCons (vC (.int 11)) (aCons (vC (.int 12)) aNil))))))) aNil)))) [some (.seq .z, d), none, none, none, none, none, none, none, none, none] = some (.nx [some (.seq .z, d1), some (.z, .int n), none, none, none, none, none, none, none, none]) := by
    simp [g1']
  have s2 : (sAsg (eTup (bCons (eCallIO 2 0 0 (.seq .z) m__law_pick (aCons (vVar 0) (aCons (vLst (aCons (vC (.int 2)) (aCons (vC (.int 4)) (aCons (vC (.int 9)) aNil)))) aNil))) (bCons (eCallIO 2 0 0 (.seq .z) m__law_pick (aCons (vVar 0) (aCons (vLst (aCons (vC (.int 3)) (aCons (vC (.int 9)) (aCons (vC (.int 30)) aNil)))) aNil))) bNil))) (gTupF 2 (gsCons (gN 3) (gsCons (gN 4) gsNil)))) [some (.seq .z, d1), some (.z, .int n), none, none, none, none, none, none, none, none] = some (.nx [some (.seq .z, d3), some (.z, .int n), none, some (.z, .int few), some (.z, .int wide), none, none, none, none, none]) := by
    simp [g2', g3']
  have c2 : fb__law_season_c2 [some (.seq .z, d4), some (.z, .int n), none, some (.z, .int few), some (.z, .int wide), none, none, none, none, none] = some (matL n fun _ _ => 0) := by
    refine vLc_map (I := fun i : Nat => .int i) (xs := List.range n) rfl (rng1 hn rfl) (by simp; omega) fun i m => ⟨_, rfl, ?_⟩
    simp [dRep_one _ n (by omega : n ≤ 100000)]
  have s3 : (sPar2 5 6 .z (.seq (.seq .z)) fb__law_season_c1 (up fb__law_season_c2)) [some (.seq .z, d3), some (.z, .int n), none, some (.z, .int few), some (.z, .int wide), none, none, none, none, none] = some (.nx (stE n d4 few wide w (fun _ _ => 0) none none)) := by
    rw [q_sPar2, e4, Option.bind_some, q_up, c2]; rfl
  have s4 : (sFor (upI (vRng1 (aCons (vVarZ 1) aNil))) (gN 2) fb__law_season_b2) (stE n d4 few wide w (fun _ _ => 0) none none) = some (.nx (stE n d' few wide w M y2 y7)) := by
    rw [q_sFor, q_upI, rng1 (n := n) hn rfl]
    exact e
  have c3 : fb__law_season_c3 [some (.seq .z, d'), some (.z, .int n), y2, some (.z, .int few), some (.z, .int wide), some (.z, rowL n w), some (.z, matL n M), y7, none, none] = some (.lst ((List.range n).map fun i => rowT n (M i))) := by
    refine vLc_map (I := fun i => rowL n (M i)) (xs := List.range n) rfl (by simp) (by simp; omega) fun i m => ⟨_, rfl, ?_⟩
    simp
  have s5 : (sFrz 6 (sRet (up (vTup (aCons (v1 dTuple (vVarZ 5)) (aCons (v1 dTuple fb__law_season_c3) aNil)))))) (stE n d' few wide w M y2 y7) = some (.rt (.tup [rowT n w, matT n M]) [some (.seq .z, d'), some (.z, .int n), y2, some (.z, .int few), some (.z, .int wide), some (.z, rowL n w), some (.z, matL n M), y7, none, none]) := by
    simp [c3]
  have e0 : m__law_season [d] = endIO 0 (.seq .z) (fb__law_season [some (.seq .z, d), none, none, none, none, none, none, none, none, none]) := rfl
  rw [e0]
  unfold fb__law_season
  rw [sSeq_nx s1, sSeq_nx s2, sSeq_nx s3, sSeq_nx s4, s5]
  simp
end
end K06

set_option Elab.async false
set_option linter.all false
set_option maxRecDepth 100000
noncomputable section
namespace K06
open PySem PySem.Spec PyProof.Rows L2 VL
section
variable {C C2 : Addr} {n : Nat} {w : Nat → Int} {l : Nat → Nat → Int} {a b : Nat}
def cut (a b i j : Nat) : Bool := (!decide (i = j)) && ((decide (i = a) || decide (i = b)) && (decide (j = a) || decide (j = b)))
def w2 (w : Nat → Int) (a i : Nat) : Int := w i + if i = a then 1 else 0
def l2 (l : Nat → Nat → Int) (a b i j : Nat) : Int := l i j - if cut a b i j then 1 else 0
theorem cut_iff {i j : Nat} (h : a ≠ b) : cut a b i j = true ↔ (i = a ∧ j = b) ∨ (i = b ∧ j = a) := by
  simp only [cut, Bool.and_eq_true, Bool.not_eq_true', decide_eq_false_iff_not, Bool.or_eq_true, decide_eq_true_eq]
  omega
theorem after_ok (k : Ok n w l) (h29 : ∀ i, i < n → w i ≤ 29) (h3 : ∀ i j, i < n → j < n → l i j ≤ 3) (ha : a < n) (hb : b < n) (hp : 0 < l a b) : Ok n (w2 w a) (l2 l a b) ∧ Sml n (w2 w a) (l2 l a b) := by
  have hab : a ≠ b := fun e => by subst e; rw [k.dia _ ha] at hp; omega
  have hs := k.sym a b ha hb
  refine ⟨⟨k.n0, k.n12, fun i hi => ?_, fun i j hi hj => ?_, fun i j hi hj => ?_, fun i hi => ?_⟩, ⟨fun i hi => ?_, fun i j hi hj => ?_⟩⟩
  · have := k.w0 i hi; have := h29 i hi; unfold w2; split <;> omega
  · have := k.l0 i j hi hj
    unfold l2
    by_cases h : cut a b i j = true
    · rw [if_pos h]
      rcases (cut_iff hab).mp h with ⟨rfl, rfl⟩ | ⟨rfl, rfl⟩ <;> omega
    · rw [if_neg h]; omega
  · unfold l2
    rw [k.sym i j hi hj]
    have : cut a b i j = cut a b j i := by
      rw [Bool.eq_iff_iff, cut_iff hab, cut_iff hab]; omega
    rw [this]
  · unfold l2
    rw [k.dia i hi, if_neg (by rw [cut_iff hab]; omega)]; rfl
  · have := h29 i hi; unfold w2; split <;> omega
  · have := h3 i j hi hj; unfold l2; split <;> omega
theorem in_pair (i a b : Nat) : dIn (.int i) (.tup [.int a, .int b]) = some (.bl (decide (i = a) || decide (i = b))) := by
  have := dIn_tupN i [a, b]
  simpa using this
abbrev stX (C : Addr) (n : Nat) (w : Nat → Int) (l : Nat → Nat → Int) (a b : Nat) (rs : List D) (x6 x7 : Slot) : Sto := [some (.z, seaD C n w l), some (.z, .int a), some (.z, .int b), some (.z, rowT n (w2 w a)), some (.seq .z, .lst rs), some (.z, .tup [.int a, .int b]), x6, x7, none, none, none]
theorem enum_map {m : Nat} (f : Nat → D) : dEnum ((List.range m).map f) = (List.range m).map fun i => .tup [.int (i : Nat), f i] := by
  unfold dEnum
  rw [List.length_map, List.length_range]
  refine List.map_congr_left fun i hi => ?_
  have := List.mem_range.mp hi
  simp [this]
theorem wm_c2 (hn : n ≤ 12) {i : Nat} (rs : List D) (r : Nat → Int) : fb_with_match_c2 (stX C n w l a b rs (some (.z, .int i)) (some (.z, rowT n r))) = some (.lst ((List.range n).map fun j => .int (r j - if cut a b i j then 1 else 0))) := by
  refine vLc_map (I := fun j => .tup [.int (j : Nat), .int (r j)]) (xs := List.range n) rfl (by simp [enum_map]) (by simp; omega) fun j m => ⟨[some (.z, seaD C n w l), some (.z, .int a), some (.z, .int b), some (.z, rowT n (w2 w a)), some (.seq .z, .lst rs), some (.z, .tup [.int a, .int b]), some (.z, .int i), some (.z, rowT n r), none, some (.z, .int (r j)), some (.z, .int j)], rfl, ?_⟩
  have e : vAndF (v2 dNe (vVarZ 6) (vVarZ 10)) (vAndF (v2 dIn (vVarZ 6) (vVarZ 5)) (v2 dIn (vVarZ 10) (vVarZ 5))) [some (.z, seaD C n w l), some (.z, .int a), some (.z, .int b), some (.z, rowT n (w2 w a)), some (.seq .z, .lst rs), some (.z, .tup [.int a, .int b]), some (.z, .int i), some (.z, rowT n r), none, some (.z, .int (r j)), some (.z, .int j)] = some (.bl (cut a b i j)) := by
    unfold cut
    cases h1 : decide (i = j) <;> cases h2 : (decide (i = a) || decide (i = b)) <;> simp [in_pair, dNe_int, ne_cast, h1, h2]
  rw [q_v2, q_v1, e]
  cases cut a b i j <;> simp
theorem with_match_ev (k : Ok n w l) (k' : Ok n (w2 w a) (l2 l a b)) (ha : a < n) (hb : b < n) (hp : 0 < l a b) : m_with_match C [seaD C n w l, .int a, .int b] = some (seaD C n (w2 w a) (l2 l a b)) := by
  have hn := k.n12
  have h0 : ¬ l a b = 0 := by omega
  have c1 : fb_with_match_c1 C [some (.z, seaD C n w l), some (.z, .int a), some (.z, .int b), none, none, none, none, none, none, none, none] = some (.lst ((List.range n).map fun i => .int (w2 w a i))) := by
    refine vLc_map (I := fun j => .tup [.int (j : Nat), .int (w j)]) (xs := List.range n) rfl (by simp [enum_map]) (by simp; omega) fun j m => ⟨[some (.z, seaD C n w l), some (.z, .int a), some (.z, .int b), none, none, none, none, none, some (.z, .int j), some (.z, .int (w j)), none], rfl, ?_⟩
    by_cases h : j = a
    · subst h; simp [w2]
    · have : ¬ (j : Int) = a := by omega
      simp [w2, h, this]
  have loop := forL_inv (g := gTupF 2 (gsCons (gN 6) (gsCons (gN 7) gsNil))) (b := fb_with_match_b1) (I := fun i => .tup [.int (i : Nat), rowT n (l i)]) (List.range n) (fun k ρ => ∃ y6 y7, ρ = stX C n w l a b ((List.range k).map fun i => rowT n (l2 l a b i)) y6 y7) (ρ := stX C n w l a b [] none none) (fun i j ρ hk ⟨y6, y7, e⟩ => by
    subst e
    obtain ⟨k1, k2⟩ := List.getElem?_eq_some_iff.mp hk
    simp at k1 k2
    subst k2
    refine ⟨stX C n w l a b ((List.range i).map fun i => rowT n (l2 l a b i)) (some (.z, .int i)) (some (.z, rowT n (l i))), stX C n w l a b ((List.range (i + 1)).map fun i => rowT n (l2 l a b i)) (some (.z, .int i)) (some (.z, rowT n (l i))), rfl, .inl ?_, _, _, rfl⟩
    have c := wm_c2 (C := C) (w := w) (l := l) (a := a) (b := b) hn (i := i) ((List.range i).map fun i => rowT n (l2 l a b i)) (l i)
    have c' : v1 dTuple fb_with_match_c2 (stX C n w l a b ((List.range i).map fun i => rowT n (l2 l a b i)) (some (.z, .int i)) (some (.z, rowT n (l i)))) = some (rowT n (l2 l a b i)) := by
      rw [q_v1, c]; rfl
    unfold fb_with_match_b1
    generalize v1 dTuple fb_with_match_c2 = f at c'
    rw [List.range_succ, List.map_append]
    obtain ⟨q, hq⟩ : ∃ q, rowT n (l2 l a b i) = q := ⟨_, rfl⟩
    rw [hq] at c'
    simp [c']
    exact ⟨by omega, hq.symm⟩) ⟨none, none, rfl⟩
  obtain ⟨ρ', e, y6, y7, rfl⟩ := loop
  rw [List.length_range] at e
  have z0 : m_with_match C [seaD C n w l, .int a, .int b] = endP (fb_with_match C [some (.z, seaD C n w l), some (.z, .int a), some (.z, .int b), none, none, none, none, none, none, none, none]) := rfl
  have s1 : (sDrop (up (vCall (n := 2) (m_look_at_side C) (aCons (vVarZ 0) (aCons (vVarZ 1) aNil))))) [some (.z, seaD C n w l), some (.z, .int a), some (.z, .int b), none, none, none, none, none, none, none, none] = some (.nx [some (.z, seaD C n w l), some (.z, .int a), some (.z, .int b), none, none, none, none, none, none, none, none]) := by simp [look_ev ha]
  have s2 : (sDrop (up (vCall (n := 2) (m_look_at_side C) (aCons (vVarZ 0) (aCons (vVarZ 2) aNil))))) [some (.z, seaD C n w l), some (.z, .int a), some (.z, .int b), none, none, none, none, none, none, none, none] = some (.nx [some (.z, seaD C n w l), some (.z, .int a), some (.z, .int b), none, none, none, none, none, none, none, none]) := by simp [look_ev hb]
  have s3 : (sIf (upT (vB (v2 dEq (v2 dIx (v2 dIx (vFld C "left" (vVarZ 0)) (vVarZ 1)) (vVarZ 2)) (vC (.int 0))))) sNever sNext) [some (.z, seaD C n w l), some (.z, .int a), some (.z, .int b), none, none, none, none, none, none, none, none] = some (.nx [some (.z, seaD C n w l), some (.z, .int a), some (.z, .int b), none, none, none, none, none, none, none, none]) := by simp [ha, hb, h0]
  have s4 : (sSet 3 .z (up (v1 dTuple (fb_with_match_c1 C)))) [some (.z, seaD C n w l), some (.z, .int a), some (.z, .int b), none, none, none, none, none, none, none, none] = some (.nx [some (.z, seaD C n w l), some (.z, .int a), some (.z, .int b), some (.z, rowT n (w2 w a)), none, none, none, none, none, none, none]) := by
    rw [q_sSet, q_up, q_v1, c1]; rfl
  have s5 : (sSet 4 (.seq .z) (up (vLst aNil))) [some (.z, seaD C n w l), some (.z, .int a), some (.z, .int b), some (.z, rowT n (w2 w a)), none, none, none, none, none, none, none] = some (.nx [some (.z, seaD C n w l), some (.z, .int a), some (.z, .int b), some (.z, rowT n (w2 w a)), some (.seq .z, .lst []), none, none, none, none, none, none]) := by simp
  have s6 : (sSet 5 .z (up (vTup (aCons (vVarZ 1) (aCons (vVarZ 2) aNil))))) [some (.z, seaD C n w l), some (.z, .int a), some (.z, .int b), some (.z, rowT n (w2 w a)), some (.seq .z, .lst []), none, none, none, none, none, none] = some (.nx (stX C n w l a b [] none none)) := by simp
  have hi : vEnum (vFld C "left" (vVarZ 0)) (stX C n w l a b [] none none) = some ((List.range n).map fun i => .tup [.int (i : Nat), rowT n (l i)]) := by simp [enum_map]
  have s7 : (sFor (upI (vEnum (vFld C "left" (vVarZ 0)))) (gTupF 2 (gsCons (gN 6) (gsCons (gN 7) gsNil))) fb_with_match_b1) (stX C n w l a b [] none none) = some (.nx (stX C n w l a b ((List.range n).map fun i => rowT n (l2 l a b i)) y6 y7)) := by
    rw [q_sFor, q_upI, hi]
    exact e
  have s8 : (sRet (up (vMake 3 C (m_Season_init C) (aCons (vVarZ 3) (aCons (v1 dTuple (vVarS 4)) aNil))))) (stX C n w l a b ((List.range n).map fun i => rowT n (l2 l a b i)) y6 y7) = some (.rt (seaD C n (w2 w a) (l2 l a b)) (stX C n w l a b ((List.range n).map fun i => rowT n (l2 l a b i)) y6 y7)) := by
    have h : aCons (vVarZ 3) (aCons (v1 dTuple (vVarS 4)) aNil) (stX C n w l a b ((List.range n).map fun i => rowT n (l2 l a b i)) y6 y7) = some [rowT n (w2 w a), matT n (l2 l a b)] := by
      simp
    rw [q_sRet, q_up, q_vMake, h, Option.bind_some, dMake_ev (k := 3) rfl (season_ev k')]; rfl
  rw [z0]
  unfold fb_with_match
  rw [sSeq_nx s1, sSeq_nx s2, sSeq_nx s3, sSeq_nx s4, sSeq_nx s5, sSeq_nx s6, sSeq_nx s7, s8]
  rfl
end
end K06

set_option Elab.async false
set_option linter.all false
set_option maxRecDepth 100000
noncomputable section
namespace K06
open PySem PySem.Spec PyProof.Rows L2 VL
section
variable {C C2 : Addr} {n : Nat} {w : Nat → Int} {l : Nat → Nat → Int} {s : Nat}
theorem vCall_of {k : Nat} {m : List D → Option D} {fs : Sto → Option (List D)} {ρ : Sto} {ds : List D} {d : D} (h : fs ρ = some ds) (hl : ds.length = k) (hm : m ds = some d) : vCall (n := k) m fs ρ = some d := by
  rw [q_vCall, h, Option.bind_some, if_pos hl]; exact hm
theorem vB_of {f : Sto → Option D} {ρ : Sto} {b : Bool} (h : f ρ = some (.bl b)) : vB f ρ = some b := by rw [q_vB, h]
theorem tOr_f {t u : Sto → Option Bool} {ρ : Sto} (h : t ρ = some false) (h2 : u ρ = some false) : tOrF t u ρ = some false := by
  rw [q_tOr, h, Option.bind_some]; exact h2
theorem tNot_f {t : Sto → Option Bool} {ρ : Sto} (h : t ρ = some true) : tNotF t ρ = some false := by rw [q_tNot, h]; rfl
theorem sIf_f {t : Sto → Option Bool} {a : Sto → Option Fl} {ρ : Sto} (h : t ρ = some false) : sIf (upT t) a sNext ρ = some (.nx ρ) := by rw [sIf_t _ h]; rfl
abbrev mostD (n : Nat) (w : Nat → Int) (l : Nat → Nat → Int) : D := .lst ((List.range n).map fun i => .int (has n w l i))
abbrev canD (n : Nat) (w : Nat → Int) (l : Nat → Nat → Int) : D := .lst ((canL n w l).map fun i : Nat => .int i)
abbrev stB (C : Addr) (sc d : D) (x2 : Slot) (n : Nat) (w : Nat → Int) (l : Nat → Nat → Int) (x6 x11 x12 x13 x14 x15 x16 : Slot) : Sto := [some (.z, sc), some (.seq .z, d), x2, some (.z, lotsD n w l (2 ^ n)), some (.z, mostD n w l), some (.seq .z, canD n w l), x6, some (.z, rowT n w), some (.z, matT n l), some (.z, .int n), some (.z, seaD C n w l), x11, x12, x13, x14, x15, x16, none]
theorem in_can (hs : s < n) : dIn (.int s) (canD n w l) = some (.bl (canB n w l s)) := by
  rw [dIn_lstN]
  congr 2
  rw [Bool.eq_iff_iff, decide_eq_true_eq]
  simp [canL, hs]
theorem Dec.head {d : D} (hs : s < n) (h : Dec n w l s d) : dIx d (.int 0) = some (if canB n w l s then .str "won" else .str "lot") := by
  rcases h.can hs with ⟨hc, W, _, _, rfl⟩ | ⟨hc, L, _, _, _, _, _, rfl⟩ <;> rw [hc] <;> rfl
theorem ne_same (b : Bool) : dNe (if b then .str "won" else .str "lot") (if b then .str "won" else .str "lot") = some (.bl false) := by
  cases b
  · exact n_ll
  · exact n_ww
theorem doR_same (k0 : Nat) (M : Nat) : Sm (k0 + 1) (doR n w l s M) := by
  unfold doR
  cases (List.range (M + 1)).find? (doB n w l s M) with
  | none => exact Sm.non
  | some m => exact Sm.int m
theorem law_b1 (k : Ok n w l) (z : Sml n w l) (hs : s < n) (sc d : D) (x2 x11 x12 x13 x14 x15 x16 : Slot) : ∃ y11, fb_law_b1 C C2 (stB C sc d x2 n w l (some (.z, .int s)) x11 x12 x13 x14 x15 x16) = some (.nx (stB C sc d x2 n w l (some (.z, .int s)) y11 x12 x13 x14 x15 x16)) := by
  have hn := k.n12
  obtain ⟨p, hd, ep⟩ := dec_ev (C := C) (C2 := C2) k hs z
  refine ⟨some (.z, p), ?_⟩
  have s1 : (sSet 11 .z (up (vCall (n := 2) (m_decide_first C C2) (aCons (vVarZ 10) (aCons (vVarZ 6) aNil))))) (stB C sc d x2 n w l (some (.z, .int s)) x11 x12 x13 x14 x15 x16) = some (.nx (stB C sc d x2 n w l (some (.z, .int s)) (some (.z, p)) x12 x13 x14 x15 x16)) := by
    rw [q_sSet, q_up, vCall_of (ds := [seaD C n w l, .int s]) rfl rfl ep]; rfl
  have t1 : vB (v2 dNe (v2 dIx (vVarZ 11) (vC (.int 0))) (vIf (vB (v2 dIn (vVarZ 6) (vVarS 5))) (vC (.str "won")) (vC (.str "lot")))) (stB C sc d x2 n w l (some (.z, .int s)) (some (.z, p)) x12 x13 x14 x15 x16) = some false := by
    refine vB_of ?_
    have a1 : v2 dIx (vVarZ 11) (vC (.int 0)) (stB C sc d x2 n w l (some (.z, .int s)) (some (.z, p)) x12 x13 x14 x15 x16) = some (if canB n w l s then .str "won" else .str "lot") := by
      rw [q_v2]; exact hd.head hs
    have a2 : vB (v2 dIn (vVarZ 6) (vVarS 5)) (stB C sc d x2 n w l (some (.z, .int s)) (some (.z, p)) x12 x13 x14 x15 x16) = some (canB n w l s) := by
      refine vB_of ?_
      rw [q_v2]; exact in_can hs
    rw [q_v2, a1, Option.bind_some, q_vIf, a2, Option.bind_some]
    generalize canB n w l s = b
    cases b
    · exact n_ll
    · exact n_ww
  have t2 : vB (vCall (n := 4) m__law_paper (aCons (vVarZ 7) (aCons (vVarZ 8) (aCons (vVarZ 6) (aCons (vVarZ 11) aNil))))) (stB C sc d x2 n w l (some (.z, .int s)) (some (.z, p)) x12 x13 x14 x15 x16) = some true :=
    vB_of (vCall_of (ds := [rowT n w, matT n l, .int s, p]) rfl rfl (paper_ev k hs hd))
  have t3 : vB (v2 dNotB (vCall (n := 3) (m_first_right C) (aCons (vVarZ 10) (aCons (vVarZ 6) (aCons (vVarZ 11) aNil)))) (vC (.bl true))) (stB C sc d x2 n w l (some (.z, .int s)) (some (.z, p)) x12 x13 x14 x15 x16) = some false := by
    refine vB_of ?_
    rw [q_v2, vCall_of (ds := [seaD C n w l, .int s, p]) rfl rfl (own_right k hs hd)]; rfl
  have t4 : vB (v2 dNe (vCall (n := 2) (m_can_be_first C C2) (aCons (vVarZ 10) (aCons (vVarZ 6) aNil))) (v2 dIn (vVarZ 6) (vVarS 5))) (stB C sc d x2 n w l (some (.z, .int s)) (some (.z, p)) x12 x13 x14 x15 x16) = some false := by
    refine vB_of ?_
    have a2 : v2 dIn (vVarZ 6) (vVarS 5) (stB C sc d x2 n w l (some (.z, .int s)) (some (.z, p)) x12 x13 x14 x15 x16) = some (.bl (canB n w l s)) := by
      rw [q_v2]; exact in_can hs
    rw [q_v2, vCall_of (ds := [seaD C n w l, .int s]) rfl rfl (can_first_ev k hs z), a2, Option.bind_some, Option.bind_some, dNe_bl]
    generalize canB n w l s = b
    cases b <;> rfl
  have t5 : vB (v2 dNe (vCall (n := 2) (m_surely_first C) (aCons (vVarZ 10) (aCons (vVarZ 6) aNil))) (vCall (n := 3) m__law_surely (aCons (vVarZ 7) (aCons (vVarZ 8) (aCons (vVarZ 6) aNil))))) (stB C sc d x2 n w l (some (.z, .int s)) (some (.z, p)) x12 x13 x14 x15 x16) = some false := by
    refine vB_of ?_
    rw [q_v2, vCall_of (ds := [seaD C n w l, .int s]) rfl rfl (surely_ev hn hs), vCall_of (ds := [rowT n w, matT n l, .int s]) rfl rfl (lsurely_ev hn hs), Option.bind_some, Option.bind_some, dNe_bl]
    generalize surB n w l s = b
    cases b <;> rfl
  obtain ⟨M, hM, hM2⟩ : ∃ M : Nat, sumR n (l s) = M ∧ M ≤ 100000 := by
    have h1 := sumR_nonneg fun j hj => (k.l0 s j hs hj).1
    have h2 : sumR n (l s) ≤ sumR n fun _ => 3 := sumR_le fun j hj => z.l s j hs hj
    rw [sumR_const] at h2
    exact ⟨(sumR n (l s)).toNat, by omega, by omega⟩
  have t6 : vB (vCall (n := 2) m__law_same (aCons (vCall (n := 2) (m_wins_that_do C) (aCons (vVarZ 10) (aCons (vVarZ 6) aNil))) (aCons (vCall (n := 3) m__law_do (aCons (vVarZ 7) (aCons (vVarZ 8) (aCons (vVarZ 6) aNil)))) aNil))) (stB C sc d x2 n w l (some (.z, .int s)) (some (.z, p)) x12 x13 x14 x15 x16) = some true := by
    refine vB_of (vCall_of (ds := [doR n w l s M, doR n w l s M]) ?_ rfl (doR_same 3 M))
    rw [q_aCons, q_aCons, vCall_of (ds := [seaD C n w l, .int s]) rfl rfl (wins_do_ev hn hs hM hM2), vCall_of (ds := [rowT n w, matT n l, .int s]) rfl rfl (ldo_ev k hs hM hM2)]
    rfl
  unfold fb_law_b1
  rw [sSeq_nx s1, sSeq_nx (sIf_f (tOr_f t1 (tOr_f (tNot_f t2) t3))), sSeq_nx (sIf_f (tOr_f t4 t5)), sIf_f (tNot_f t6)]
end
end K06

set_option Elab.async false
set_option linter.all false
set_option maxRecDepth 100000
noncomputable section
namespace K06
open PySem PySem.Spec PyProof.Rows L2 VL
section
variable {C C2 : Addr} {n : Nat} {w : Nat → Int} {l : Nat → Nat → Int} {s : Nat}
def Pl (x : Slot) : Prop := x = none ∨ ∃ d, x = some (.z, d)
theorem Sm.ints {k : Nat} {m : Nat} (f : Nat → Int) (h : m ≤ 12) : Sm (k + 2) (.lst ((List.range m).map fun i => D.int (f i))) := Sm.lst (by simp; omega) fun d hd => by
  obtain ⟨i, _, rfl⟩ := List.mem_map.mp hd; exact Sm.int _
theorem Sm.row {k : Nat} (f : Nat → Int) (h : n ≤ 12) : Sm (k + 2) (rowT n f) := Sm.tup (by simp; omega) fun d hd => by
  obtain ⟨i, _, rfl⟩ := List.mem_map.mp hd; exact Sm.int _
theorem canL_len (hn : n ≤ 12) : (canL n w l).length ≤ 12 := Nat.le_trans (List.length_filter_le _ _) (by simp; omega)
abbrev stT (C : Addr) (sc d : D) (x2 : Slot) (n : Nat) (w : Nat → Int) (l : Nat → Nat → Int) (x3 x4 x5 x6 x11 x12 x13 x14 x15 x16 : Slot) : Sto := [some (.z, sc), some (.seq .z, d), x2, x3, x4, x5, x6, some (.z, rowT n w), some (.z, matT n l), some (.z, .int n), some (.z, seaD C n w l), x11, x12, x13, x14, x15, x16, none]
theorem pl6 {ρ : Sto} {x0 x1 x2 x3 x4 x5 x6 : Slot} (h : Pl x6) : PlainAt (x0 :: x1 :: x2 :: x3 :: x4 :: x5 :: x6 :: ρ) [6] = true := by
  rcases h with rfl | ⟨d, rfl⟩ <;> rfl
theorem law_c1 (k : Ok n w l) (sc d : D) (x2 x4 x5 x6 x11 x12 x13 x14 x15 x16 : Slot) (h6 : Pl x6) : fb_law_c1 (stT C sc d x2 n w l (some (.z, lotsD n w l (2 ^ n))) x4 x5 x6 x11 x12 x13 x14 x15 x16) = some (mostD n w l) := by
  have hn := k.n12
  refine vLc_map (I := fun i : Nat => .int i) (xs := List.range n) (pl6 h6) (rng1 hn rfl) (by simp; omega) fun i m => ⟨[some (.z, sc), some (.seq .z, d), x2, some (.z, lotsD n w l (2 ^ n)), x4, x5, some (.z, .int i), some (.z, rowT n w), some (.z, matT n l), some (.z, .int n), some (.z, seaD C n w l), x11, x12, x13, x14, x15, x16, none], rfl, ?_⟩
  have hi := List.mem_range.mp m
  have m1 : v1 dSumA (v2 dIx (vVarZ 8) (vVarZ 6)) [some (.z, sc), some (.seq .z, d), x2, some (.z, lotsD n w l (2 ^ n)), x4, x5, some (.z, .int i), some (.z, rowT n w), some (.z, matT n l), some (.z, .int n), some (.z, seaD C n w l), x11, x12, x13, x14, x15, x16, none] = some (.int (sumR n (l i))) := sumA_ev hi
  have m2 : v2 dIx (vVarZ 7) (vVarZ 6) [some (.z, sc), some (.seq .z, d), x2, some (.z, lotsD n w l (2 ^ n)), x4, x5, some (.z, .int i), some (.z, rowT n w), some (.z, matT n l), some (.z, .int n), some (.z, seaD C n w l), x11, x12, x13, x14, x15, x16, none] = some (.int (w i)) := by simp [hi]
  rw [q_v2, m1, m2]; rfl
theorem law_c2 (k : Ok n w l) (sc d : D) (x2 x5 x6 x11 x12 x13 x14 x15 x16 : Slot) (h6 : Pl x6) : fb_law_c2 (stT C sc d x2 n w l (some (.z, lotsD n w l (2 ^ n))) (some (.z, mostD n w l)) x5 x6 x11 x12 x13 x14 x15 x16) = some (canD n w l) := by
  have hn := k.n12
  refine vLc_eq (I := fun i : Nat => .int i) (E := fun i : Nat => .int i) (p := canB n w l) (xs := List.range n) (pl6 h6) (rng1 hn rfl) (by simp; omega) fun i m => ⟨[some (.z, sc), some (.seq .z, d), x2, some (.z, lotsD n w l (2 ^ n)), some (.z, mostD n w l), x5, some (.z, .int i), some (.z, rowT n w), some (.z, matT n l), some (.z, .int n), some (.z, seaD C n w l), x11, x12, x13, x14, x15, x16, none], rfl, ?_, fun _ => rfl⟩
  have hi := List.mem_range.mp m
  have m2 : v2 dIx (vVarZ 4) (vVarZ 6) [some (.z, sc), some (.seq .z, d), x2, some (.z, lotsD n w l (2 ^ n)), some (.z, mostD n w l), x5, some (.z, .int i), some (.z, rowT n w), some (.z, matT n l), some (.z, .int n), some (.z, seaD C n w l), x11, x12, x13, x14, x15, x16, none] = some (.int (has n w l i)) := by simp [hi]
  refine vB_of (vCall_of (ds := [lotsD n w l (2 ^ n), .int n, .int i, .int (has n w l i)]) ?_ rfl (can_ev k hi))
  rw [q_aCons, q_aCons, q_aCons, q_aCons, m2]; rfl
theorem law_c3 (k : Ok n w l) (sc d : D) (x2 x3 x4 x5 x6 x11 x12 x13 x14 x15 x16 : Slot) (h6 : Pl x6) : fb_law_c3 C (stT C sc d x2 n w l x3 x4 x5 x6 x11 x12 x13 x14 x15 x16) = some (mostD n w l) := by
  have hn := k.n12
  refine vLc_map (I := fun i : Nat => .int i) (xs := List.range n) (pl6 h6) (rng1 hn rfl) (by simp; omega) fun i m => ⟨[some (.z, sc), some (.seq .z, d), x2, x3, x4, x5, some (.z, .int i), some (.z, rowT n w), some (.z, matT n l), some (.z, .int n), some (.z, seaD C n w l), x11, x12, x13, x14, x15, x16, none], rfl, ?_⟩
  have hi := List.mem_range.mp m
  have := most_has (C := C) (w := w) (l := l) hi
  generalize has n w l i = q at this ⊢
  simp [this]
theorem law_c5 (k : Ok n w l) (z : Sml n w l) {b : Int} (hb : imin ((canL n w l).map (has n w l)) = some b) (hc : ∀ i, i < n → decide (b ≤ has n w l i) = canB n w l i) (sc d : D) (x2 x3 x5 x6 x11 x12 x13 x14 x15 x16 : Slot) (h6 : Pl x6) : fb_law_c5 C C2 (stT C sc d x2 n w l x3 (some (.z, mostD n w l)) x5 x6 x11 x12 x13 x14 x15 x16) = some (canD n w l) := by
  have hn := k.n12
  refine vLc_eq (I := fun i : Nat => .int i) (E := fun i : Nat => .int i) (p := canB n w l) (xs := List.range n) (pl6 h6) (rng1 hn rfl) (by simp; omega) fun i m => ⟨[some (.z, sc), some (.seq .z, d), x2, x3, some (.z, mostD n w l), x5, some (.z, .int i), some (.z, rowT n w), some (.z, matT n l), some (.z, .int n), some (.z, seaD C n w l), x11, x12, x13, x14, x15, x16, none], rfl, ?_, fun _ => rfl⟩
  have hi := List.mem_range.mp m
  have m2 : v2 dIx (vVarZ 4) (vVarZ 6) [some (.z, sc), some (.seq .z, d), x2, x3, some (.z, mostD n w l), x5, some (.z, .int i), some (.z, rowT n w), some (.z, matT n l), some (.z, .int n), some (.z, seaD C n w l), x11, x12, x13, x14, x15, x16, none] = some (.int (has n w l i)) := by simp [hi]
  rw [← hc i hi]
  refine vB_of ?_
  rw [q_v2, m2, vCall_of (ds := [seaD C n w l]) rfl rfl (bound_ev k z hb)]
  rfl
theorem law_same (k : Ok n w l) (z : Sml n w l) {b : Int} (hb : imin ((canL n w l).map (has n w l)) = some b) (sc d : D) (x2 x6 x11 x12 x13 x14 x15 x16 : Slot) (h6 : Pl x6) :
    (sIf (upT (tOrF (tNotF (vB (vCall (n := 2) m__law_same (aCons (vCall (n := 1) (m_still_first C C2) (aCons (vVarZ 10) aNil)) (aCons (v1 dTuple (vVarS 5)) aNil))))) (tOrF (tNotF (vB (vCall (n := 2) m__law_same (aCons (fb_law_c3 C) (aCons (vVarZ 4) aNil))))) (tNotF (tBor (vB (vCall (n := 2) m__law_same (aCons (vCall (n := 1) (m_bound C C2) (aCons (vVarZ 10) aNil)) (aCons (v1 dMin fb_law_c4) aNil)))))))))
      (sRet (up (vC (.bl false)))) sNext) (stB C sc d x2 n w l x6 x11 x12 x13 x14 x15 x16) = some (.nx (stB C sc d x2 n w l x6 x11 x12 x13 x14 x15 x16)) := by
  have hn := k.n12
  have hcl := canL_len (w := w) (l := l) hn
  have t1 : vB (vCall (n := 2) m__law_same (aCons (vCall (n := 1) (m_still_first C C2) (aCons (vVarZ 10) aNil)) (aCons (v1 dTuple (vVarS 5)) aNil))) (stB C sc d x2 n w l x6 x11 x12 x13 x14 x15 x16) = some true := by
    refine vB_of (vCall_of (ds := [.tup ((canL n w l).map fun i : Nat => .int i), .tup ((canL n w l).map fun i : Nat => .int i)]) ?_ rfl (Sm.tup (k := 3) (by simp; omega) fun d hd => ?_))
    · rw [q_aCons, vCall_of (ds := [seaD C n w l]) rfl rfl (still_ev k z)]; rfl
    · obtain ⟨i, _, rfl⟩ := List.mem_map.mp hd; exact Sm.int _
  have t2 : vB (vCall (n := 2) m__law_same (aCons (fb_law_c3 C) (aCons (vVarZ 4) aNil))) (stB C sc d x2 n w l x6 x11 x12 x13 x14 x15 x16) = some true := by
    refine vB_of (vCall_of (ds := [mostD n w l, mostD n w l]) ?_ rfl (Sm.ints (k := 2) _ hn))
    rw [q_aCons, law_c3 k sc d x2 _ _ _ x6 x11 x12 x13 x14 x15 x16 h6]; rfl
  have c4 : ∀ x1 x2 x6 x11 x12 x13 x14 x15 x16, Pl x6 → fb_law_c4 [some (.z, sc), x1, x2, some (.z, lotsD n w l (2 ^ n)), some (.z, mostD n w l), some (.z, canD n w l), x6, some (.z, rowT n w), some (.z, matT n l), some (.z, .int n), some (.z, seaD C n w l), x11, x12, x13, x14, x15, x16, none] = some (.lst ((canL n w l).map fun i => .int (has n w l i))) := fun x1 x2 x6 x11 x12 x13 x14 x15 x16 h6 => by
    refine vLc_map (I := fun i : Nat => .int i) (xs := canL n w l) (pl6 h6) rfl (by omega) fun i m => ⟨[some (.z, sc), x1, x2, some (.z, lotsD n w l (2 ^ n)), some (.z, mostD n w l), some (.z, canD n w l), some (.z, .int i), some (.z, rowT n w), some (.z, matT n l), some (.z, .int n), some (.z, seaD C n w l), x11, x12, x13, x14, x15, x16, none], rfl, ?_⟩
    have hi := List.mem_range.mp (List.mem_filter.mp m).1
    simp [hi]
  have t3 : tBor (vB (vCall (n := 2) m__law_same (aCons (vCall (n := 1) (m_bound C C2) (aCons (vVarZ 10) aNil)) (aCons (v1 dMin fb_law_c4) aNil)))) (stB C sc d x2 n w l x6 x11 x12 x13 x14 x15 x16) = some true := by
    rw [q_tBor]
    have ef : frzAll (stB C sc d x2 n w l x6 x11 x12 x13 x14 x15 x16) = [some (.z, sc), some (.z, d), x2.map fun sd => (.z, sd.2), some (.z, lotsD n w l (2 ^ n)), some (.z, mostD n w l), some (.z, canD n w l), x6.map fun sd => (.z, sd.2), some (.z, rowT n w), some (.z, matT n l), some (.z, .int n), some (.z, seaD C n w l), x11.map fun sd => (.z, sd.2), x12.map fun sd => (.z, sd.2), x13.map fun sd => (.z, sd.2), x14.map fun sd => (.z, sd.2), x15.map fun sd => (.z, sd.2), x16.map fun sd => (.z, sd.2), none] := rfl
    rw [ef]
    have h6' : Pl (x6.map fun sd => (.z, sd.2)) := by
      cases x6 with
      | none => exact .inl rfl
      | some q => exact .inr ⟨_, rfl⟩
    refine vB_of (vCall_of (ds := [.int b, .int b]) ?_ rfl (Sm.int (k := 3) b))
    rw [q_aCons, vCall_of (ds := [seaD C n w l]) rfl rfl (bound_ev k z hb), q_aCons, q_v1, c4 _ _ _ _ _ _ _ _ _ h6', Option.bind_some, Option.bind_some, q_dMinF, hb]
    rfl
  exact sIf_f (tOr_f (tNot_f t1) (tOr_f (tNot_f t2) (tNot_f t3)))
end
end K06

set_option Elab.async false
set_option linter.all false
set_option maxRecDepth 100000
noncomputable section
namespace K06
open PySem PySem.Spec PyProof.Rows L2 VL
section
variable {C C2 : Addr} {n : Nat} {w : Nat → Int} {l : Nat → Nat → Int} {a b : Nat}
abbrev stQ (C : Addr) (sc d : D) (x2 : Slot) (n : Nat) (w : Nat → Int) (l : Nat → Nat → Int) (x6 x11 : Slot) (a b : Nat) (x14 x15 x16 : Slot) : Sto := stB C sc d x2 n w l x6 x11 (some (.z, .int a)) (some (.z, .int b)) x14 x15 x16
theorem gTup2 {g1 g2 : D → Sto → Option Sto} {x y : D} {ρ ρ1 ρ2 : Sto} (h1 : g1 x ρ = some ρ1) (h2 : g2 y ρ1 = some ρ2) : gTupF 2 (gsCons g1 (gsCons g2 gsNil)) (.tup [x, y]) ρ = some ρ2 := by
  simp [h1, h2]
theorem row_set {sc d : D} {x2 x6 x11 x14 x16 : Slot} {M : Nat → Nat → Int} {i j : Nat} (hi : i < n) (hj : j < n) (v : Int) {fi fj : Sto → Option D} (h1 : fi (stQ C sc d x2 n w l x6 x11 a b x14 (some (.seq (.seq .z), matL n M)) x16) = some (.int i)) (h2 : fj (stQ C sc d x2 n w l x6 x11 a b x14 (some (.seq (.seq .z), matL n M)) x16) = some (.int j)) :
    gSet 15 .z (lIx 15 (lVar 15) fi) fj (.int v) (stQ C sc d x2 n w l x6 x11 a b x14 (some (.seq (.seq .z), matL n M)) x16) = some (stQ C sc d x2 n w l x6 x11 a b x14 (some (.seq (.seq .z), matL n (setM M i j v))) x16) := by
  have nv : navS (.seq (.seq .z)) (matL n M) [i] = some (.seq .z, rowL n (M i)) := by simp [navS, hi]
  simp [h1, h2, hi, hj, ixN_nat, putM, nv]
theorem matL_congr {M N : Nat → Nat → Int} (h : ∀ i j, i < n → j < n → M i j = N i j) : matL n M = matL n N := by
  unfold matL rowL
  congr 1
  refine List.map_congr_left fun i hi => ?_
  congr 1
  refine List.map_congr_left fun j hj => ?_
  rw [h i j (List.mem_range.mp hi) (List.mem_range.mp hj)]
theorem law_block (k : Ok n w l) (h29 : ∀ i, i < n → w i ≤ 29) (h3 : ∀ i j, i < n → j < n → l i j ≤ 3) (ha : a < n) (hb : b < n) (hp : 0 < l a b) (sc d : D) (x2 x6 x11 x14 x15 x16 : Slot) (h6 : Pl x6) :
    ∃ y14 y15 y16, (sSeq (sSet 14 .z (up (vCall (n := 3) (m_with_match C) (aCons (vVarZ 10) (aCons (vVarZ 12) (aCons (vVarZ 13) aNil))))))
      (sSeq (sSet 15 (.seq (.seq .z)) (up fb_law_c6))
      (sSeq (sAsg (up (vTup (aCons (v2 dSub (vBor .z (v2 dIx (v2 dIx (vVarZ 15) (vVarZ 12)) (vVarZ 13))) (vC (.int 1))) (aCons (v2 dSub (vBor .z (v2 dIx (v2 dIx (vVarZ 15) (vVarZ 13)) (vVarZ 12))) (vC (.int 1))) aNil)))) (gTupF 2 (gsCons (gSet 15 .z (lIx 15 (lVar 15) (vVarZ 12)) (vVarZ 13)) (gsCons (gSet 15 .z (lIx 15 (lVar 15) (vVarZ 13)) (vVarZ 12)) gsNil))))
      (sSeq (sSet 16 .z (up (v1 dTuple fb_law_c7)))
      (sSeq (sIf (upT (tNotF (tBor (vB (vCall (n := 2) m__law_same (aCons (vLst (aCons (vFld C "wins" (vVarZ 14)) (aCons (vFld C "left" (vVarZ 14)) aNil))) (aCons (vLst (aCons (vVarZ 16) (aCons (v1 dTuple fb_law_c8) aNil))) aNil)))))))
      (sRet (up (vC (.bl false))))
      sNext)
      (sIf (upT (tAndF (vB (vCall (n := 3) (m_first_right C) (aCons (vVarZ 10) (aCons (vVarZ 12) (aCons (vCall (n := 2) (m_decide_first C C2) (aCons (vVarZ 14) (aCons (vVarZ 12) aNil))) aNil))))) (vB (v2 dEq (v2 dIx (vCall (n := 2) (m_decide_first C C2) (aCons (vVarZ 14) (aCons (vVarZ 12) aNil))) (vC (.int 0))) (vC (.str "won"))))))
      (sRet (up (vC (.bl false))))
      sNext)))))) (stQ C sc d x2 n w l x6 x11 a b x14 x15 x16) = some (.nx (stQ C sc d x2 n w l x6 x11 a b y14 y15 y16)) := by
  have hn := k.n12
  obtain ⟨k', z'⟩ := after_ok k h29 h3 ha hb hp
  have hab : a ≠ b := fun e => by subst e; rw [k.dia _ ha] at hp; omega
  have hsy := k.sym a b ha hb
  let aft := seaD C n (w2 w a) (l2 l a b)
  have p1 : (sSet 14 .z (up (vCall (n := 3) (m_with_match C) (aCons (vVarZ 10) (aCons (vVarZ 12) (aCons (vVarZ 13) aNil)))))) (stQ C sc d x2 n w l x6 x11 a b x14 x15 x16) = some (.nx (stQ C sc d x2 n w l x6 x11 a b (some (.z, seaD C n (w2 w a) (l2 l a b))) x15 x16)) := by
    rw [q_sSet, q_up, vCall_of (ds := [seaD C n w l, .int a, .int b]) rfl rfl (with_match_ev k k' ha hb hp)]; rfl
  have c6 : fb_law_c6 (stQ C sc d x2 n w l x6 x11 a b (some (.z, seaD C n (w2 w a) (l2 l a b))) x15 x16) = some (matL n l) := by
    refine vLc_map (I := fun i => rowT n (l i)) (xs := List.range n) rfl rfl (by simp; omega) fun i m => ⟨_, rfl, ?_⟩
    rfl
  have p2 : (sSet 15 (.seq (.seq .z)) (up fb_law_c6)) (stQ C sc d x2 n w l x6 x11 a b (some (.z, seaD C n (w2 w a) (l2 l a b))) x15 x16) = some (.nx (stQ C sc d x2 n w l x6 x11 a b (some (.z, seaD C n (w2 w a) (l2 l a b))) (some (.seq (.seq .z), matL n l)) x16)) := by
    rw [q_sSet, q_up, c6]; rfl
  have ix : ∀ (f g : Sto → Option D) (i j : Nat), i < n → j < n → f (frzAll (stQ C sc d x2 n w l x6 x11 a b (some (.z, seaD C n (w2 w a) (l2 l a b))) (some (.seq (.seq .z), matL n l)) x16)) = some (.int i) → g (frzAll (stQ C sc d x2 n w l x6 x11 a b (some (.z, seaD C n (w2 w a) (l2 l a b))) (some (.seq (.seq .z), matL n l)) x16)) = some (.int j) →
      v2 dSub (vBor .z (v2 dIx (v2 dIx (vVarZ 15) f) g)) (vC (.int 1)) (stQ C sc d x2 n w l x6 x11 a b (some (.z, seaD C n (w2 w a) (l2 l a b))) (some (.seq (.seq .z), matL n l)) x16) = some (.int (l i j - 1)) := fun f g i j hi hj hf hg => by
    have e1 : vVarZ 15 (frzAll (stQ C sc d x2 n w l x6 x11 a b (some (.z, seaD C n (w2 w a) (l2 l a b))) (some (.seq (.seq .z), matL n l)) x16)) = some (matL n l) := rfl
    have e2 : dIx (matL n l) (.int i) = some (rowL n (l i)) := by simp [hi]
    have e3 : dIx (rowL n (l i)) (.int j) = some (.int (l i j)) := by simp [hj]
    rw [q_v2, q_vBor, q_v2, q_v2, e1, hf, hg, Option.bind_some, Option.bind_some, e2, Option.bind_some, Option.bind_some, e3]
    rfl
  have tv : vTup (aCons (v2 dSub (vBor .z (v2 dIx (v2 dIx (vVarZ 15) (vVarZ 12)) (vVarZ 13))) (vC (.int 1))) (aCons (v2 dSub (vBor .z (v2 dIx (v2 dIx (vVarZ 15) (vVarZ 13)) (vVarZ 12))) (vC (.int 1))) aNil)) (stQ C sc d x2 n w l x6 x11 a b (some (.z, seaD C n (w2 w a) (l2 l a b))) (some (.seq (.seq .z), matL n l)) x16) = some (.tup [.int (l a b - 1), .int (l b a - 1)]) := by
    rw [q_vTup, q_aCons, q_aCons, ix _ _ a b ha hb rfl rfl, ix _ _ b a hb ha rfl rfl]
    rfl
  have em : matL n (setM (setM l a b (l a b - 1)) b a (l b a - 1)) = matL n (l2 l a b) := matL_congr fun i j hi hj => by
    unfold setM l2
    by_cases h1 : i = b ∧ j = a
    · obtain ⟨rfl, rfl⟩ := h1
      rw [if_pos ⟨rfl, rfl⟩, if_pos ((cut_iff hab).mpr (.inr ⟨rfl, rfl⟩))]
    · by_cases h2 : i = a ∧ j = b
      · obtain ⟨rfl, rfl⟩ := h2
        rw [if_neg h1, if_pos ⟨rfl, rfl⟩, if_pos ((cut_iff hab).mpr (.inl ⟨rfl, rfl⟩))]
      · rw [if_neg h1, if_neg h2, if_neg (fun z => by rcases (cut_iff hab).mp z with z | z <;> contradiction)]; omega
  have p3 : (sAsg (up (vTup (aCons (v2 dSub (vBor .z (v2 dIx (v2 dIx (vVarZ 15) (vVarZ 12)) (vVarZ 13))) (vC (.int 1))) (aCons (v2 dSub (vBor .z (v2 dIx (v2 dIx (vVarZ 15) (vVarZ 13)) (vVarZ 12))) (vC (.int 1))) aNil)))) (gTupF 2 (gsCons (gSet 15 .z (lIx 15 (lVar 15) (vVarZ 12)) (vVarZ 13)) (gsCons (gSet 15 .z (lIx 15 (lVar 15) (vVarZ 13)) (vVarZ 12)) gsNil)))) (stQ C sc d x2 n w l x6 x11 a b (some (.z, seaD C n (w2 w a) (l2 l a b))) (some (.seq (.seq .z), matL n l)) x16) = some (.nx (stQ C sc d x2 n w l x6 x11 a b (some (.z, seaD C n (w2 w a) (l2 l a b))) (some (.seq (.seq .z), matL n (l2 l a b))) x16)) := by
    rw [q_sAsg, q_up, tv, Option.map_some, Option.bind_some]
    show Option.map Fl.nx (gTupF 2 (gsCons (gSet 15 .z (lIx 15 (lVar 15) (vVarZ 12)) (vVarZ 13)) (gsCons (gSet 15 .z (lIx 15 (lVar 15) (vVarZ 13)) (vVarZ 12)) gsNil)) (.tup [.int (l a b - 1), .int (l b a - 1)]) (stQ C sc d x2 n w l x6 x11 a b (some (.z, seaD C n (w2 w a) (l2 l a b))) (some (.seq (.seq .z), matL n l)) x16)) = _
    rw [gTup2 (row_set ha hb _ rfl rfl) (row_set hb ha _ rfl rfl), em]; rfl
  have c7 : fb_law_c7 (stQ C sc d x2 n w l x6 x11 a b (some (.z, seaD C n (w2 w a) (l2 l a b))) (some (.seq (.seq .z), matL n (l2 l a b))) x16) = some (.lst ((List.range n).map fun i => .int (w2 w a i))) := by
    refine vLc_map (I := fun i : Nat => .int i) (xs := List.range n) (pl6 h6) (rng1 hn rfl) (by simp; omega) fun i m => ⟨stQ C sc d x2 n w l (some (.z, .int i)) x11 a b (some (.z, seaD C n (w2 w a) (l2 l a b))) (some (.seq (.seq .z), matL n (l2 l a b))) x16, rfl, ?_⟩
    have hi := List.mem_range.mp m
    have m1 : v2 dIx (vVarZ 7) (vVarZ 6) (stQ C sc d x2 n w l (some (.z, .int i)) x11 a b (some (.z, seaD C n (w2 w a) (l2 l a b))) (some (.seq (.seq .z), matL n (l2 l a b))) x16) = some (.int (w i)) := by
      rw [q_v2]
      show dIx (rowT n w) (.int i) = _
      simp [hi]
    have m2 : vIf (vB (v2 dEq (vVarZ 6) (vVarZ 12))) (vC (.int 1)) (vC (.int 0)) (stQ C sc d x2 n w l (some (.z, .int i)) x11 a b (some (.z, seaD C n (w2 w a) (l2 l a b))) (some (.seq (.seq .z), matL n (l2 l a b))) x16) = some (.int (if i = a then 1 else 0)) := by
      have t : vB (v2 dEq (vVarZ 6) (vVarZ 12)) (stQ C sc d x2 n w l (some (.z, .int i)) x11 a b (some (.z, seaD C n (w2 w a) (l2 l a b))) (some (.seq (.seq .z), matL n (l2 l a b))) x16) = some (decide (i = a)) := by
        refine vB_of ?_
        rw [q_v2]
        show dEq (.int i) (.int a) = _
        simp [eq_cast]
      rw [q_vIf, t, Option.bind_some]
      by_cases h : i = a
      · rw [if_pos h, if_pos (decide_eq_true h)]; rfl
      · rw [if_neg h, if_neg (by simp [h])]; rfl
    rw [q_v2, m1, m2]; rfl
  have p4 : (sSet 16 .z (up (v1 dTuple fb_law_c7))) (stQ C sc d x2 n w l x6 x11 a b (some (.z, seaD C n (w2 w a) (l2 l a b))) (some (.seq (.seq .z), matL n (l2 l a b))) x16) = some (.nx (stQ C sc d x2 n w l x6 x11 a b (some (.z, seaD C n (w2 w a) (l2 l a b))) (some (.seq (.seq .z), matL n (l2 l a b))) (some (.z, rowT n (w2 w a))))) := by
    rw [q_sSet, q_up, q_v1, c7]; rfl
  have c8 : fb_law_c8 (frzAll (stQ C sc d x2 n w l x6 x11 a b (some (.z, seaD C n (w2 w a) (l2 l a b))) (some (.seq (.seq .z), matL n (l2 l a b))) (some (.z, rowT n (w2 w a))))) = some (.lst ((List.range n).map fun i => rowT n (l2 l a b i))) := by
    refine vLc_map (I := fun i => rowL n (l2 l a b i)) (xs := List.range n) rfl rfl (by simp; omega) fun i m => ⟨_, rfl, ?_⟩
    rfl
  have t5 : tBor (vB (vCall (n := 2) m__law_same (aCons (vLst (aCons (vFld C "wins" (vVarZ 14)) (aCons (vFld C "left" (vVarZ 14)) aNil))) (aCons (vLst (aCons (vVarZ 16) (aCons (v1 dTuple fb_law_c8) aNil))) aNil)))) (stQ C sc d x2 n w l x6 x11 a b (some (.z, seaD C n (w2 w a) (l2 l a b))) (some (.seq (.seq .z), matL n (l2 l a b))) (some (.z, rowT n (w2 w a)))) = some true := by
    rw [q_tBor]
    have h8 : v1 dTuple fb_law_c8 (frzAll (stQ C sc d x2 n w l x6 x11 a b (some (.z, seaD C n (w2 w a) (l2 l a b))) (some (.seq (.seq .z), matL n (l2 l a b))) (some (.z, rowT n (w2 w a))))) = some (matT n (l2 l a b)) := by
      rw [q_v1, c8]; rfl
    have f1 : vFld C "wins" (vVarZ 14) (frzAll (stQ C sc d x2 n w l x6 x11 a b (some (.z, seaD C n (w2 w a) (l2 l a b))) (some (.seq (.seq .z), matL n (l2 l a b))) (some (.z, rowT n (w2 w a))))) = some (rowT n (w2 w a)) := by
      rw [q_vFld]; exact sea_wins
    have f2 : vFld C "left" (vVarZ 14) (frzAll (stQ C sc d x2 n w l x6 x11 a b (some (.z, seaD C n (w2 w a) (l2 l a b))) (some (.seq (.seq .z), matL n (l2 l a b))) (some (.z, rowT n (w2 w a))))) = some (matT n (l2 l a b)) := by
      rw [q_vFld]; exact sea_left
    have f3 : vVarZ 16 (frzAll (stQ C sc d x2 n w l x6 x11 a b (some (.z, seaD C n (w2 w a) (l2 l a b))) (some (.seq (.seq .z), matL n (l2 l a b))) (some (.z, rowT n (w2 w a))))) = some (rowT n (w2 w a)) := rfl
    refine vB_of (vCall_of (ds := [.lst [rowT n (w2 w a), matT n (l2 l a b)], .lst [rowT n (w2 w a), matT n (l2 l a b)]]) ?_ rfl (Sm.lst (k := 3) (by simp) fun x hx => ?_))
    · have g1 : vLst (aCons (vFld C "wins" (vVarZ 14)) (aCons (vFld C "left" (vVarZ 14)) aNil)) (frzAll (stQ C sc d x2 n w l x6 x11 a b (some (.z, seaD C n (w2 w a) (l2 l a b))) (some (.seq (.seq .z), matL n (l2 l a b))) (some (.z, rowT n (w2 w a))))) = some (.lst [rowT n (w2 w a), matT n (l2 l a b)]) := by
        rw [q_vLst, q_aCons, q_aCons, f1, f2]; rfl
      have g2 : vLst (aCons (vVarZ 16) (aCons (v1 dTuple fb_law_c8) aNil)) (frzAll (stQ C sc d x2 n w l x6 x11 a b (some (.z, seaD C n (w2 w a) (l2 l a b))) (some (.seq (.seq .z), matL n (l2 l a b))) (some (.z, rowT n (w2 w a))))) = some (.lst [rowT n (w2 w a), matT n (l2 l a b)]) := by
        rw [q_vLst, q_aCons, q_aCons, f3, h8]; rfl
      rw [q_aCons, q_aCons, g1, g2]; rfl
    · rcases List.mem_cons.mp hx with rfl | hx
      · exact Sm.row (k := 1) _ hn
      · rw [List.mem_singleton.mp hx]
        refine Sm.tup (k := 2) (by simp; omega) fun y hy => ?_
        obtain ⟨i, _, rfl⟩ := List.mem_map.mp hy
        exact Sm.row (k := 0) _ hn
  obtain ⟨p', hd', ep⟩ := dec_ev (C := C) (C2 := C2) k' ha z'
  have hne : l2 l a b a b ≠ l a b := by
    unfold l2
    rw [if_pos ((cut_iff hab).mpr (.inl ⟨rfl, rfl⟩))]; omega
  obtain ⟨q, e1, e2⟩ := after_right (C := C) k k' ha hb hne hd'
  have t6 : tAndF (vB (vCall (n := 3) (m_first_right C) (aCons (vVarZ 10) (aCons (vVarZ 12) (aCons (vCall (n := 2) (m_decide_first C C2) (aCons (vVarZ 14) (aCons (vVarZ 12) aNil))) aNil))))) (vB (v2 dEq (v2 dIx (vCall (n := 2) (m_decide_first C C2) (aCons (vVarZ 14) (aCons (vVarZ 12) aNil))) (vC (.int 0))) (vC (.str "won")))) (stQ C sc d x2 n w l x6 x11 a b (some (.z, seaD C n (w2 w a) (l2 l a b))) (some (.seq (.seq .z), matL n (l2 l a b))) (some (.z, rowT n (w2 w a)))) = some false := by
    have hc : vCall (n := 2) (m_decide_first C C2) (aCons (vVarZ 14) (aCons (vVarZ 12) aNil)) (stQ C sc d x2 n w l x6 x11 a b (some (.z, seaD C n (w2 w a) (l2 l a b))) (some (.seq (.seq .z), matL n (l2 l a b))) (some (.z, rowT n (w2 w a)))) = some p' := vCall_of (ds := [seaD C n (w2 w a) (l2 l a b), .int a]) rfl rfl ep
    have h1 : vB (vCall (n := 3) (m_first_right C) (aCons (vVarZ 10) (aCons (vVarZ 12) (aCons (vCall (n := 2) (m_decide_first C C2) (aCons (vVarZ 14) (aCons (vVarZ 12) aNil))) aNil)))) (stQ C sc d x2 n w l x6 x11 a b (some (.z, seaD C n (w2 w a) (l2 l a b))) (some (.seq (.seq .z), matL n (l2 l a b))) (some (.z, rowT n (w2 w a)))) = some q := by
      refine vB_of (vCall_of (ds := [seaD C n w l, .int a, p']) ?_ rfl e1)
      rw [q_aCons, q_aCons, q_aCons, hc]; rfl
    rw [q_tAnd, h1, Option.bind_some]
    cases q with
    | false => rfl
    | true =>
      rw [if_pos rfl]
      refine vB_of ?_
      rw [q_v2, q_v2, hc, Option.bind_some]
      show ((dIx p' (.int 0)).bind fun x => dEq x (.str "won")) = _
      rw [e2 rfl]
      exact e_lw
  refine ⟨some (.z, seaD C n (w2 w a) (l2 l a b)), some (.seq (.seq .z), matL n (l2 l a b)), some (.z, rowT n (w2 w a)), ?_⟩
  rw [sSeq_nx p1, sSeq_nx p2, sSeq_nx p3, sSeq_nx p4, sSeq_nx (sIf_f (tNot_f t5)), sIf_f t6]
end
end K06

set_option Elab.async false
set_option linter.all false
set_option maxRecDepth 100000
noncomputable section
namespace K06
open PySem PySem.Spec PyProof.Rows L2 VL
section
variable {C C2 : Addr}
abbrev stG (sc d : D) (x2 x3 x4 x5 x6 x7 x8 x9 x10 x11 x12 x13 x14 x15 x16 : Slot) : Sto := [some (.z, sc), some (.seq .z, d), x2, x3, x4, x5, x6, x7, x8, x9, x10, x11, x12, x13, x14, x15, x16, none]
theorem turn_a1 {sc d d' r1 r2 : D} {x2 x3 x4 x5 x6 x7 x8 x9 x10 x11 x12 x13 x14 x15 x16 : Slot} (h : m__law_season [d] = some (.tup [r1, r2], d')) : (sAsg (eCallIO 1 0 1 (.seq .z) m__law_season (aCons (vVar 1) aNil)) (gTupF 2 (gsCons (gN 7) (gsCons (gN 8) gsNil)))) (stG sc d x2 x3 x4 x5 x6 x7 x8 x9 x10 x11 x12 x13 x14 x15 x16) = some (.nx (stG sc d' x2 x3 x4 x5 x6 (some (.z, r1)) (some (.z, r2)) x9 x10 x11 x12 x13 x14 x15 x16)) := by
  simp [h]
theorem turn_a9 {sc d d1 d2 : D} {n a b : Nat} {x2 x3 x4 x5 x6 x7 x8 x10 x11 x12 x13 x14 x15 x16 : Slot} (h1 : m__law_draw [d, .int n] = some (.int a, d1)) (h2 : m__law_draw [d1, .int n] = some (.int b, d2)) : (sAsg (eTup (bCons (eCallIO 2 0 1 (.seq .z) m__law_draw (aCons (vVar 1) (aCons (vVarZ 9) aNil))) (bCons (eCallIO 2 0 1 (.seq .z) m__law_draw (aCons (vVar 1) (aCons (vVarZ 9) aNil))) bNil))) (gTupF 2 (gsCons (gN 12) (gsCons (gN 13) gsNil)))) (stG sc d x2 x3 x4 x5 x6 x7 x8 (some (.z, .int n)) x10 x11 x12 x13 x14 x15 x16) = some (.nx (stG sc d2 x2 x3 x4 x5 x6 x7 x8 (some (.z, .int n)) x10 x11 (some (.z, .int a)) (some (.z, .int b)) x14 x15 x16)) := by
  simp [h1, h2]
theorem turn_a2 {sc d : D} {n : Nat} {w : Nat → Int} {l : Nat → Nat → Int} (k : Ok n w l) {x2 x3 x4 x5 x6 x9 x10 x11 x12 x13 x14 x15 x16 : Slot} : (sAsg (up (vTup (aCons (v1 dLen (vVarZ 7)) (aCons (vMake 3 C (m_Season_init C) (aCons (vVarZ 7) (aCons (vVarZ 8) aNil))) aNil)))) (gTupF 2 (gsCons (gN 9) (gsCons (gN 10) gsNil)))) (stG sc d x2 x3 x4 x5 x6 (some (.z, rowT n w)) (some (.z, matT n l)) x9 x10 x11 x12 x13 x14 x15 x16) = some (.nx (stT C sc d x2 n w l x3 x4 x5 x6 x11 x12 x13 x14 x15 x16)) := by
  have h1 : v1 dLen (vVarZ 7) (stG sc d x2 x3 x4 x5 x6 (some (.z, rowT n w)) (some (.z, matT n l)) x9 x10 x11 x12 x13 x14 x15 x16) = some (.int n) := by simp
  have h2 : vMake 3 C (m_Season_init C) (aCons (vVarZ 7) (aCons (vVarZ 8) aNil)) (stG sc d x2 x3 x4 x5 x6 (some (.z, rowT n w)) (some (.z, matT n l)) x9 x10 x11 x12 x13 x14 x15 x16) = some (seaD C n w l) := by
    have h : aCons (vVarZ 7) (aCons (vVarZ 8) aNil) (stG sc d x2 x3 x4 x5 x6 (some (.z, rowT n w)) (some (.z, matT n l)) x9 x10 x11 x12 x13 x14 x15 x16) = some [rowT n w, matT n l] := rfl
    rw [q_vMake, h, Option.bind_some, dMake_ev (k := 3) rfl (season_ev k)]
  have h3 : vTup (aCons (v1 dLen (vVarZ 7)) (aCons (vMake 3 C (m_Season_init C) (aCons (vVarZ 7) (aCons (vVarZ 8) aNil))) aNil)) (stG sc d x2 x3 x4 x5 x6 (some (.z, rowT n w)) (some (.z, matT n l)) x9 x10 x11 x12 x13 x14 x15 x16) = some (.tup [.int n, seaD C n w l]) := by
    rw [q_vTup, q_aCons, q_aCons, h1, h2]; rfl
  rw [q_sAsg, q_up, h3]; rfl
theorem law_turn {sc d : D} (hd : WfD d) {x2 x3 x4 x5 x6 x7 x8 x9 x10 x11 x12 x13 x14 x15 x16 : Slot} (h6 : Pl x6) : ∃ d' y3 y4 y5 y6 y7 y8 y9 y10 y11 y12 y13 y14 y15 y16, WfD d' ∧ Pl y6 ∧
    fb_law_b2 C C2 (stG sc d x2 x3 x4 x5 x6 x7 x8 x9 x10 x11 x12 x13 x14 x15 x16) = some (.nx (stG sc d' x2 y3 y4 y5 y6 y7 y8 y9 y10 y11 y12 y13 y14 y15 y16)) := by
  obtain ⟨n, w, l, d1, hd1, k, h29, h3, e1⟩ := season_law_ev hd
  have hn := k.n12
  have z : Sml n w l := ⟨fun i hi => by have := h29 i hi; omega, h3⟩
  obtain ⟨b, hb, hbc⟩ := bound_spec k z
  obtain ⟨va, d2, e2, ha, hd2⟩ := draw_ev hd1 n k.n0 (by omega)
  obtain ⟨vb, d3, e3, hvb, hd3⟩ := draw_ev hd2 n k.n0 (by omega)
  have a3 : (sSet 3 .z (up (vCall (n := 2) m__law_lots (aCons (vVarZ 7) (aCons (vVarZ 8) aNil))))) (stT C sc d1 x2 n w l x3 x4 x5 x6 x11 x12 x13 x14 x15 x16) = some (.nx (stT C sc d1 x2 n w l (some (.z, lotsD n w l (2 ^ n))) x4 x5 x6 x11 x12 x13 x14 x15 x16)) := by
    rw [q_sSet, q_up, vCall_of (ds := [rowT n w, matT n l]) rfl rfl (lots_ev k)]; rfl
  have a4 : (sSet 4 .z (up fb_law_c1)) (stT C sc d1 x2 n w l (some (.z, lotsD n w l (2 ^ n))) x4 x5 x6 x11 x12 x13 x14 x15 x16) = some (.nx (stT C sc d1 x2 n w l (some (.z, lotsD n w l (2 ^ n))) (some (.z, mostD n w l)) x5 x6 x11 x12 x13 x14 x15 x16)) := by
    rw [q_sSet, q_up, law_c1 k sc d1 x2 x4 x5 x6 x11 x12 x13 x14 x15 x16 h6]; rfl
  have a5 : (sSet 5 (.seq .z) (up fb_law_c2)) (stT C sc d1 x2 n w l (some (.z, lotsD n w l (2 ^ n))) (some (.z, mostD n w l)) x5 x6 x11 x12 x13 x14 x15 x16) = some (.nx (stB C sc d1 x2 n w l x6 x11 x12 x13 x14 x15 x16)) := by
    rw [q_sSet, q_up, law_c2 k sc d1 x2 x5 x6 x11 x12 x13 x14 x15 x16 h6]; rfl
  have a6 := law_same (C := C) (C2 := C2) k z hb sc d1 x2 x6 x11 x12 x13 x14 x15 x16 h6
  have a7 : (sIf (upT (vB (v2 dNe (fb_law_c5 C C2) (vVarS 5)))) (sRet (up (vC (.bl false)))) sNext) (stB C sc d1 x2 n w l x6 x11 x12 x13 x14 x15 x16) = some (.nx (stB C sc d1 x2 n w l x6 x11 x12 x13 x14 x15 x16)) := by
    refine sIf_f (vB_of ?_)
    rw [q_v2, law_c5 k z hb hbc sc d1 x2 _ _ x6 x11 x12 x13 x14 x15 x16 h6, Option.bind_some]
    show dNe (canD n w l) (canD n w l) = _
    unfold canD
    rw [map_cast, dNe_lsts]; simp
  obtain ⟨ρ8, e8, y6, y11, hp8, rfl⟩ := forL_inv (g := gN 6) (b := fb_law_b1 C C2) (I := fun j : Nat => D.int j) (List.range n) (fun _ ρ => ∃ y6 y11, Pl y6 ∧ ρ = stB C sc d1 x2 n w l y6 y11 x12 x13 x14 x15 x16) (ρ := stB C sc d1 x2 n w l x6 x11 x12 x13 x14 x15 x16) (fun i j ρ hk ⟨y6, y11, _, e⟩ => by
    subst e
    obtain ⟨k1, k2⟩ := List.getElem?_eq_some_iff.mp hk
    simp at k1 k2
    subst k2
    obtain ⟨z11, hz⟩ := law_b1 (C := C) (C2 := C2) k z k1 sc d1 x2 y11 x12 x13 x14 x15 x16
    exact ⟨_, _, rfl, .inl hz, some (.z, .int i), z11, .inr ⟨_, rfl⟩, rfl⟩) ⟨x6, x11, h6, rfl⟩
  have a8 : (sFor (upI (vRng1 (aCons (vVarZ 9) aNil))) (gN 6) (fb_law_b1 C C2)) (stB C sc d1 x2 n w l x6 x11 x12 x13 x14 x15 x16) = some (.nx (stB C sc d1 x2 n w l y6 y11 x12 x13 x14 x15 x16)) := by
    rw [q_sFor, q_upI, rng1 (n := n) hn rfl]
    exact e8
  have a9 := turn_a9 (sc := sc) (x2 := x2) (x3 := some (.z, lotsD n w l (2 ^ n))) (x4 := some (.z, mostD n w l)) (x5 := some (.seq .z, canD n w l)) (x6 := y6) (x7 := some (.z, rowT n w)) (x8 := some (.z, matT n l)) (x10 := some (.z, seaD C n w l)) (x11 := y11) (x12 := x12) (x13 := x13) (x14 := x14) (x15 := x15) (x16 := x16) e2 e3
  have t10 : vB (v2 dGt (v2 dIx (v2 dIx (vVarZ 8) (vVarZ 12)) (vVarZ 13)) (vC (.int 0))) (stQ C sc d3 x2 n w l y6 y11 va vb x14 x15 x16) = some (decide (0 < l va vb)) := by
    refine vB_of ?_
    have e1 : dIx (matT n l) (.int va) = some (rowT n (l va)) := by simp [ha]
    have e2 : dIx (rowT n (l va)) (.int vb) = some (.int (l va vb)) := by simp [hvb]
    rw [q_v2, q_v2, q_v2]
    show (((dIx (matT n l) (.int va)).bind fun y => dIx y (.int vb)).bind fun x => dGt x (.int 0)) = _
    rw [e1, Option.bind_some, e2]
    rfl
  by_cases hp : 0 < l va vb
  · obtain ⟨y14, y15, y16, e10⟩ := law_block (C := C) (C2 := C2) k h29 h3 ha hvb hp sc d3 x2 y6 y11 x14 x15 x16 hp8
    refine ⟨d3, some (.z, lotsD n w l (2 ^ n)), some (.z, mostD n w l), some (.seq .z, canD n w l), y6, some (.z, rowT n w), some (.z, matT n l), some (.z, .int n), some (.z, seaD C n w l), y11, some (.z, .int va), some (.z, .int vb), y14, y15, y16, hd3, hp8, ?_⟩
    unfold fb_law_b2
    rw [sSeq_nx (turn_a1 e1), sSeq_nx (turn_a2 k), sSeq_nx a3, sSeq_nx a4, sSeq_nx a5, sSeq_nx a6, sSeq_nx a7, sSeq_nx a8, sSeq_nx a9, sIf_t _ t10, if_pos (decide_eq_true hp), e10]
  · refine ⟨d3, some (.z, lotsD n w l (2 ^ n)), some (.z, mostD n w l), some (.seq .z, canD n w l), y6, some (.z, rowT n w), some (.z, matT n l), some (.z, .int n), some (.z, seaD C n w l), y11, some (.z, .int va), some (.z, .int vb), x14, x15, x16, hd3, hp8, ?_⟩
    unfold fb_law_b2
    rw [sSeq_nx (turn_a1 e1), sSeq_nx (turn_a2 k), sSeq_nx a3, sSeq_nx a4, sSeq_nx a5, sSeq_nx a6, sSeq_nx a7, sSeq_nx a8, sSeq_nx a9, sIf_t _ t10, if_neg (by simp [hp])]
    rfl
theorem law_true (ns : List Int) : m_law C C2 [.lstK (ns.map .int)] = some (.bl true) := by
  obtain ⟨d0, e0, w0⟩ := draws_ev ns
  generalize D.lstK (ns.map .int) = sc at e0
  obtain ⟨ρ', e, d', y2, y3, y4, y5, y6, y7, y8, y9, y10, y11, y12, y13, y14, y15, y16, _, _, rfl⟩ := forL_inv (g := gN 2) (b := fb_law_b2 C C2) (I := fun j : Nat => D.int j) (List.range 2) (fun _ ρ => ∃ d' y2 y3 y4 y5 y6 y7 y8 y9 y10 y11 y12 y13 y14 y15 y16, WfD d' ∧ Pl y6 ∧ ρ = stG sc d' y2 y3 y4 y5 y6 y7 y8 y9 y10 y11 y12 y13 y14 y15 y16)
    (ρ := stG sc d0 none none none none none none none none none none none none none none none) (fun i j ρ hk ⟨d', y2, y3, y4, y5, y6, y7, y8, y9, y10, y11, y12, y13, y14, y15, y16, hw, hp, e⟩ => by
    subst e
    obtain ⟨d2, z3, z4, z5, z6, z7, z8, z9, z10, z11, z12, z13, z14, z15, z16, g1, g2, g3⟩ := law_turn (C := C) (C2 := C2) (sc := sc) hw (x2 := some (.z, .int j)) (x3 := y3) (x4 := y4) (x5 := y5) (x6 := y6) (x7 := y7) (x8 := y8) (x9 := y9) (x10 := y10) (x11 := y11) (x12 := y12) (x13 := y13) (x14 := y14) (x15 := y15) (x16 := y16) hp
    exact ⟨_, _, rfl, .inl g3, d2, _, z3, z4, z5, z6, z7, z8, z9, z10, z11, z12, z13, z14, z15, z16, g1, g2, rfl⟩) ⟨d0, none, none, none, none, none, none, none, none, none, none, none, none, none, none, none, w0, .inl rfl, rfl⟩
  have s1 : (sSet 1 (.seq .z) (up (vCall (n := 1) m__law_draws (aCons (vVarZ 0) aNil)))) [some (.z, sc), none, none, none, none, none, none, none, none, none, none, none, none, none, none, none, none, none] = some (.nx (stG sc d0 none none none none none none none none none none none none none none none)) := by
    rw [q_sSet, q_up, vCall_of (ds := [sc]) rfl rfl e0]; rfl
  have s2 : (sFor (upI (vRng1 (aCons (vC (.int 2)) aNil))) (gN 2) (fb_law_b2 C C2)) (stG sc d0 none none none none none none none none none none none none none none none) = some (.nx (stG sc d' y2 y3 y4 y5 y6 y7 y8 y9 y10 y11 y12 y13 y14 y15 y16)) := by
    rw [q_sFor, q_upI, rng1 (n := 2) (by decide) rfl]
    exact e
  have e9 : m_law C C2 [sc] = endP (fb_law C C2 [some (.z, sc), none, none, none, none, none, none, none, none, none, none, none, none, none, none, none, none, none]) := rfl
  rw [e9]
  unfold fb_law
  rw [sSeq_nx s1, sSeq_nx s2]
  rfl
end
end K06

set_option Elab.async false
set_option linter.all false
set_option maxRecDepth 100000
set_option maxHeartbeats 4000000
namespace K06
open PySem PySem.Spec PyProof.Rows L2 VL
def spLaw (K : PySem.W.Frag) : Sp := fun vs H Q _ => ∃ (a : Addr) (ns : List Int), vs = [.ref a] ∧ SqL K H a (ns.map V.int) ∧ ns.length ≤ 63 ∧ ∀ H', Q (.bl true) H'
theorem Rel.law {K : PySem.W.Frag} {H : Hp} {a : Addr} {ns : List Int} (h : SqL K H a (ns.map V.int)) : VL.Rel K (fun _ => none) (argZ [.lstK (ns.map .int)]) ([V.ref a].map some) H H := by
  refine ⟨fun _ => [], fun i s d q => ?_, fun _ => List.nodup_nil, fun i j b m => (by cases m), fun i b m => (by cases m), rfl, Same.refl _, fun b u e => (by cases e), fun b u e => rfl⟩
  cases i with
  | zero =>
    simp [argZ] at q
    obtain ⟨rfl, rfl⟩ := q
    refine ⟨_, rfl, ?_, rfl⟩
    simp only [Rp]
    exact ⟨a, _, rfl, h, RpL.ints ns⟩
  | succ i => simp [argZ] at q
theorem ok_lawS {P : Program} {w : World} {K : PySem.W.Frag} {mg : Str → Option Value} {base : Heap} {C_Season C_Shares f : Addr} {fd : FuncData} (Fo : FnOk P w K mg base CX0 9 f fd ["script"] (spP K 1 .z (m_law C_Season C_Shares))) : FnOk P w K mg base CX0 9 f fd ["script"] (spLaw K) := by
  refine Fo.imp fun vs H Q E ⟨a, ns, e, hS, hl, k⟩ => ?_
  subst e
  refine ⟨[.lstK (ns.map .int)], H, fun _ => none, .bl true, rfl, law_true ns, Rel.law hS, fun v H1 F1 _ R => ?_⟩
  obtain ⟨u, e1, e2⟩ := R.getz (i := 0) (d := .bl true) rfl
  have e3 : u = .bl true := by simpa only [Rp] using e2
  simp at e1
  subst e1 e3
  exact k H1
theorem all_mk {l : PySem.W.OpenLaw} {w : World} {K : PySem.W.Frag} {h : Heap} {mg : Str → Option Value} {fa C_Season C_Shares f0 f1 f2 f3 f4 f5 f6 f7 f8 f9 f10 f11 f12 f13 f14 f15 f16 f17 f18 f19 f20 f21 f22 f23 f24 f25 f26 f27 f28 f29 f30 f31 f32 f33 f34 f35 : Addr} (X : K.In h) (G : h.Ns mainGlobals mg) (hfa : mg "law" = some (.ref fa))
    {od0 an0 : Option Addr} {sl0 : Array (Option Value)} {oc0 kV0 dc0 pm0 cd0 ct0 : Value}
    {od1 an1 : Option Addr} {sl1 : Array (Option Value)} {oc1 kV1 dc1 pm1 cd1 ct1 : Value}
    {od2 an2 : Option Addr} {sl2 : Array (Option Value)} {oc2 kV2 dc2 pm2 cd2 ct2 : Value}
    {od3 an3 : Option Addr} {sl3 : Array (Option Value)} {oc3 kV3 dc3 pm3 cd3 ct3 : Value}
    {od4 an4 : Option Addr} {sl4 : Array (Option Value)} {oc4 kV4 dc4 pm4 cd4 ct4 : Value}
    {od5 an5 : Option Addr} {sl5 : Array (Option Value)} {oc5 kV5 dc5 pm5 cd5 ct5 : Value}
    {od6 an6 : Option Addr} {sl6 : Array (Option Value)} {oc6 kV6 dc6 pm6 cd6 ct6 : Value}
    {od7 an7 : Option Addr} {sl7 : Array (Option Value)} {oc7 kV7 dc7 pm7 cd7 ct7 : Value}
    {od8 an8 : Option Addr} {sl8 : Array (Option Value)} {oc8 kV8 dc8 pm8 cd8 ct8 : Value}
    {od9 an9 : Option Addr} {sl9 : Array (Option Value)} {oc9 kV9 dc9 pm9 cd9 ct9 : Value}
    {od10 an10 : Option Addr} {sl10 : Array (Option Value)} {oc10 kV10 dc10 pm10 cd10 ct10 : Value}
    {od11 an11 : Option Addr} {sl11 : Array (Option Value)} {oc11 kV11 dc11 pm11 cd11 ct11 : Value}
    {od12 an12 : Option Addr} {sl12 : Array (Option Value)} {oc12 kV12 dc12 pm12 cd12 ct12 : Value}
    {od13 an13 : Option Addr} {sl13 : Array (Option Value)} {oc13 kV13 dc13 pm13 cd13 ct13 : Value}
    {od14 an14 : Option Addr} {sl14 : Array (Option Value)} {oc14 kV14 dc14 pm14 cd14 ct14 : Value}
    {od15 an15 : Option Addr} {sl15 : Array (Option Value)} {oc15 kV15 dc15 pm15 cd15 ct15 : Value}
    {od16 an16 : Option Addr} {sl16 : Array (Option Value)} {oc16 kV16 dc16 pm16 cd16 ct16 : Value}
    {od17 an17 : Option Addr} {sl17 : Array (Option Value)} {oc17 kV17 dc17 pm17 cd17 ct17 : Value}
    {od18 an18 : Option Addr} {sl18 : Array (Option Value)} {oc18 kV18 dc18 pm18 cd18 ct18 : Value}
    {od19 an19 : Option Addr} {sl19 : Array (Option Value)} {oc19 kV19 dc19 pm19 cd19 ct19 : Value}
    {od20 an20 : Option Addr} {sl20 : Array (Option Value)} {oc20 kV20 dc20 pm20 cd20 ct20 : Value}
    {od21 an21 : Option Addr} {sl21 : Array (Option Value)} {oc21 kV21 dc21 pm21 cd21 ct21 : Value}
    {od22 an22 : Option Addr} {sl22 : Array (Option Value)} {oc22 kV22 dc22 pm22 cd22 ct22 : Value}
    {od23 an23 : Option Addr} {sl23 : Array (Option Value)} {oc23 kV23 dc23 pm23 cd23 ct23 : Value}
    {od24 an24 : Option Addr} {sl24 : Array (Option Value)} {oc24 kV24 dc24 pm24 cd24 ct24 : Value}
    {od25 an25 : Option Addr} {sl25 : Array (Option Value)} {oc25 kV25 dc25 pm25 cd25 ct25 : Value}
    {od26 an26 : Option Addr} {sl26 : Array (Option Value)} {oc26 kV26 dc26 pm26 cd26 ct26 : Value}
    {od27 an27 : Option Addr} {sl27 : Array (Option Value)} {oc27 kV27 dc27 pm27 cd27 ct27 : Value}
    {od28 an28 : Option Addr} {sl28 : Array (Option Value)} {oc28 kV28 dc28 pm28 cd28 ct28 : Value}
    {od29 an29 : Option Addr} {sl29 : Array (Option Value)} {oc29 kV29 dc29 pm29 cd29 ct29 : Value}
    {od30 an30 : Option Addr} {sl30 : Array (Option Value)} {oc30 kV30 dc30 pm30 cd30 ct30 : Value}
    {od31 an31 : Option Addr} {sl31 : Array (Option Value)} {oc31 kV31 dc31 pm31 cd31 ct31 : Value}
    {od32 an32 : Option Addr} {sl32 : Array (Option Value)} {oc32 kV32 dc32 pm32 cd32 ct32 : Value}
    {od33 an33 : Option Addr} {sl33 : Array (Option Value)} {oc33 kV33 dc33 pm33 cd33 ct33 : Value}
    {od34 an34 : Option Addr} {sl34 : Array (Option Value)} {oc34 kV34 dc34 pm34 cd34 ct34 : Value}
    {od35 an35 : Option Addr} {sl35 : Array (Option Value)} {oc35 kV35 dc35 pm35 cd35 ct35 : Value}
    {tc_MOST_SIDES : Tok}
    {tc_MOST_WINS : Tok}
    (aC_Season : PySem.W.nsIn K mainGlobals "Season" = some (some (.ref C_Season)))
    (aC_Shares : PySem.W.nsIn K mainGlobals "Shares" = some (some (.ref C_Shares)))
    (a0 : PySem.W.nsIn K mainGlobals "is_integer" = some (some (.ref f0)))
    (l0 : K.lookup f0 = some ⟨oc0, od0, .func (PySem.W.fnOf "is_integer" "is_integer" (defArgs st_is_integer) (defBody st_is_integer) (defScope st_is_integer) .none kV0 dc0 pm0 an0 cd0 ct0), sl0⟩)
    (c0 : PySem.W.codeIn K cd0 "is_integer" = true)
    (k0 : PySem.W.keepIn K (.ref f0) = true)
    (a1 : PySem.W.nsIn K mainGlobals "is_count" = some (some (.ref f1)))
    (l1 : K.lookup f1 = some ⟨oc1, od1, .func (PySem.W.fnOf "is_count" "is_count" (defArgs st_is_count) (defBody st_is_count) (defScope st_is_count) .none kV1 dc1 pm1 an1 cd1 ct1), sl1⟩)
    (c1 : PySem.W.codeIn K cd1 "is_count" = true)
    (k1 : PySem.W.keepIn K (.ref f1) = true)
    (a2 : PySem.W.nsIn K mainGlobals "is_left" = some (some (.ref f2)))
    (l2 : K.lookup f2 = some ⟨oc2, od2, .func (PySem.W.fnOf "is_left" "is_left" (defArgs st_is_left) (defBody st_is_left) (defScope st_is_left) .none kV2 dc2 pm2 an2 cd2 ct2), sl2⟩)
    (c2 : PySem.W.codeIn K cd2 "is_left" = true)
    (k2 : PySem.W.keepIn K (.ref f2) = true)
    (a3 : PySem.W.findIn K (.ref C_Season) "__init__" = some (some (.ref f3)))
    (i3 : PySem.W.isFn K (.ref f3) = true)
    (l3 : K.lookup f3 = some ⟨oc3, od3, .func (PySem.W.fnOf "__init__" "Season.__init__" (defArgs st_Season_init) (defBody st_Season_init) (defScope st_Season_init) .none kV3 dc3 pm3 an3 cd3 ct3), sl3⟩)
    (c3 : PySem.W.codeIn K cd3 "Season.__init__" = true)
    (k3 : PySem.W.keepIn K (.ref f3) = true)
    (a4 : PySem.W.findIn K (.ref C_Season) "matches" = some (some (.ref f4)))
    (i4 : PySem.W.isFn K (.ref f4) = true)
    (l4 : K.lookup f4 = some ⟨oc4, od4, .func (PySem.W.fnOf "matches" "Season.matches" (defArgs st_Season_matches) (defBody st_Season_matches) (defScope st_Season_matches) .none kV4 dc4 pm4 an4 cd4 ct4), sl4⟩)
    (c4 : PySem.W.codeIn K cd4 "Season.matches" = true)
    (k4 : PySem.W.keepIn K (.ref f4) = true)
    (a5 : PySem.W.findIn K (.ref C_Season) "most" = some (some (.ref f5)))
    (i5 : PySem.W.isFn K (.ref f5) = true)
    (l5 : K.lookup f5 = some ⟨oc5, od5, .func (PySem.W.fnOf "most" "Season.most" (defArgs st_Season_most) (defBody st_Season_most) (defScope st_Season_most) .none kV5 dc5 pm5 an5 cd5 ct5), sl5⟩)
    (c5 : PySem.W.codeIn K cd5 "Season.most" = true)
    (k5 : PySem.W.keepIn K (.ref f5) = true)
    (a6 : PySem.W.nsIn K mainGlobals "look_at_side" = some (some (.ref f6)))
    (l6 : K.lookup f6 = some ⟨oc6, od6, .func (PySem.W.fnOf "look_at_side" "look_at_side" (defArgs st_look_at_side) (defBody st_look_at_side) (defScope st_look_at_side) .none kV6 dc6 pm6 an6 cd6 ct6), sl6⟩)
    (c6 : PySem.W.codeIn K cd6 "look_at_side" = true)
    (k6 : PySem.W.keepIn K (.ref f6) = true)
    (a7 : PySem.W.findIn K (.ref C_Shares) "__init__" = some (some (.ref f7)))
    (i7 : PySem.W.isFn K (.ref f7) = true)
    (l7 : K.lookup f7 = some ⟨oc7, od7, .func (PySem.W.fnOf "__init__" "Shares.__init__" (defArgs st_Shares_init) (defBody st_Shares_init) (defScope st_Shares_init) .none kV7 dc7 pm7 an7 cd7 ct7), sl7⟩)
    (c7 : PySem.W.codeIn K cd7 "Shares.__init__" = true)
    (k7 : PySem.W.keepIn K (.ref f7) = true)
    (a8 : PySem.W.findIn K (.ref C_Shares) "wins" = some (some (.ref f8)))
    (i8 : PySem.W.isFn K (.ref f8) = true)
    (l8 : K.lookup f8 = some ⟨oc8, od8, .func (PySem.W.fnOf "wins" "Shares.wins" (defArgs st_Shares_wins) (defBody st_Shares_wins) (defScope st_Shares_wins) .none kV8 dc8 pm8 an8 cd8 ct8), sl8⟩)
    (c8 : PySem.W.codeIn K cd8 "Shares.wins" = true)
    (k8 : PySem.W.keepIn K (.ref f8) = true)
    (a9 : PySem.W.findIn K (.ref C_Shares) "over" = some (some (.ref f9)))
    (i9 : PySem.W.isFn K (.ref f9) = true)
    (l9 : K.lookup f9 = some ⟨oc9, od9, .func (PySem.W.fnOf "over" "Shares.over" (defArgs st_Shares_over) (defBody st_Shares_over) (defScope st_Shares_over) .none kV9 dc9 pm9 an9 cd9 ct9), sl9⟩)
    (c9 : PySem.W.codeIn K cd9 "Shares.over" = true)
    (k9 : PySem.W.keepIn K (.ref f9) = true)
    (a10 : PySem.W.findIn K (.ref C_Shares) "reached" = some (some (.ref f10)))
    (i10 : PySem.W.isFn K (.ref f10) = true)
    (l10 : K.lookup f10 = some ⟨oc10, od10, .func (PySem.W.fnOf "reached" "Shares.reached" (defArgs st_Shares_reached) (defBody st_Shares_reached) (defScope st_Shares_reached) .none kV10 dc10 pm10 an10 cd10 ct10), sl10⟩)
    (c10 : PySem.W.codeIn K cd10 "Shares.reached" = true)
    (k10 : PySem.W.keepIn K (.ref f10) = true)
    (a11 : PySem.W.findIn K (.ref C_Shares) "hand_on" = some (some (.ref f11)))
    (i11 : PySem.W.isFn K (.ref f11) = true)
    (l11 : K.lookup f11 = some ⟨oc11, od11, .func (PySem.W.fnOf "hand_on" "Shares.hand_on" (defArgs st_Shares_hand_on) (defBody st_Shares_hand_on) (defScope st_Shares_hand_on) .none kV11 dc11 pm11 an11 cd11 ct11), sl11⟩)
    (c11 : PySem.W.codeIn K cd11 "Shares.hand_on" = true)
    (k11 : PySem.W.keepIn K (.ref f11) = true)
    (a12 : PySem.W.findIn K (.ref C_Shares) "room_on" = some (some (.ref f12)))
    (i12 : PySem.W.isFn K (.ref f12) = true)
    (l12 : K.lookup f12 = some ⟨oc12, od12, .func (PySem.W.fnOf "room_on" "Shares.room_on" (defArgs st_Shares_room_on) (defBody st_Shares_room_on) (defScope st_Shares_room_on) .none kV12 dc12 pm12 an12 cd12 ct12), sl12⟩)
    (c12 : PySem.W.codeIn K cd12 "Shares.room_on" = true)
    (k12 : PySem.W.keepIn K (.ref f12) = true)
    (a13 : PySem.W.nsIn K mainGlobals "decide_first" = some (some (.ref f13)))
    (l13 : K.lookup f13 = some ⟨oc13, od13, .func (PySem.W.fnOf "decide_first" "decide_first" (defArgs st_decide_first) (defBody st_decide_first) (defScope st_decide_first) .none kV13 dc13 pm13 an13 cd13 ct13), sl13⟩)
    (c13 : PySem.W.codeIn K cd13 "decide_first" = true)
    (k13 : PySem.W.keepIn K (.ref f13) = true)
    (a14 : PySem.W.nsIn K mainGlobals "can_be_first" = some (some (.ref f14)))
    (l14 : K.lookup f14 = some ⟨oc14, od14, .func (PySem.W.fnOf "can_be_first" "can_be_first" (defArgs st_can_be_first) (defBody st_can_be_first) (defScope st_can_be_first) .none kV14 dc14 pm14 an14 cd14 ct14), sl14⟩)
    (c14 : PySem.W.codeIn K cd14 "can_be_first" = true)
    (k14 : PySem.W.keepIn K (.ref f14) = true)
    (a15 : PySem.W.nsIn K mainGlobals "still_first" = some (some (.ref f15)))
    (l15 : K.lookup f15 = some ⟨oc15, od15, .func (PySem.W.fnOf "still_first" "still_first" (defArgs st_still_first) (defBody st_still_first) (defScope st_still_first) .none kV15 dc15 pm15 an15 cd15 ct15), sl15⟩)
    (c15 : PySem.W.codeIn K cd15 "still_first" = true)
    (k15 : PySem.W.keepIn K (.ref f15) = true)
    (a16 : PySem.W.nsIn K mainGlobals "is_won" = some (some (.ref f16)))
    (l16 : K.lookup f16 = some ⟨oc16, od16, .func (PySem.W.fnOf "is_won" "is_won" (defArgs st_is_won) (defBody st_is_won) (defScope st_is_won) .none kV16 dc16 pm16 an16 cd16 ct16), sl16⟩)
    (c16 : PySem.W.codeIn K cd16 "is_won" = true)
    (k16 : PySem.W.keepIn K (.ref f16) = true)
    (a17 : PySem.W.nsIn K mainGlobals "lot_right" = some (some (.ref f17)))
    (l17 : K.lookup f17 = some ⟨oc17, od17, .func (PySem.W.fnOf "lot_right" "lot_right" (defArgs st_lot_right) (defBody st_lot_right) (defScope st_lot_right) .none kV17 dc17 pm17 an17 cd17 ct17), sl17⟩)
    (c17 : PySem.W.codeIn K cd17 "lot_right" = true)
    (k17 : PySem.W.keepIn K (.ref f17) = true)
    (a18 : PySem.W.nsIn K mainGlobals "first_right" = some (some (.ref f18)))
    (l18 : K.lookup f18 = some ⟨oc18, od18, .func (PySem.W.fnOf "first_right" "first_right" (defArgs st_first_right) (defBody st_first_right) (defScope st_first_right) .none kV18 dc18 pm18 an18 cd18 ct18), sl18⟩)
    (c18 : PySem.W.codeIn K cd18 "first_right" = true)
    (k18 : PySem.W.keepIn K (.ref f18) = true)
    (a19 : PySem.W.nsIn K mainGlobals "bound" = some (some (.ref f19)))
    (l19 : K.lookup f19 = some ⟨oc19, od19, .func (PySem.W.fnOf "bound" "bound" (defArgs st_bound) (defBody st_bound) (defScope st_bound) .none kV19 dc19 pm19 an19 cd19 ct19), sl19⟩)
    (c19 : PySem.W.codeIn K cd19 "bound" = true)
    (k19 : PySem.W.keepIn K (.ref f19) = true)
    (a20 : PySem.W.nsIn K mainGlobals "surely_first" = some (some (.ref f20)))
    (l20 : K.lookup f20 = some ⟨oc20, od20, .func (PySem.W.fnOf "surely_first" "surely_first" (defArgs st_surely_first) (defBody st_surely_first) (defScope st_surely_first) .none kV20 dc20 pm20 an20 cd20 ct20), sl20⟩)
    (c20 : PySem.W.codeIn K cd20 "surely_first" = true)
    (k20 : PySem.W.keepIn K (.ref f20) = true)
    (a21 : PySem.W.nsIn K mainGlobals "most_against" = some (some (.ref f21)))
    (l21 : K.lookup f21 = some ⟨oc21, od21, .func (PySem.W.fnOf "most_against" "most_against" (defArgs st_most_against) (defBody st_most_against) (defScope st_most_against) .none kV21 dc21 pm21 an21 cd21 ct21), sl21⟩)
    (c21 : PySem.W.codeIn K cd21 "most_against" = true)
    (k21 : PySem.W.keepIn K (.ref f21) = true)
    (a22 : PySem.W.nsIn K mainGlobals "wins_that_do" = some (some (.ref f22)))
    (l22 : K.lookup f22 = some ⟨oc22, od22, .func (PySem.W.fnOf "wins_that_do" "wins_that_do" (defArgs st_wins_that_do) (defBody st_wins_that_do) (defScope st_wins_that_do) .none kV22 dc22 pm22 an22 cd22 ct22), sl22⟩)
    (c22 : PySem.W.codeIn K cd22 "wins_that_do" = true)
    (k22 : PySem.W.keepIn K (.ref f22) = true)
    (a23 : PySem.W.nsIn K mainGlobals "with_match" = some (some (.ref f23)))
    (l23 : K.lookup f23 = some ⟨oc23, od23, .func (PySem.W.fnOf "with_match" "with_match" (defArgs st_with_match) (defBody st_with_match) (defScope st_with_match) .none kV23 dc23 pm23 an23 cd23 ct23), sl23⟩)
    (c23 : PySem.W.codeIn K cd23 "with_match" = true)
    (k23 : PySem.W.keepIn K (.ref f23) = true)
    (a24 : PySem.W.nsIn K mainGlobals "_law_draws" = some (some (.ref f24)))
    (l24 : K.lookup f24 = some ⟨oc24, od24, .func (PySem.W.fnOf "_law_draws" "_law_draws" (defArgs st__law_draws) (defBody st__law_draws) (defScope st__law_draws) .none kV24 dc24 pm24 an24 cd24 ct24), sl24⟩)
    (c24 : PySem.W.codeIn K cd24 "_law_draws" = true)
    (k24 : PySem.W.keepIn K (.ref f24) = true)
    (a25 : PySem.W.nsIn K mainGlobals "_law_draw" = some (some (.ref f25)))
    (l25 : K.lookup f25 = some ⟨oc25, od25, .func (PySem.W.fnOf "_law_draw" "_law_draw" (defArgs st__law_draw) (defBody st__law_draw) (defScope st__law_draw) .none kV25 dc25 pm25 an25 cd25 ct25), sl25⟩)
    (c25 : PySem.W.codeIn K cd25 "_law_draw" = true)
    (k25 : PySem.W.keepIn K (.ref f25) = true)
    (a26 : PySem.W.nsIn K mainGlobals "_law_same" = some (some (.ref f26)))
    (l26 : K.lookup f26 = some ⟨oc26, od26, .func (PySem.W.fnOf "_law_same" "_law_same" (defArgs st__law_same) (defBody st__law_same) (defScope st__law_same) .none kV26 dc26 pm26 an26 cd26 ct26), sl26⟩)
    (c26 : PySem.W.codeIn K cd26 "_law_same" = true)
    (k26 : PySem.W.keepIn K (.ref f26) = true)
    (a27 : PySem.W.nsIn K mainGlobals "_law_pick" = some (some (.ref f27)))
    (l27 : K.lookup f27 = some ⟨oc27, od27, .func (PySem.W.fnOf "_law_pick" "_law_pick" (defArgs st__law_pick) (defBody st__law_pick) (defScope st__law_pick) .none kV27 dc27 pm27 an27 cd27 ct27), sl27⟩)
    (c27 : PySem.W.codeIn K cd27 "_law_pick" = true)
    (k27 : PySem.W.keepIn K (.ref f27) = true)
    (a28 : PySem.W.nsIn K mainGlobals "_law_season" = some (some (.ref f28)))
    (l28 : K.lookup f28 = some ⟨oc28, od28, .func (PySem.W.fnOf "_law_season" "_law_season" (defArgs st__law_season) (defBody st__law_season) (defScope st__law_season) .none kV28 dc28 pm28 an28 cd28 ct28), sl28⟩)
    (c28 : PySem.W.codeIn K cd28 "_law_season" = true)
    (k28 : PySem.W.keepIn K (.ref f28) = true)
    (a29 : PySem.W.nsIn K mainGlobals "_law_lots" = some (some (.ref f29)))
    (l29 : K.lookup f29 = some ⟨oc29, od29, .func (PySem.W.fnOf "_law_lots" "_law_lots" (defArgs st__law_lots) (defBody st__law_lots) (defScope st__law_lots) .none kV29 dc29 pm29 an29 cd29 ct29), sl29⟩)
    (c29 : PySem.W.codeIn K cd29 "_law_lots" = true)
    (k29 : PySem.W.keepIn K (.ref f29) = true)
    (a30 : PySem.W.nsIn K mainGlobals "_law_can" = some (some (.ref f30)))
    (l30 : K.lookup f30 = some ⟨oc30, od30, .func (PySem.W.fnOf "_law_can" "_law_can" (defArgs st__law_can) (defBody st__law_can) (defScope st__law_can) .none kV30 dc30 pm30 an30 cd30 ct30), sl30⟩)
    (c30 : PySem.W.codeIn K cd30 "_law_can" = true)
    (k30 : PySem.W.keepIn K (.ref f30) = true)
    (a31 : PySem.W.nsIn K mainGlobals "_law_both" = some (some (.ref f31)))
    (l31 : K.lookup f31 = some ⟨oc31, od31, .func (PySem.W.fnOf "_law_both" "_law_both" (defArgs st__law_both) (defBody st__law_both) (defScope st__law_both) .none kV31 dc31 pm31 an31 cd31 ct31), sl31⟩)
    (c31 : PySem.W.codeIn K cd31 "_law_both" = true)
    (k31 : PySem.W.keepIn K (.ref f31) = true)
    (a32 : PySem.W.nsIn K mainGlobals "_law_paper" = some (some (.ref f32)))
    (l32 : K.lookup f32 = some ⟨oc32, od32, .func (PySem.W.fnOf "_law_paper" "_law_paper" (defArgs st__law_paper) (defBody st__law_paper) (defScope st__law_paper) .none kV32 dc32 pm32 an32 cd32 ct32), sl32⟩)
    (c32 : PySem.W.codeIn K cd32 "_law_paper" = true)
    (k32 : PySem.W.keepIn K (.ref f32) = true)
    (a33 : PySem.W.nsIn K mainGlobals "_law_surely" = some (some (.ref f33)))
    (l33 : K.lookup f33 = some ⟨oc33, od33, .func (PySem.W.fnOf "_law_surely" "_law_surely" (defArgs st__law_surely) (defBody st__law_surely) (defScope st__law_surely) .none kV33 dc33 pm33 an33 cd33 ct33), sl33⟩)
    (c33 : PySem.W.codeIn K cd33 "_law_surely" = true)
    (k33 : PySem.W.keepIn K (.ref f33) = true)
    (a34 : PySem.W.nsIn K mainGlobals "_law_do" = some (some (.ref f34)))
    (l34 : K.lookup f34 = some ⟨oc34, od34, .func (PySem.W.fnOf "_law_do" "_law_do" (defArgs st__law_do) (defBody st__law_do) (defScope st__law_do) .none kV34 dc34 pm34 an34 cd34 ct34), sl34⟩)
    (c34 : PySem.W.codeIn K cd34 "_law_do" = true)
    (k34 : PySem.W.keepIn K (.ref f34) = true)
    (a35 : PySem.W.nsIn K mainGlobals "law" = some (some (.ref f35)))
    (l35 : K.lookup f35 = some ⟨oc35, od35, .func (PySem.W.fnOf "law" "law" (defArgs st_law) (defBody st_law) (defScope st_law) .none kV35 dc35 pm35 an35 cd35 ct35), sl35⟩)
    (c35 : PySem.W.codeIn K cd35 "law" = true)
    (k35 : PySem.W.keepIn K (.ref f35) = true)
    (pg_Season : PySem.W.plainGet K C_Season Str.empty = true)
    (hd_Season : PySem.W.hasDictIn K C_Season = true)
    (po_Season : PySem.W.plainOver K C_Season = true)
    (sa_Season : PySem.W.findIn K (.ref C_Season) "__setattr__" = some (some (.builtin "object.__setattr__")))
    (mk_Season : PySem.W.makesIn K C_Season = true)
    (kc_Season : PySem.W.keepIn K (.ref C_Season) = true)
    (pg_Shares : PySem.W.plainGet K C_Shares Str.empty = true)
    (hd_Shares : PySem.W.hasDictIn K C_Shares = true)
    (po_Shares : PySem.W.plainOver K C_Shares = true)
    (sa_Shares : PySem.W.findIn K (.ref C_Shares) "__setattr__" = some (some (.builtin "object.__setattr__")))
    (mk_Shares : PySem.W.makesIn K C_Shares = true)
    (kc_Shares : PySem.W.keepIn K (.ref C_Shares) = true)
    (zb_all : PySem.W.nsIn K mainGlobals "all" = some none)
    (zb_bool : PySem.W.nsIn K mainGlobals "bool" = some none)
    (zb_enumerate : PySem.W.nsIn K mainGlobals "enumerate" = some none)
    (zb_int : PySem.W.nsIn K mainGlobals "int" = some none)
    (zb_isinstance : PySem.W.nsIn K mainGlobals "isinstance" = some none)
    (zb_len : PySem.W.nsIn K mainGlobals "len" = some none)
    (zb_list : PySem.W.nsIn K mainGlobals "list" = some none)
    (zb_max : PySem.W.nsIn K mainGlobals "max" = some none)
    (zb_min : PySem.W.nsIn K mainGlobals "min" = some none)
    (zb_range : PySem.W.nsIn K mainGlobals "range" = some none)
    (zb_set : PySem.W.nsIn K mainGlobals "set" = some none)
    (zb_sorted : PySem.W.nsIn K mainGlobals "sorted" = some none)
    (zb_str : PySem.W.nsIn K mainGlobals "str" = some none)
    (zb_sum : PySem.W.nsIn K mainGlobals "sum" = some none)
    (zb_tuple : PySem.W.nsIn K mainGlobals "tuple" = some none)
    (zb_zip : PySem.W.nsIn K mainGlobals "zip" = some none)
    (zc_MOST_SIDES : PySem.W.nsIn K mainGlobals "MOST_SIDES" = some (some (.int 12 tc_MOST_SIDES)))
    (zc_MOST_WINS : PySem.W.nsIn K mainGlobals "MOST_WINS" = some (some (.int 100000 tc_MOST_WINS)))
    (zf_Season_left : PySem.W.findIn K (.ref C_Season) "left" = some none)
    (zf_Season_size : PySem.W.findIn K (.ref C_Season) "size" = some none)
    (zf_Season_wins : PySem.W.findIn K (.ref C_Season) "wins" = some none)
    (zf_Shares_most : PySem.W.findIn K (.ref C_Shares) "most" = some none)
    (zf_Shares_season : PySem.W.findIn K (.ref C_Shares) "season" = some none)
    (zf_Shares_won : PySem.W.findIn K (.ref C_Shares) "won" = some none) :
    ∃ fd : FuncData, (∀ (s : Shared) (v : Value), BindsTo s fd ⟨[v], []⟩ [("script", v)]) ∧ ∀ base : Heap, K.In base → base.Ns mainGlobals mg → FnOk l.prog w K mg base CX0 9 fa fd ["script"] (spLaw K) := by
  have e := hfa.symm.trans (PySem.W.mg_of X G a35)
  cases e
  have T : Txt K mg C_Season C_Shares := ⟨PySem.W.mg_none_of X G zb_all, PySem.W.mg_none_of X G zb_bool, PySem.W.mg_none_of X G zb_enumerate, PySem.W.mg_none_of X G zb_int, PySem.W.mg_none_of X G zb_isinstance, PySem.W.mg_none_of X G zb_len, PySem.W.mg_none_of X G zb_list, PySem.W.mg_none_of X G zb_max, PySem.W.mg_none_of X G zb_min, PySem.W.mg_none_of X G zb_range, PySem.W.mg_none_of X G zb_set, PySem.W.mg_none_of X G zb_sorted, PySem.W.mg_none_of X G zb_str, PySem.W.mg_none_of X G zb_sum, PySem.W.mg_none_of X G zb_tuple, PySem.W.mg_none_of X G zb_zip, ⟨_, PySem.W.mg_of X G zc_MOST_SIDES⟩, ⟨_, PySem.W.mg_of X G zc_MOST_WINS⟩, ⟨⟨pg_Season, hd_Season, po_Season, sa_Season⟩, zf_Season_left⟩, ⟨⟨pg_Season, hd_Season, po_Season, sa_Season⟩, zf_Season_size⟩, ⟨⟨pg_Season, hd_Season, po_Season, sa_Season⟩, zf_Season_wins⟩, ⟨⟨pg_Shares, hd_Shares, po_Shares, sa_Shares⟩, zf_Shares_most⟩, ⟨⟨pg_Shares, hd_Shares, po_Shares, sa_Shares⟩, zf_Shares_season⟩, ⟨⟨pg_Shares, hd_Shares, po_Shares, sa_Shares⟩, zf_Shares_won⟩, ⟨pg_Season, hd_Season, po_Season, sa_Season⟩, ⟨pg_Shares, hd_Shares, po_Shares, sa_Shares⟩⟩
  have F0 := fun_mk (st := st_is_integer) l0 c0 k0
  have b0 := F0.binds (ps := ["value"]) fun _ _ _ _ _ _ us hl => match us, hl with | [_], _ => rfl
  have F1 := fun_mk (st := st_is_count) l1 c1 k1
  have b1 := F1.binds (ps := ["value"]) fun _ _ _ _ _ _ us hl => match us, hl with | [_], _ => rfl
  have F2 := fun_mk (st := st_is_left) l2 c2 k2
  have b2 := F2.binds (ps := ["size", "value"]) fun _ _ _ _ _ _ us hl => match us, hl with | [_, _], _ => rfl
  have F3 := fun_mk (st := st_Season_init) l3 c3 k3
  have b3 := F3.binds (ps := ["self", "wins", "left"]) fun _ _ _ _ _ _ us hl => match us, hl with | [_, _, _], _ => rfl
  have F4 := fun_mk (st := st_Season_matches) l4 c4 k4
  have b4 := F4.binds (ps := ["self", "side"]) fun _ _ _ _ _ _ us hl => match us, hl with | [_, _], _ => rfl
  have F5 := fun_mk (st := st_Season_most) l5 c5 k5
  have b5 := F5.binds (ps := ["self", "side"]) fun _ _ _ _ _ _ us hl => match us, hl with | [_, _], _ => rfl
  have F6 := fun_mk (st := st_look_at_side) l6 c6 k6
  have b6 := F6.binds (ps := ["season", "side"]) fun _ _ _ _ _ _ us hl => match us, hl with | [_, _], _ => rfl
  have F7 := fun_mk (st := st_Shares_init) l7 c7 k7
  have b7 := F7.binds (ps := ["self", "season", "side"]) fun _ _ _ _ _ _ us hl => match us, hl with | [_, _, _], _ => rfl
  have F8 := fun_mk (st := st_Shares_wins) l8 c8 k8
  have b8 := F8.binds (ps := ["self", "side"]) fun _ _ _ _ _ _ us hl => match us, hl with | [_, _], _ => rfl
  have F9 := fun_mk (st := st_Shares_over) l9 c9 k9
  have b9 := F9.binds (ps := ["self"]) fun _ _ _ _ _ _ us hl => match us, hl with | [_], _ => rfl
  have F10 := fun_mk (st := st_Shares_reached) l10 c10 k10
  have b10 := F10.binds (ps := ["self", "side"]) fun _ _ _ _ _ _ us hl => match us, hl with | [_, _], _ => rfl
  have F11 := fun_mk (st := st_Shares_hand_on) l11 c11 k11
  have b11 := F11.binds (ps := ["self", "ways", "side", "other", "many"]) fun _ _ _ _ _ _ us hl => match us, hl with | [_, _, _, _, _], _ => rfl
  have F12 := fun_mk (st := st_Shares_room_on) l12 c12 k12
  have b12 := F12.binds (ps := ["self", "ways", "side", "other"]) fun _ _ _ _ _ _ us hl => match us, hl with | [_, _, _, _], _ => rfl
  have F13 := fun_mk (st := st_decide_first) l13 c13 k13
  have b13 := F13.binds (ps := ["season", "side"]) fun _ _ _ _ _ _ us hl => match us, hl with | [_, _], _ => rfl
  have F14 := fun_mk (st := st_can_be_first) l14 c14 k14
  have b14 := F14.binds (ps := ["season", "side"]) fun _ _ _ _ _ _ us hl => match us, hl with | [_, _], _ => rfl
  have F15 := fun_mk (st := st_still_first) l15 c15 k15
  have b15 := F15.binds (ps := ["season"]) fun _ _ _ _ _ _ us hl => match us, hl with | [_], _ => rfl
  have F16 := fun_mk (st := st_is_won) l16 c16 k16
  have b16 := F16.binds (ps := ["season", "value"]) fun _ _ _ _ _ _ us hl => match us, hl with | [_, _], _ => rfl
  have F17 := fun_mk (st := st_lot_right) l17 c17 k17
  have b17 := F17.binds (ps := ["season", "side", "lot"]) fun _ _ _ _ _ _ us hl => match us, hl with | [_, _, _], _ => rfl
  have F18 := fun_mk (st := st_first_right) l18 c18 k18
  have b18 := F18.binds (ps := ["season", "side", "paper"]) fun _ _ _ _ _ _ us hl => match us, hl with | [_, _, _], _ => rfl
  have F19 := fun_mk (st := st_bound) l19 c19 k19
  have b19 := F19.binds (ps := ["season"]) fun _ _ _ _ _ _ us hl => match us, hl with | [_], _ => rfl
  have F20 := fun_mk (st := st_surely_first) l20 c20 k20
  have b20 := F20.binds (ps := ["season", "side"]) fun _ _ _ _ _ _ us hl => match us, hl with | [_, _], _ => rfl
  have F21 := fun_mk (st := st_most_against) l21 c21 k21
  have b21 := F21.binds (ps := ["season", "side", "other", "many"]) fun _ _ _ _ _ _ us hl => match us, hl with | [_, _, _, _], _ => rfl
  have F22 := fun_mk (st := st_wins_that_do) l22 c22 k22
  have b22 := F22.binds (ps := ["season", "side"]) fun _ _ _ _ _ _ us hl => match us, hl with | [_, _], _ => rfl
  have F23 := fun_mk (st := st_with_match) l23 c23 k23
  have b23 := F23.binds (ps := ["season", "winner", "loser"]) fun _ _ _ _ _ _ us hl => match us, hl with | [_, _, _], _ => rfl
  have F24 := fun_mk (st := st__law_draws) l24 c24 k24
  have b24 := F24.binds (ps := ["script"]) fun _ _ _ _ _ _ us hl => match us, hl with | [_], _ => rfl
  have F25 := fun_mk (st := st__law_draw) l25 c25 k25
  have b25 := F25.binds (ps := ["draws", "limit"]) fun _ _ _ _ _ _ us hl => match us, hl with | [_, _], _ => rfl
  have F26 := fun_mk (st := st__law_same) l26 c26 k26
  have b26 := F26.binds (ps := ["actual", "expected"]) fun _ _ _ _ _ _ us hl => match us, hl with | [_, _], _ => rfl
  have F27 := fun_mk (st := st__law_pick) l27 c27 k27
  have b27 := F27.binds (ps := ["draws", "row"]) fun _ _ _ _ _ _ us hl => match us, hl with | [_, _], _ => rfl
  have F28 := fun_mk (st := st__law_season) l28 c28 k28
  have b28 := F28.binds (ps := ["draws"]) fun _ _ _ _ _ _ us hl => match us, hl with | [_], _ => rfl
  have F29 := fun_mk (st := st__law_lots) l29 c29 k29
  have b29 := F29.binds (ps := ["wins", "left"]) fun _ _ _ _ _ _ us hl => match us, hl with | [_, _], _ => rfl
  have F30 := fun_mk (st := st__law_can) l30 c30 k30
  have b30 := F30.binds (ps := ["lots", "size", "side", "most"]) fun _ _ _ _ _ _ us hl => match us, hl with | [_, _, _, _], _ => rfl
  have F31 := fun_mk (st := st__law_both) l31 c31 k31
  have b31 := F31.binds (ps := ["size"]) fun _ _ _ _ _ _ us hl => match us, hl with | [_], _ => rfl
  have F32 := fun_mk (st := st__law_paper) l32 c32 k32
  have b32 := F32.binds (ps := ["wins", "left", "side", "paper"]) fun _ _ _ _ _ _ us hl => match us, hl with | [_, _, _, _], _ => rfl
  have F33 := fun_mk (st := st__law_surely) l33 c33 k33
  have b33 := F33.binds (ps := ["wins", "left", "side"]) fun _ _ _ _ _ _ us hl => match us, hl with | [_, _, _], _ => rfl
  have F34 := fun_mk (st := st__law_do) l34 c34 k34
  have b34 := F34.binds (ps := ["wins", "left", "side"]) fun _ _ _ _ _ _ us hl => match us, hl with | [_, _, _], _ => rfl
  have F35 := fun_mk (st := st_law) l35 c35 k35
  have b35 := F35.binds (ps := ["script"]) fun _ _ _ _ _ _ us hl => match us, hl with | [_], _ => rfl
  refine ⟨PySem.W.fnOf "law" "law" (defArgs st_law) (defBody st_law) (defScope st_law) .none kV35 dc35 pm35 an35 cd35 ct35, fun s v => .of_eq rfl, fun base _ _ => ?_⟩
  have K0 := ok_is_integer (P := l.prog) (w := w) (base := base) F0 T
  let c_is_integer : Fc l.prog w K mg base "is_integer" ["value"] 1 (spP K 1 .z m_is_integer) := ⟨f0, _, K0, PySem.W.mg_of X G a0, k0, b0⟩
  have K1 := ok_is_count (P := l.prog) (w := w) (base := base) F1 T c_is_integer
  let c_is_count : Fc l.prog w K mg base "is_count" ["value"] 2 (spP K 1 .z m_is_count) := ⟨f1, _, K1, PySem.W.mg_of X G a1, k1, b1⟩
  have K2 := ok_is_left (P := l.prog) (w := w) (base := base) F2 T c_is_count
  let c_is_left : Fc l.prog w K mg base "is_left" ["size", "value"] 3 (spP K 2 .z m_is_left) := ⟨f2, _, K2, PySem.W.mg_of X G a2, k2, b2⟩
  have K3 := ok_Season_init (P := l.prog) (w := w) (base := base) F3 T c_is_count c_is_left
  let c_Season : Mc l.prog w K mg base "Season" C_Season ["self", "wins", "left"] 4 (spIO K 3 0 (.obj fun _ => .z) .z (m_Season_init C_Season)) := ⟨f3, _, K3, ⟨mk_Season, a3, i3, kc_Season⟩, PySem.W.mg_of X G aC_Season, b3⟩
  have K4 := ok_Season_matches (P := l.prog) (w := w) (base := base) F4 T
  let c_Season_matches : Mt l.prog w K mg base C_Season "matches" ["self", "side"] 1 (spP K 2 .z (m_Season_matches C_Season)) := ⟨f4, _, K4, ⟨a4, i4, k4⟩, b4⟩
  have K5 := ok_Season_most (P := l.prog) (w := w) (base := base) F5 T c_Season_matches
  let c_Season_most : Mt l.prog w K mg base C_Season "most" ["self", "side"] 2 (spP K 2 .z (m_Season_most C_Season)) := ⟨f5, _, K5, ⟨a5, i5, k5⟩, b5⟩
  have K6 := ok_look_at_side (P := l.prog) (w := w) (base := base) F6 T c_is_integer
  let c_look_at_side : Fc l.prog w K mg base "look_at_side" ["season", "side"] 2 (spP K 2 .z (m_look_at_side C_Season)) := ⟨f6, _, K6, PySem.W.mg_of X G a6, k6, b6⟩
  have K7 := ok_Shares_init (P := l.prog) (w := w) (base := base) F7 T c_Season_most
  let c_Shares : Mc l.prog w K mg base "Shares" C_Shares ["self", "season", "side"] 3 (spIO K 3 0 (.obj fun n => if n = ("won" : Str) then (.seq (.seq .z)) else .z) .z (m_Shares_init C_Season C_Shares)) := ⟨f7, _, K7, ⟨mk_Shares, a7, i7, kc_Shares⟩, PySem.W.mg_of X G aC_Shares, b7⟩
  have K8 := ok_Shares_wins (P := l.prog) (w := w) (base := base) F8 T
  let c_Shares_wins : Mt l.prog w K mg base C_Shares "wins" ["self", "side"] 1 (spP K 2 .z (m_Shares_wins C_Season C_Shares)) := ⟨f8, _, K8, ⟨a8, i8, k8⟩, b8⟩
  have K9 := ok_Shares_over (P := l.prog) (w := w) (base := base) F9 T c_Shares_wins
  let c_Shares_over : Mt l.prog w K mg base C_Shares "over" ["self"] 2 (spP K 1 (.seq .z) (m_Shares_over C_Season C_Shares)) := ⟨f9, _, K9, ⟨a9, i9, k9⟩, b9⟩
  have K10 := ok_Shares_reached (P := l.prog) (w := w) (base := base) F10 T
  let c_Shares_reached : Mt l.prog w K mg base C_Shares "reached" ["self", "side"] 1 (spP K 2 (.seq .z) (m_Shares_reached C_Season C_Shares)) := ⟨f10, _, K10, ⟨a10, i10, k10⟩, b10⟩
  have K11 := ok_Shares_hand_on (P := l.prog) (w := w) (base := base) F11 T
  let c_Shares_hand_on : Mt l.prog w K mg base C_Shares "hand_on" ["self", "ways", "side", "other", "many"] 1 (spIO K 5 0 (.obj fun n => if n = ("won" : Str) then (.seq (.seq .z)) else .z) .z (m_Shares_hand_on C_Shares)) := ⟨f11, _, K11, ⟨a11, i11, k11⟩, b11⟩
  have K12 := ok_Shares_room_on (P := l.prog) (w := w) (base := base) F12 T c_Shares_wins
  let c_Shares_room_on : Mt l.prog w K mg base C_Shares "room_on" ["self", "ways", "side", "other"] 2 (spP K 4 .z (m_Shares_room_on C_Season C_Shares)) := ⟨f12, _, K12, ⟨a12, i12, k12⟩, b12⟩
  have K13 := ok_decide_first (P := l.prog) (w := w) (base := base) F13 T c_look_at_side c_Shares c_Shares_over c_Shares_reached c_Shares_wins c_Shares_hand_on c_Shares_room_on
  let c_decide_first : Fc l.prog w K mg base "decide_first" ["season", "side"] 5 (spP K 2 .z (m_decide_first C_Season C_Shares)) := ⟨f13, _, K13, PySem.W.mg_of X G a13, k13, b13⟩
  have K14 := ok_can_be_first (P := l.prog) (w := w) (base := base) F14 T c_decide_first
  let c_can_be_first : Fc l.prog w K mg base "can_be_first" ["season", "side"] 6 (spP K 2 .z (m_can_be_first C_Season C_Shares)) := ⟨f14, _, K14, PySem.W.mg_of X G a14, k14, b14⟩
  have K15 := ok_still_first (P := l.prog) (w := w) (base := base) F15 T c_can_be_first
  let c_still_first : Fc l.prog w K mg base "still_first" ["season"] 7 (spP K 1 .z (m_still_first C_Season C_Shares)) := ⟨f15, _, K15, PySem.W.mg_of X G a15, k15, b15⟩
  have K16 := ok_is_won (P := l.prog) (w := w) (base := base) F16 T c_is_count
  let c_is_won : Fc l.prog w K mg base "is_won" ["season", "value"] 3 (spP K 2 .z (m_is_won C_Season)) := ⟨f16, _, K16, PySem.W.mg_of X G a16, k16, b16⟩
  have K17 := ok_lot_right (P := l.prog) (w := w) (base := base) F17 T c_is_integer c_Season_most
  let c_lot_right : Fc l.prog w K mg base "lot_right" ["season", "side", "lot"] 3 (spP K 3 .z (m_lot_right C_Season)) := ⟨f17, _, K17, PySem.W.mg_of X G a17, k17, b17⟩
  have K18 := ok_first_right (P := l.prog) (w := w) (base := base) F18 T c_look_at_side c_is_won c_lot_right
  let c_first_right : Fc l.prog w K mg base "first_right" ["season", "side", "paper"] 4 (spP K 3 .z (m_first_right C_Season)) := ⟨f18, _, K18, PySem.W.mg_of X G a18, k18, b18⟩
  have K19 := ok_bound (P := l.prog) (w := w) (base := base) F19 T c_still_first c_Season_most
  let c_bound : Fc l.prog w K mg base "bound" ["season"] 8 (spP K 1 .z (m_bound C_Season C_Shares)) := ⟨f19, _, K19, PySem.W.mg_of X G a19, k19, b19⟩
  have K20 := ok_surely_first (P := l.prog) (w := w) (base := base) F20 T c_look_at_side c_Season_most
  let c_surely_first : Fc l.prog w K mg base "surely_first" ["season", "side"] 3 (spP K 2 .z (m_surely_first C_Season)) := ⟨f20, _, K20, PySem.W.mg_of X G a20, k20, b20⟩
  have K21 := ok_most_against (P := l.prog) (w := w) (base := base) F21 T c_Season_matches c_Season_most
  let c_most_against : Fc l.prog w K mg base "most_against" ["season", "side", "other", "many"] 3 (spP K 4 .z (m_most_against C_Season)) := ⟨f21, _, K21, PySem.W.mg_of X G a21, k21, b21⟩
  have K22 := ok_wins_that_do (P := l.prog) (w := w) (base := base) F22 T c_look_at_side c_Season_matches c_most_against
  let c_wins_that_do : Fc l.prog w K mg base "wins_that_do" ["season", "side"] 4 (spP K 2 .z (m_wins_that_do C_Season)) := ⟨f22, _, K22, PySem.W.mg_of X G a22, k22, b22⟩
  have K23 := ok_with_match (P := l.prog) (w := w) (base := base) F23 T c_look_at_side c_Season
  let c_with_match : Fc l.prog w K mg base "with_match" ["season", "winner", "loser"] 6 (spP K 3 .z (m_with_match C_Season)) := ⟨f23, _, K23, PySem.W.mg_of X G a23, k23, b23⟩
  have K24 := ok__law_draws (P := l.prog) (w := w) (base := base) F24 T
  let c__law_draws : Fc l.prog w K mg base "_law_draws" ["script"] 1 (spP K 1 (.seq .z) m__law_draws) := ⟨f24, _, K24, PySem.W.mg_of X G a24, k24, b24⟩
  have K25 := ok__law_draw (P := l.prog) (w := w) (base := base) F25 T
  let c__law_draw : Fc l.prog w K mg base "_law_draw" ["draws", "limit"] 1 (spIO K 2 0 (.seq .z) .z m__law_draw) := ⟨f25, _, K25, PySem.W.mg_of X G a25, k25, b25⟩
  have K26 := ok__law_same (P := l.prog) (w := w) (base := base) F26 T (PySem.W.mg_of X G a26) k26 b26
  let c__law_same : Fc l.prog w K mg base "_law_same" ["actual", "expected"] 4 (spP K 2 .z m__law_same) := ⟨f26, _, K26, PySem.W.mg_of X G a26, k26, b26⟩
  have K27 := ok__law_pick (P := l.prog) (w := w) (base := base) F27 T c__law_draw
  let c__law_pick : Fc l.prog w K mg base "_law_pick" ["draws", "row"] 2 (spIO K 2 0 (.seq .z) .z m__law_pick) := ⟨f27, _, K27, PySem.W.mg_of X G a27, k27, b27⟩
  have K28 := ok__law_season (P := l.prog) (w := w) (base := base) F28 T c__law_pick c__law_draw
  let c__law_season : Fc l.prog w K mg base "_law_season" ["draws"] 3 (spIO K 1 0 (.seq .z) .z m__law_season) := ⟨f28, _, K28, PySem.W.mg_of X G a28, k28, b28⟩
  have K29 := ok__law_lots (P := l.prog) (w := w) (base := base) F29 T
  let c__law_lots : Fc l.prog w K mg base "_law_lots" ["wins", "left"] 1 (spP K 2 .z m__law_lots) := ⟨f29, _, K29, PySem.W.mg_of X G a29, k29, b29⟩
  have K30 := ok__law_can (P := l.prog) (w := w) (base := base) F30 T
  let c__law_can : Fc l.prog w K mg base "_law_can" ["lots", "size", "side", "most"] 1 (spP K 4 .z m__law_can) := ⟨f30, _, K30, PySem.W.mg_of X G a30, k30, b30⟩
  have K31 := ok__law_both (P := l.prog) (w := w) (base := base) F31 T
  let c__law_both : Fc l.prog w K mg base "_law_both" ["size"] 1 (spP K 1 .z m__law_both) := ⟨f31, _, K31, PySem.W.mg_of X G a31, k31, b31⟩
  have K32 := ok__law_paper (P := l.prog) (w := w) (base := base) F32 T c__law_both
  let c__law_paper : Fc l.prog w K mg base "_law_paper" ["wins", "left", "side", "paper"] 2 (spP K 4 .z m__law_paper) := ⟨f32, _, K32, PySem.W.mg_of X G a32, k32, b32⟩
  have K33 := ok__law_surely (P := l.prog) (w := w) (base := base) F33 T
  let c__law_surely : Fc l.prog w K mg base "_law_surely" ["wins", "left", "side"] 1 (spP K 3 .z m__law_surely) := ⟨f33, _, K33, PySem.W.mg_of X G a33, k33, b33⟩
  have K34 := ok__law_do (P := l.prog) (w := w) (base := base) F34 T
  let c__law_do : Fc l.prog w K mg base "_law_do" ["wins", "left", "side"] 1 (spP K 3 .z m__law_do) := ⟨f34, _, K34, PySem.W.mg_of X G a34, k34, b34⟩
  have K35 := ok_law (P := l.prog) (w := w) (base := base) F35 T c__law_draws c__law_season c_Season c__law_lots c__law_can c__law_same c_still_first c_Season_most c_bound c_decide_first c__law_paper c_first_right c_can_be_first c_surely_first c__law_surely c_wins_that_do c__law_do c__law_draw c_with_match
  exact ok_lawS (C_Season := C_Season) (C_Shares := C_Shares) K35
theorem walk {l : PySem.W.OpenLaw} {q : Program} {loose : List Str} {XP : (Str → Option Value) → Heap → Prop} {YP : World → Heap → Prop} {d : DefRec} {K : Params → PySem.W.Frag} (hn : l.most = some 63) (hdf : d.params.defaults = [])
    (hY : ∀ (w : World) (h : Heap), YP w h → (K w.params).In h)
    (F : ∀ (w : World) (mg : Str → Option Value) (fa : Addr) (h : Heap), (K w.params).In h → h.Ns mainGlobals mg → mg d.name = some (.ref fa) →
      ∃ fd : FuncData, (∀ (s : Shared) (u : Value), BindsTo s fd ⟨[u], []⟩ [("script", u)]) ∧ ∀ base : Heap, (K w.params).In base → base.Ns mainGlobals mg → FnOk l.prog w (K w.params) mg base CX0 9 fa fd ["script"] (spLaw (K w.params))) :
    PySem.W.WalkO q loose XP YP l.row.toRowW d [] (fun f vs => PySem.call f vs) :=
  L2.walk_of (n := 63) (k := 9) (x := "script") (CX := fun _ => CX0) (sp := fun w => spLaw (K w.params)) hn (by decide) hdf ⟨rfl, by decide, by decide⟩ hY F (fun _ _ a ns hl _ hS => ⟨a, ns, rfl, hS, hl, fun _ => rfl⟩) fun _ _ _ _ _ z => z
end K06

open PySem PySem.W PyProof.Rows in
set_option maxRecDepth 100000 in
set_option maxHeartbeats 0 in
theorem PySem.Challenge.cw_whobeatwhom_k06_whole_seasons_of_twelve_holds : PySem.Challenge.rw_whobeatwhom_k06_whole_seasons_of_twelve.Holds := by
  w_on; o_law; k_head; (case hw => w_witness2)
  k_fill
  refine K06.walk (l := PySem.Challenge.rw_whobeatwhom_k06_whole_seasons_of_twelve) rfl rfl (fun w h Y => PySem.W.kIn_of Y) ?F
  case F =>
    intro w mg fa h KX G hmg
    refine' K06.all_mk KX G hmg ?aC_Season ?aC_Shares ?a0 ?l0 ?c0 ?k0 ?a1 ?l1 ?c1 ?k1 ?a2 ?l2 ?c2 ?k2 ?a3 ?i3 ?l3 ?c3 ?k3 ?a4 ?i4 ?l4 ?c4 ?k4 ?a5 ?i5 ?l5 ?c5 ?k5 ?a6 ?l6 ?c6 ?k6 ?a7 ?i7 ?l7 ?c7 ?k7 ?a8 ?i8 ?l8 ?c8 ?k8 ?a9 ?i9 ?l9 ?c9 ?k9 ?a10 ?i10 ?l10 ?c10 ?k10 ?a11 ?i11 ?l11 ?c11 ?k11 ?a12 ?i12 ?l12 ?c12 ?k12 ?a13 ?l13 ?c13 ?k13 ?a14 ?l14 ?c14 ?k14 ?a15 ?l15 ?c15 ?k15 ?a16 ?l16 ?c16 ?k16 ?a17 ?l17 ?c17 ?k17 ?a18 ?l18 ?c18 ?k18 ?a19 ?l19 ?c19 ?k19 ?a20 ?l20 ?c20 ?k20 ?a21 ?l21 ?c21 ?k21 ?a22 ?l22 ?c22 ?k22 ?a23 ?l23 ?c23 ?k23 ?a24 ?l24 ?c24 ?k24 ?a25 ?l25 ?c25 ?k25 ?a26 ?l26 ?c26 ?k26 ?a27 ?l27 ?c27 ?k27 ?a28 ?l28 ?c28 ?k28 ?a29 ?l29 ?c29 ?k29 ?a30 ?l30 ?c30 ?k30 ?a31 ?l31 ?c31 ?k31 ?a32 ?l32 ?c32 ?k32 ?a33 ?l33 ?c33 ?k33 ?a34 ?l34 ?c34 ?k34 ?a35 ?l35 ?c35 ?k35 ?pg_Season ?hd_Season ?po_Season ?sa_Season ?mk_Season ?kc_Season ?pg_Shares ?hd_Shares ?po_Shares ?sa_Shares ?mk_Shares ?kc_Shares ?zb_all ?zb_bool ?zb_enumerate ?zb_int ?zb_isinstance ?zb_len ?zb_list ?zb_max ?zb_min ?zb_range ?zb_set ?zb_sorted ?zb_str ?zb_sum ?zb_tuple ?zb_zip ?zc_MOST_SIDES ?zc_MOST_WINS ?zf_Season_left ?zf_Season_size ?zf_Season_wins ?zf_Shares_most ?zf_Shares_season ?zf_Shares_won
    (case aC_Season => k_is)
    (case aC_Shares => k_is)
    (case a0 => k_is)
    (case l0 => k_is)
    (case c0 => k_is)
    (case k0 => k_is)
    (case a1 => k_is)
    (case l1 => k_is)
    (case c1 => k_is)
    (case k1 => k_is)
    (case a2 => k_is)
    (case l2 => k_is)
    (case c2 => k_is)
    (case k2 => k_is)
    (case a3 => k_is)
    (case i3 => k_is)
    (case l3 => k_is)
    (case c3 => k_is)
    (case k3 => k_is)
    (case a4 => k_is)
    (case i4 => k_is)
    (case l4 => k_is)
    (case c4 => k_is)
    (case k4 => k_is)
    (case a5 => k_is)
    (case i5 => k_is)
    (case l5 => k_is)
    (case c5 => k_is)
    (case k5 => k_is)
    (case a6 => k_is)
    (case l6 => k_is)
    (case c6 => k_is)
    (case k6 => k_is)
    (case a7 => k_is)
    (case i7 => k_is)
    (case l7 => k_is)
    (case c7 => k_is)
    (case k7 => k_is)
    (case a8 => k_is)
    (case i8 => k_is)
    (case l8 => k_is)
    (case c8 => k_is)
    (case k8 => k_is)
    (case a9 => k_is)
    (case i9 => k_is)
    (case l9 => k_is)
    (case c9 => k_is)
    (case k9 => k_is)
    (case a10 => k_is)
    (case i10 => k_is)
    (case l10 => k_is)
    (case c10 => k_is)
    (case k10 => k_is)
    (case a11 => k_is)
    (case i11 => k_is)
    (case l11 => k_is)
    (case c11 => k_is)
    (case k11 => k_is)
    (case a12 => k_is)
    (case i12 => k_is)
    (case l12 => k_is)
    (case c12 => k_is)
    (case k12 => k_is)
    (case a13 => k_is)
    (case l13 => k_is)
    (case c13 => k_is)
    (case k13 => k_is)
    (case a14 => k_is)
    (case l14 => k_is)
    (case c14 => k_is)
    (case k14 => k_is)
    (case a15 => k_is)
    (case l15 => k_is)
    (case c15 => k_is)
    (case k15 => k_is)
    (case a16 => k_is)
    (case l16 => k_is)
    (case c16 => k_is)
    (case k16 => k_is)
    (case a17 => k_is)
    (case l17 => k_is)
    (case c17 => k_is)
    (case k17 => k_is)
    (case a18 => k_is)
    (case l18 => k_is)
    (case c18 => k_is)
    (case k18 => k_is)
    (case a19 => k_is)
    (case l19 => k_is)
    (case c19 => k_is)
    (case k19 => k_is)
    (case a20 => k_is)
    (case l20 => k_is)
    (case c20 => k_is)
    (case k20 => k_is)
    (case a21 => k_is)
    (case l21 => k_is)
    (case c21 => k_is)
    (case k21 => k_is)
    (case a22 => k_is)
    (case l22 => k_is)
    (case c22 => k_is)
    (case k22 => k_is)
    (case a23 => k_is)
    (case l23 => k_is)
    (case c23 => k_is)
    (case k23 => k_is)
    (case a24 => k_is)
    (case l24 => k_is)
    (case c24 => k_is)
    (case k24 => k_is)
    (case a25 => k_is)
    (case l25 => k_is)
    (case c25 => k_is)
    (case k25 => k_is)
    (case a26 => k_is)
    (case l26 => k_is)
    (case c26 => k_is)
    (case k26 => k_is)
    (case a27 => k_is)
    (case l27 => k_is)
    (case c27 => k_is)
    (case k27 => k_is)
    (case a28 => k_is)
    (case l28 => k_is)
    (case c28 => k_is)
    (case k28 => k_is)
    (case a29 => k_is)
    (case l29 => k_is)
    (case c29 => k_is)
    (case k29 => k_is)
    (case a30 => k_is)
    (case l30 => k_is)
    (case c30 => k_is)
    (case k30 => k_is)
    (case a31 => k_is)
    (case l31 => k_is)
    (case c31 => k_is)
    (case k31 => k_is)
    (case a32 => k_is)
    (case l32 => k_is)
    (case c32 => k_is)
    (case k32 => k_is)
    (case a33 => k_is)
    (case l33 => k_is)
    (case c33 => k_is)
    (case k33 => k_is)
    (case a34 => k_is)
    (case l34 => k_is)
    (case c34 => k_is)
    (case k34 => k_is)
    (case a35 => k_is)
    (case l35 => k_is)
    (case c35 => k_is)
    (case k35 => k_is)
    (case pg_Season => k_is)
    (case hd_Season => k_is)
    (case po_Season => k_is)
    (case sa_Season => k_is)
    (case mk_Season => k_is)
    (case kc_Season => k_is)
    (case pg_Shares => k_is)
    (case hd_Shares => k_is)
    (case po_Shares => k_is)
    (case sa_Shares => k_is)
    (case mk_Shares => k_is)
    (case kc_Shares => k_is)
    (case zb_all => k_is)
    (case zb_bool => k_is)
    (case zb_enumerate => k_is)
    (case zb_int => k_is)
    (case zb_isinstance => k_is)
    (case zb_len => k_is)
    (case zb_list => k_is)
    (case zb_max => k_is)
    (case zb_min => k_is)
    (case zb_range => k_is)
    (case zb_set => k_is)
    (case zb_sorted => k_is)
    (case zb_str => k_is)
    (case zb_sum => k_is)
    (case zb_tuple => k_is)
    (case zb_zip => k_is)
    (case zc_MOST_SIDES => k_is)
    (case zc_MOST_WINS => k_is)
    (case zf_Season_left => k_is)
    (case zf_Season_size => k_is)
    (case zf_Season_wins => k_is)
    (case zf_Shares_most => k_is)
    (case zf_Shares_season => k_is)
    (case zf_Shares_won => k_is)
#print axioms PySem.Challenge.cw_whobeatwhom_k06_whole_seasons_of_twelve_holds

