import PyProof.Rows.All
import Wide.All
import OpenK.AllK
import Wide.FinOn
import HandS.ForMost
import HandS.ForExc
import HandS.CallSlots
import HandS.Defaults
import HandS.Wide
import HandS.IsInst
import HandS.Style
import HandS.Zip
import HandS.EndBits
import PySem.Challenge.RW_cupweb_k01_shares_and_rests
set_option Elab.async false
set_option linter.all false
set_option maxRecDepth 100000
set_option autoImplicit false
set_option exponentiation.threshold 2000
namespace J
open PySem L2

/-! values -/
inductive VV where
  | non | bl (b : Bool) | int (i : Int) | str (x : Str)
  | tup (xs : List VV) | lst (xs : List VV) | scr (xs : List VV)
  | dT (ks : List (List Key)) (vs : List VV)
  | dK (ks : List Key) (vs : List VV)
  | ins (c : Str) (ns : List Str) (vs : List VV)
  | obj (n : Nat)
  | glb (x : Str)
  | ty (n : String)

/-- a mutable root -/
inductive VO where
  | fzn (v : VV)
  | fl (xs : List VV)
  | dT (ks : List (List Key)) (vs : List VV)
  | ins (c : Str) (ns : List Str) (vs : List VV)

abbrev VH := List VO
abbrev VSt := List (Option VV)

inductive Res (α : Type) where
  | no
  | ok (a : α) (h : VH)
  | exc (x : Str) (ns : List Str) (vs : List VV) (h : VH)

def Res.bind {α β : Type} (r : Res α) (k : α → VH → Res β) : Res β :=
  match r with
  | .no => .no
  | .ok a h => k a h
  | .exc x ns vs h => .exc x ns vs h

structure Ct where
  K : PySem.W.Frag
  mg : Str → Option Value

structure Gh where
  io : List Addr
  fz : Addr → Prop
  kp : Addr → Prop

/-- a tuple: a frozen one, or one of the module's -/
def TupAt (c : Ct) (z : Addr → Prop) (H : Hp) (p : Addr) (us : List V) : Prop :=
  (z p ∧ H p = some (.tup us)) ∨ ∃ (o : Obj) (its : Array Value) (n : Nat), c.K.lookup p = some o ∧ o.cls = .type "tuple" ∧ o.data = .seq its n ∧ its.size ≤ sizeLine ∧ Vals us its.toList
theorem TupAt.sq {c : Ct} {z : Addr → Prop} {H : Hp} {p : Addr} {us : List V} (h : TupAt c z H p us) : SqT c.K H p us := by
  rcases h with h | h
  · exact .inl (.inl h.2)
  · exact .inr h
theorem TupAt.stp {c : Ct} {z z' : Addr → Prop} {H H' : Hp} {p : Addr} {us : List V} (hz : ∀ p, z p → z' p) (hH : ∀ p, z p → H' p = H p) (h : TupAt c z H p us) : TupAt c z' H' p us := by
  rcases h with h | h
  · exact .inl ⟨hz p h.1, (hH p h.1).trans h.2⟩
  · exact .inr h
/-- a list that is only read: a frozen one, or one of the module's -/
def LstAt (c : Ct) (z : Addr → Prop) (H : Hp) (p : Addr) (us : List V) : Prop :=
  (z p ∧ Rd H p (.lst us)) ∨ ∃ (o : Obj) (its : Array Value) (n : Nat), c.K.lookup p = some o ∧ o.cls = .type "list" ∧ o.dict = none ∧ o.data = .seq its n ∧ its.size ≤ sizeLine ∧ Vals us its.toList
theorem LstAt.sq {c : Ct} {z : Addr → Prop} {H : Hp} {p : Addr} {us : List V} (h : LstAt c z H p us) : SqL c.K H p us := by
  rcases h with h | h
  · exact .inl h.2
  · exact .inr h
theorem rd_same {H H' : Hp} {p : Addr} {o : HO} (e : H' p = H p) (h : Rd H p o) : Rd H' p o := by
  rcases h with h | ⟨q, h⟩
  · exact .inl (e.trans h)
  · exact .inr ⟨q, e.trans h⟩
theorem LstAt.stp {c : Ct} {z z' : Addr → Prop} {H H' : Hp} {p : Addr} {us : List V} (hz : ∀ p, z p → z' p) (hH : ∀ p, z p → H' p = H p) (h : LstAt c z H p us) : LstAt c z' H' p us := by
  rcases h with h | h
  · exact .inl ⟨hz p h.1, rd_same (hH p h.1) h.2⟩
  · exact .inr h
mutual
def RV (c : Ct) (z : Addr → Prop) (H : Hp) : VV → V → Prop
  | .non, u => u = .non
  | .bl b, u => u = .bl b
  | .int i, u => u = .int i
  | .str x, u => u = .str x
  | .tup xs, u => ∃ p us, u = .ref p ∧ TupAt c z H p us ∧ RVs c z H xs us
  | .lst xs, u => ∃ p us, u = .ref p ∧ z p ∧ H p = some (.lst us) ∧ RVs c z H xs us
  | .scr xs, u => ∃ p us, u = .ref p ∧ LstAt c z H p us ∧ RVs c z H xs us
  | .dT ks vs, u => ∃ p us, u = .ref p ∧ z p ∧ H p = some (.dT (ks.zip us)) ∧ ks.length = us.length ∧ RVs c z H vs us
  | .dK ks vs, u => ∃ p us, u = .ref p ∧ z p ∧ H p = some (.dK (ks.zip us)) ∧ ks.length = us.length ∧ RVs c z H vs us
  | .ins x ns vs, u => ∃ p C dx us, u = .ref p ∧ z p ∧ c.mg x = some (.ref C) ∧ H p = some (.ins C dx (ns.zip us)) ∧ ns.length = us.length ∧ RVs c z H vs us
  | .obj _, _ => False
  | .glb x, u => ∃ a, c.mg x = some (.ref a) ∧ u = .ref a
  | .ty n, u => u = .ty n
def RVs (c : Ct) (z : Addr → Prop) (H : Hp) : List VV → List V → Prop
  | [], us => us = []
  | x :: xs, us => ∃ u r, us = u :: r ∧ RV c z H x u ∧ RVs c z H xs r
end

/-- a value at the top: a root, or data -/
def RT (c : Ct) (g : Gh) (H : Hp) : VV → V → Prop
  | .obj n, u => ∃ a, g.io[n]? = some a ∧ u = .ref a
  | v, u => RV c g.fz H v u
def RTs (c : Ct) (g : Gh) (H : Hp) : List VV → List V → Prop
  | [], us => us = []
  | x :: xs, us => ∃ u r, us = u :: r ∧ RT c g H x u ∧ RTs c g H xs r

def VV.isObj : VV → Bool
  | .obj _ => true
  | _ => false

def RO (c : Ct) (g : Gh) (H : Hp) : VO → Addr → Prop
  | .fzn v, a => g.fz a ∧ RV c g.fz H v (.ref a)
  | .fl xs, a => ¬ g.fz a ∧ ∃ us, H a = some (.lst us) ∧ RVs c g.fz H xs us
  | .dT ks vs, a => ¬ g.fz a ∧ ∃ us, H a = some (.dT (ks.zip us)) ∧ ks.length = us.length ∧ RVs c g.fz H vs us
  | .ins x ns vs, a => ¬ g.fz a ∧ ∃ C dx us, c.mg x = some (.ref C) ∧ H a = some (.ins C dx (ns.zip us)) ∧ ns.length = us.length ∧ RTs c g H vs us

structure RH (c : Ct) (g : Gh) (h : VH) (H : Hp) : Prop where
  len : g.io.length = h.length
  nd : g.io.Nodup
  at' : ∀ (n : Nat) (o : VO) (a : Addr), h[n]? = some o → g.io[n]? = some a → RO c g H o a
  fz : ∀ q, g.fz q → ∃ o, H q = some o
  kp : ∀ q, g.kp q → ∃ o, H q = some o
  kd : ∀ q, g.kp q → ¬ g.fz q ∧ q ∉ g.io

structure Stp (g : Gh) (H : Hp) (g' : Gh) (H' : Hp) : Prop where
  io : g.io <+: g'.io
  fz : ∀ p, g.fz p → g'.fz p
  kp : ∀ p, g.kp p → g'.kp p
  fH : ∀ p, g.fz p → H' p = H p
  kH : ∀ p, g.kp p → H' p = H p

theorem Stp.refl {g : Gh} {H : Hp} : Stp g H g H := ⟨List.prefix_rfl, fun _ h => h, fun _ h => h, fun _ _ => rfl, fun _ _ => rfl⟩
theorem Stp.trans {g g1 g2 : Gh} {H H1 H2 : Hp} (a : Stp g H g1 H1) (b : Stp g1 H1 g2 H2) : Stp g H g2 H2 :=
  ⟨a.io.trans b.io, fun p h => b.fz p (a.fz p h), fun p h => b.kp p (a.kp p h), fun p h => (b.fH p (a.fz p h)).trans (a.fH p h), fun p h => (b.kH p (a.kp p h)).trans (a.kH p h)⟩

mutual
theorem RV.stp {c : Ct} {z z' : Addr → Prop} {H H' : Hp} (hz : ∀ p, z p → z' p) (hH : ∀ p, z p → H' p = H p) : ∀ (v : VV) (u : V), RV c z H v u → RV c z' H' v u
  | .non, u, h => by simpa only [RV] using h
  | .bl b, u, h => by simpa only [RV] using h
  | .int i, u, h => by simpa only [RV] using h
  | .str x, u, h => by simpa only [RV] using h
  | .tup xs, u, h => by
    rw [RV] at h ⊢
    obtain ⟨p, us, e, r, q⟩ := h
    exact ⟨p, us, e, r.stp hz hH, RVs.stp hz hH xs us q⟩
  | .lst xs, u, h => by
    rw [RV] at h ⊢
    obtain ⟨p, us, e, hp, r, q⟩ := h
    exact ⟨p, us, e, hz p hp, (hH p hp).trans r, RVs.stp hz hH xs us q⟩
  | .scr xs, u, h => by
    rw [RV] at h ⊢
    obtain ⟨p, us, e, r, q⟩ := h
    exact ⟨p, us, e, r.stp hz hH, RVs.stp hz hH xs us q⟩
  | .dT ks vs, u, h => by
    rw [RV] at h ⊢
    obtain ⟨p, us, e, hp, r, l, q⟩ := h
    exact ⟨p, us, e, hz p hp, (hH p hp).trans r, l, RVs.stp hz hH vs us q⟩
  | .dK ks vs, u, h => by
    rw [RV] at h ⊢
    obtain ⟨p, us, e, hp, r, l, q⟩ := h
    exact ⟨p, us, e, hz p hp, (hH p hp).trans r, l, RVs.stp hz hH vs us q⟩
  | .ins x ns vs, u, h => by
    rw [RV] at h ⊢
    obtain ⟨p, C, dx, us, e, hp, m, r, l, q⟩ := h
    exact ⟨p, C, dx, us, e, hz p hp, m, (hH p hp).trans r, l, RVs.stp hz hH vs us q⟩
  | .obj _, _, h => by rw [RV] at h; exact h.elim
  | .glb x, u, h => by simpa only [RV] using h
  | .ty n, u, h => by simpa only [RV] using h
theorem RVs.stp {c : Ct} {z z' : Addr → Prop} {H H' : Hp} (hz : ∀ p, z p → z' p) (hH : ∀ p, z p → H' p = H p) : ∀ (vs : List VV) (us : List V), RVs c z H vs us → RVs c z' H' vs us
  | [], us, h => by simpa only [RVs] using h
  | x :: xs, us, h => by
    rw [RVs] at h ⊢
    obtain ⟨u, r, e, a, b⟩ := h
    exact ⟨u, r, e, RV.stp hz hH x u a, RVs.stp hz hH xs r b⟩
end

theorem Stp.rv {c : Ct} {g g' : Gh} {H H' : Hp} (s : Stp g H g' H') {v : VV} {u : V} (h : RV c g.fz H v u) : RV c g'.fz H' v u := RV.stp s.fz s.fH _ _ h
theorem Stp.rvs {c : Ct} {g g' : Gh} {H H' : Hp} (s : Stp g H g' H') {v : List VV} {u : List V} (h : RVs c g.fz H v u) : RVs c g'.fz H' v u := RVs.stp s.fz s.fH _ _ h
theorem RT.of_rv {c : Ct} {g : Gh} {H : Hp} {v : VV} {u : V} (h : RV c g.fz H v u) : RT c g H v u := by
  cases v with
  | obj n => rw [RV] at h; exact h.elim
  | _ => exact h
theorem RT.rv {c : Ct} {g : Gh} {H : Hp} {v : VV} {u : V} (h : RT c g H v u) (n : v.isObj = false) : RV c g.fz H v u := by
  cases v with
  | obj n => cases n
  | _ => exact h
theorem RT.stp {c : Ct} {g g' : Gh} {H H' : Hp} (s : Stp g H g' H') {v : VV} {u : V} (h : RT c g H v u) : RT c g' H' v u := by
  cases v with
  | obj n =>
    obtain ⟨a, e, hu⟩ := h
    refine ⟨a, ?_, hu⟩
    obtain ⟨l, hl⟩ := s.io
    rw [← hl, List.getElem?_append_left (List.getElem?_eq_some_iff.mp e).1]
    exact e
  | _ => exact RT.of_rv (RV.stp s.fz s.fH _ _ (RT.rv h rfl))
theorem RTs.stp {c : Ct} {g g' : Gh} {H H' : Hp} (s : Stp g H g' H') : ∀ {vs : List VV} {us : List V}, RTs c g H vs us → RTs c g' H' vs us
  | [], us, h => h
  | x :: xs, us, h => by
    obtain ⟨u, r, e, a, b⟩ := h
    exact ⟨u, r, e, a.stp s, RTs.stp s b⟩
theorem RTs.of_rvs {c : Ct} {g : Gh} {H : Hp} : ∀ {vs : List VV} {us : List V}, RVs c g.fz H vs us → RTs c g H vs us
  | [], us, h => by rw [RVs] at h; exact h
  | x :: xs, us, h => by
    rw [RVs] at h
    obtain ⟨u, r, e, a, b⟩ := h
    exact ⟨u, r, e, RT.of_rv a, RTs.of_rvs b⟩
theorem RTs.rvs {c : Ct} {g : Gh} {H : Hp} : ∀ {vs : List VV} {us : List V}, RTs c g H vs us → vs.any VV.isObj = false → RVs c g.fz H vs us
  | [], us, h, _ => by rw [RVs]; exact h
  | x :: xs, us, h, n => by
    obtain ⟨u, r, e, a, b⟩ := h
    rw [List.any_cons, Bool.or_eq_false_iff] at n
    rw [RVs]
    exact ⟨u, r, e, a.rv n.1, RTs.rvs b n.2⟩
theorem RVs.len {c : Ct} {z : Addr → Prop} {H : Hp} : ∀ {vs : List VV} {us : List V}, RVs c z H vs us → vs.length = us.length
  | [], us, h => by rw [RVs] at h; rw [h]; rfl
  | x :: xs, us, h => by
    rw [RVs] at h
    obtain ⟨u, r, e, a, b⟩ := h
    rw [e, List.length_cons, List.length_cons, RVs.len b]
theorem RTs.len {c : Ct} {g : Gh} {H : Hp} : ∀ {vs : List VV} {us : List V}, RTs c g H vs us → vs.length = us.length
  | [], us, h => by rw [show us = [] from h]; rfl
  | x :: xs, us, h => by
    obtain ⟨u, r, e, a, b⟩ := h
    rw [e, List.length_cons, List.length_cons, RTs.len b]
theorem RVs.get {c : Ct} {z : Addr → Prop} {H : Hp} : ∀ {vs : List VV} {us : List V} {i : Nat} {v : VV}, RVs c z H vs us → vs[i]? = some v → ∃ u, us[i]? = some u ∧ RV c z H v u
  | [], us, i, v, h, e => by simp at e
  | x :: xs, us, i, v, h, e => by
    rw [RVs] at h
    obtain ⟨u, r, rfl, a, b⟩ := h
    cases i with
    | zero => simp at e; subst e; exact ⟨u, rfl, a⟩
    | succ i => exact RVs.get (i := i) b (by simpa using e)
theorem RVs.app {c : Ct} {z : Addr → Prop} {H : Hp} : ∀ {vs ws : List VV} {us ys : List V}, RVs c z H vs us → RVs c z H ws ys → RVs c z H (vs ++ ws) (us ++ ys)
  | [], ws, us, ys, h, k => by rw [RVs] at h; subst h; exact k
  | x :: xs, ws, us, ys, h, k => by
    rw [RVs] at h
    obtain ⟨u, r, rfl, a, b⟩ := h
    show RVs c z H (x :: (xs ++ ws)) (u :: (r ++ ys))
    rw [RVs]
    exact ⟨u, _, rfl, a, RVs.app b k⟩
theorem RVs.set {c : Ct} {z : Addr → Prop} {H : Hp} {v : VV} {u : V} (q : RV c z H v u) : ∀ {vs : List VV} {us : List V} {i : Nat}, RVs c z H vs us → RVs c z H (vs.set i v) (us.set i u)
  | [], us, i, h => by rw [RVs] at h; subst h; simp only [List.set_nil]; rw [RVs]
  | x :: xs, us, i, h => by
    rw [RVs] at h
    obtain ⟨y, r, rfl, a, b⟩ := h
    cases i with
    | zero => simp only [List.set_cons_zero]; rw [RVs]; exact ⟨u, r, rfl, q, b⟩
    | succ i => simp only [List.set_cons_succ]; rw [RVs]; exact ⟨y, _, rfl, a, RVs.set q b⟩
theorem RVs.one {c : Ct} {z : Addr → Prop} {H : Hp} {v : VV} {u : V} (q : RV c z H v u) : RVs c z H [v] [u] := by
  rw [RVs]; exact ⟨u, [], rfl, q, by rw [RVs]⟩
theorem RVs.nil {c : Ct} {z : Addr → Prop} {H : Hp} : RVs c z H [] [] := by rw [RVs]
theorem RVs.cons {c : Ct} {z : Addr → Prop} {H : Hp} {v : VV} {u : V} {vs us} (q : RV c z H v u) (r : RVs c z H vs us) : RVs c z H (v :: vs) (u :: us) := by
  rw [RVs]; exact ⟨u, us, rfl, q, r⟩
theorem RVs.take {c : Ct} {z : Addr → Prop} {H : Hp} : ∀ {vs : List VV} {us : List V} (n : Nat), RVs c z H vs us → RVs c z H (vs.take n) (us.take n)
  | _, _, 0, _ => by simp only [List.take_zero]; exact RVs.nil
  | [], us, n + 1, h => by rw [RVs] at h; subst h; simp only [List.take_nil]; exact RVs.nil
  | x :: xs, us, n + 1, h => by
    rw [RVs] at h
    obtain ⟨u, r, rfl, a, b⟩ := h
    simp only [List.take_succ_cons]
    exact RVs.cons a (RVs.take n b)
theorem RVs.drop {c : Ct} {z : Addr → Prop} {H : Hp} : ∀ {vs : List VV} {us : List V} (n : Nat), RVs c z H vs us → RVs c z H (vs.drop n) (us.drop n)
  | _, _, 0, h => by simpa only [List.drop_zero] using h
  | [], us, n + 1, h => by rw [RVs] at h; subst h; simp only [List.drop_nil]; exact RVs.nil
  | x :: xs, us, n + 1, h => by
    rw [RVs] at h
    obtain ⟨u, r, rfl, a, b⟩ := h
    simp only [List.drop_succ_cons]
    exact RVs.drop n b

theorem RT.back {c : Ct} {g g' : Gh} {H : Hp} (e1 : g'.io = g.io) (e2 : g'.fz = g.fz) {v : VV} {u : V} (h : RT c g H v u) : RT c g' H v u := by
  cases v with
  | obj n => obtain ⟨a, b, d⟩ := h; exact ⟨a, by rw [e1]; exact b, d⟩
  | _ => exact RT.of_rv (by rw [e2]; exact RT.rv h rfl)
theorem RTs.back {c : Ct} {g : Gh} {H : Hp} {k : Addr → Prop} : ∀ {vs : List VV} {us : List V}, RTs c g H vs us → RTs c { g with kp := k } H vs us
  | [], us, h => h
  | x :: xs, us, h => by
    obtain ⟨u, r, e, a, b⟩ := h
    exact ⟨u, r, e, a.back rfl rfl, RTs.back b⟩
/-- slots -/
structure RS (c : Ct) (g : Gh) (H : Hp) (ρ : VSt) (σ : St) : Prop where
  len : ρ.length = σ.length
  get : ∀ (i : Nat) (v : VV), ρ[i]? = some (some v) → ∃ u, σ[i]? = some (some u) ∧ RT c g H v u
theorem RS.stp {c : Ct} {g g' : Gh} {H H' : Hp} {ρ : VSt} {σ : St} (s : Stp g H g' H') (h : RS c g H ρ σ) : RS c g' H' ρ σ := ⟨h.len, fun i v e => by
  obtain ⟨u, a, b⟩ := h.get i v e
  exact ⟨u, a, b.stp s⟩⟩

theorem RO.stp {c : Ct} {g g' : Gh} {H H' : Hp} {o : VO} {a : Addr} (s : Stp g H g' H') (nz : ¬ g.fz a → ¬ g'.fz a) (e : H' a = H a) (h : RO c g H o a) : RO c g' H' o a := by
  cases o with
  | fzn v => exact ⟨s.fz a h.1, s.rv h.2⟩
  | fl xs =>
    obtain ⟨h1, us, h3, h4⟩ := h
    exact ⟨nz h1, us, e.trans h3, RVs.stp s.fz s.fH _ _ h4⟩
  | dT ks vs =>
    obtain ⟨h1, us, h3, h4, h5⟩ := h
    exact ⟨nz h1, us, e.trans h3, h4, RVs.stp s.fz s.fH _ _ h5⟩
  | ins x ns vs =>
    obtain ⟨h1, C, dx, us, h3, h4, h5, h6⟩ := h
    exact ⟨nz h1, C, dx, us, h3, e.trans h4, h5, h6.stp s⟩

theorem RO.some {c : Ct} {g : Gh} {H : Hp} {o : VO} {a : Addr} (fz : ∀ q, g.fz q → ∃ o, H q = some o) (h : RO c g H o a) : ∃ o, H a = some o := by
  cases o with
  | fzn v => exact fz a h.1
  | fl xs => obtain ⟨h1, us, h3, h4⟩ := h; exact ⟨_, h3⟩
  | dT ks vs => obtain ⟨h1, us, h3, h4⟩ := h; exact ⟨_, h3⟩
  | ins x ns vs => obtain ⟨h1, C, dx, us, h3, h4, h5⟩ := h; exact ⟨_, h4⟩
theorem RH.root {c : Ct} {g : Gh} {h : VH} {H : Hp} (R : RH c g h H) {a : Addr} (ha : a ∈ g.io) : ∃ o, H a = some o := by
  obtain ⟨n, hn, e⟩ := List.getElem_of_mem ha
  have hl : n < h.length := by rw [← R.len]; exact hn
  exact (R.at' n h[n] a (List.getElem?_eq_getElem hl) (by rw [List.getElem?_eq_getElem hn, e])).some R.fz

theorem nodup_inj {l : List Addr} (h : l.Nodup) {i j : Nat} {a : Addr} (h1 : l[i]? = some a) (h2 : l[j]? = some a) : i = j :=
  (List.getElem?_inj (List.getElem?_eq_some_iff.mp h1).1 h).mp (h1.trans h2.symm)
/-- new data: p, frozen -/
def Gh.frz (g : Gh) (p : Addr) : Gh := { g with fz := fun q => g.fz q ∨ q = p }
theorem Stp.new {c : Ct} {g : Gh} {h : VH} {H : Hp} (R : RH c g h H) {p : Addr} {o : HO} (np : H p = none) : Stp g H (g.frz p) (upd H p o) := by
  have ne : ∀ q, (∃ o, H q = some o) → q ≠ p := fun q ⟨o, e⟩ z => by rw [z, np] at e; cases e
  exact ⟨List.prefix_rfl, fun _ h => .inl h, fun _ h => h, fun q h => upd_ne (ne q (R.fz q h)), fun q h => upd_ne (ne q (R.kp q h))⟩
theorem RH.new {c : Ct} {g : Gh} {h : VH} {H : Hp} (R : RH c g h H) {p : Addr} {o : HO} (np : H p = none) : RH c (g.frz p) h (upd H p o) := by
  have ne : ∀ q, (∃ o, H q = some o) → q ≠ p := fun q ⟨o, e⟩ z => by rw [z, np] at e; cases e
  refine ⟨R.len, R.nd, fun n o a h1 h2 => ?_, fun q h => ?_, fun q h => ?_, fun q h => ⟨fun z => z.elim (R.kd q h).1 (ne q (R.kp q h)), (R.kd q h).2⟩⟩
  · have na : a ≠ p := ne a (R.root (List.mem_of_getElem? h2))
    exact RO.stp (Stp.new R np) (fun h z => z.elim h na) (upd_ne na) (R.at' n o a h1 h2)
  · rcases h with h | h
    · rw [upd_ne (ne q (R.fz q h))]; exact R.fz q h
    · rw [h]; exact ⟨_, upd_same⟩
  · rw [upd_ne (ne q (R.kp q h))]; exact R.kp q h
/-- heap beside that is not ours -/
theorem Stp.junk {c : Ct} {g : Gh} {h : VH} {H : Hp} (R : RH c g h H) {p : Addr} {o : HO} (np : H p = none) : Stp g H g (upd H p o) := by
  have ne : ∀ q, (∃ o, H q = some o) → q ≠ p := fun q ⟨o, e⟩ z => by rw [z, np] at e; cases e
  exact ⟨List.prefix_rfl, fun _ h => h, fun _ h => h, fun q h => upd_ne (ne q (R.fz q h)), fun q h => upd_ne (ne q (R.kp q h))⟩
theorem RH.junk {c : Ct} {g : Gh} {h : VH} {H : Hp} (R : RH c g h H) {p : Addr} {o : HO} (np : H p = none) : RH c g h (upd H p o) := by
  have ne : ∀ q, (∃ o, H q = some o) → q ≠ p := fun q ⟨o, e⟩ z => by rw [z, np] at e; cases e
  refine ⟨R.len, R.nd, fun n o a h1 h2 => ?_, fun q h => ?_, fun q h => ?_, R.kd⟩
  · have na : a ≠ p := ne a (R.root (List.mem_of_getElem? h2))
    exact RO.stp (Stp.junk R np) (fun h => h) (upd_ne na) (R.at' n o a h1 h2)
  · rw [upd_ne (ne q (R.fz q h))]; exact R.fz q h
  · rw [upd_ne (ne q (R.kp q h))]; exact R.kp q h
/-- a new root -/
def Gh.add (g : Gh) (p : Addr) : Gh := { g with io := g.io ++ [p] }
theorem Stp.add {g : Gh} {H : Hp} {p : Addr} : Stp g H (g.add p) H := ⟨List.prefix_append _ _, fun _ h => h, fun _ h => h, fun _ _ => rfl, fun _ _ => rfl⟩
theorem RH.add {c : Ct} {g : Gh} {h : VH} {H : Hp} (R : RH c g h H) {p : Addr} {o : VO} (hp : p ∉ g.io) (hk : ¬ g.kp p) (ro : RO c (g.add p) H o p) : RH c (g.add p) (h ++ [o]) H := by
  refine ⟨by show (g.io ++ [p]).length = _; simp [R.len], ?_, fun n o' a h1 h2 => ?_, R.fz, R.kp, fun q h => ⟨(R.kd q h).1, fun z => ?_⟩⟩
  · show (g.io ++ [p]).Nodup
    rw [List.nodup_append]
    exact ⟨R.nd, by simp, fun a ha b hb => by simp at hb; subst hb; intro e; subst e; exact hp ha⟩
  · have h2' : (g.io ++ [p])[n]? = some a := h2
    by_cases hn : n < h.length
    · rw [List.getElem?_append_left hn] at h1
      rw [List.getElem?_append_left (by rw [R.len]; exact hn)] at h2'
      exact RO.stp Stp.add (fun h => h) rfl (R.at' n o' a h1 h2')
    · have : n = h.length := by
        have := (List.getElem?_eq_some_iff.mp h1).1
        simp at this; omega
      subst this
      rw [List.getElem?_append_right (Nat.le_refl _), Nat.sub_self] at h1
      rw [List.getElem?_append_right (by rw [R.len]; exact Nat.le_refl _), R.len, Nat.sub_self] at h2'
      simp at h1 h2'
      subst h1 h2'
      exact ro
  · rcases List.mem_append.mp z with z | z
    · exact (R.kd q h).2 z
    · simp at z; subst z; exact hk h
/-- a root is written -/
theorem Stp.wr {c : Ct} {g : Gh} {H : Hp} {a : Addr} {O : HO} (nz : ¬ g.fz a) (nk : ¬ g.kp a) : Stp g H g (upd H a O) :=
  ⟨List.prefix_rfl, fun _ h => h, fun _ h => h, fun q h => upd_ne (fun z => nz (z ▸ h)), fun q h => upd_ne (fun z => nk (z ▸ h))⟩
theorem RH.wr {c : Ct} {g : Gh} {h : VH} {H : Hp} (R : RH c g h H) {n : Nat} {a : Addr} {o : VO} {O : HO} (ha : g.io[n]? = some a) (nz : ¬ g.fz a) (ro : RO c g (upd H a O) o a) : RH c g (h.set n o) (upd H a O) := by
  have nk : ¬ g.kp a := fun z => (R.kd a z).2 (List.mem_of_getElem? ha)
  refine ⟨by rw [List.length_set]; exact R.len, R.nd, fun m o' b h1 h2 => ?_, fun q h => ?_, fun q h => ?_, R.kd⟩
  · by_cases e : m = n
    · subst e
      rw [ha] at h2; cases h2
      have hl : m < h.length := by have := (List.getElem?_eq_some_iff.mp h1).1; simpa using this
      rw [List.getElem?_set_self hl] at h1
      cases h1
      exact ro
    · rw [List.getElem?_set_ne (Ne.symm e)] at h1
      have nb : b ≠ a := fun z => by
        subst z
        exact e (nodup_inj R.nd h2 ha)
      exact RO.stp (Stp.wr (c := c) nz nk) (fun h => h) (upd_ne nb) (R.at' m o' b h1 h2)
  · rw [upd_ne (show q ≠ a from fun z => nz (z ▸ h))]; exact R.fz q h
  · rw [upd_ne (show q ≠ a from fun z => nk (z ▸ h))]; exact R.kp q h
/-- a root is frozen -/
theorem Stp.kill {g : Gh} {H : Hp} {p : Addr} : Stp g H (g.frz p) H := ⟨List.prefix_rfl, fun _ h => .inl h, fun _ h => h, fun _ _ => rfl, fun _ _ => rfl⟩
theorem RH.kill {c : Ct} {g : Gh} {h : VH} {H : Hp} (R : RH c g h H) {n : Nat} {a : Addr} {v : VV} (ha : g.io[n]? = some a) (rv : RV c (g.frz a).fz H v (.ref a)) : RH c (g.frz a) (h.set n (.fzn v)) H := by
  refine ⟨by rw [List.length_set]; exact R.len, R.nd, fun m o' b h1 h2 => ?_, fun q h => ?_, R.kp, fun q h => ⟨fun z => z.elim (R.kd q h).1 (fun e => (R.kd q h).2 (e ▸ List.mem_of_getElem? ha)), (R.kd q h).2⟩⟩
  · have h2' : g.io[m]? = some b := h2
    by_cases e : m = n
    · subst e
      rw [ha] at h2'; cases h2'
      have hl : m < h.length := by have := (List.getElem?_eq_some_iff.mp h1).1; simpa using this
      rw [List.getElem?_set_self hl] at h1
      cases h1
      exact ⟨.inr rfl, rv⟩
    · rw [List.getElem?_set_ne (Ne.symm e)] at h1
      have nb : b ≠ a := fun z => by
        subst z
        exact e (nodup_inj R.nd h2' ha)
      exact RO.stp Stp.kill (fun h z => z.elim h nb) rfl (R.at' m o' b h1 h2')
  · rcases h with h | h
    · exact R.fz q h
    · rw [h]; exact R.root (List.mem_of_getElem? ha)

/-- an address that is ours for a while: others keep it -/
def Gh.keep (g : Gh) (D : Addr) : Gh := { g with kp := fun q => g.kp q ∨ q = D }
def Gh.back (g : Gh) (k : Addr → Prop) : Gh := { g with kp := k }
theorem Stp.keep {g : Gh} {H : Hp} {D : Addr} : Stp g H (g.keep D) H := ⟨List.prefix_rfl, fun _ h => h, fun _ h => .inl h, fun _ _ => rfl, fun _ _ => rfl⟩
theorem RH.keep {c : Ct} {g : Gh} {h : VH} {H : Hp} (R : RH c g h H) {D : Addr} {o : HO} (e : H D = some o) (nf : ¬ g.fz D) (ni : D ∉ g.io) : RH c (g.keep D) h H :=
  ⟨R.len, R.nd, fun n o a h1 h2 => RO.stp Stp.keep (fun h => h) rfl (R.at' n o a h1 h2), R.fz, fun q h => h.elim (R.kp q) (fun z => by rw [z]; exact ⟨o, e⟩), fun q h => h.elim (R.kd q) (fun z => by rw [z]; exact ⟨nf, ni⟩)⟩
theorem RH.back {c : Ct} {g : Gh} {h : VH} {H : Hp} (R : RH c g h H) {k : Addr → Prop} (hk : ∀ p, k p → g.kp p) : RH c (g.back k) h H := by
  refine ⟨R.len, R.nd, fun n o a h1 h2 => ?_, R.fz, fun q h => R.kp q (hk q h), fun q h => R.kd q (hk q h)⟩
  have := R.at' n o a h1 h2
  cases o with
  | fzn v => exact this
  | fl xs => exact this
  | dT ks vs => exact this
  | ins x ns vs =>
    obtain ⟨h1, C, dx, us, h3, h4, h5, h6⟩ := this
    refine ⟨h1, C, dx, us, h3, h4, h5, ?_⟩
    exact RTs.back h6

/-! the reading of a semantics -/
def Pst {α β : Type} (c : Ct) (W : WX) (σ : St) (R : Gh → Hp → α → β → Prop) (g : Gh) (H : Hp) (Q : β → Hp → Prop) : Res α → Prop
  | .no => False
  | .ok v h' => ∀ g' H' u, Stp g H g' H' → RH c g' h' H' → R g' H' v u → Q u H'
  | .exc x ns vs h' => ∀ g' H' C d us, Stp g H g' H' → RH c g' h' H' → c.mg x = some (.ref C) → H' d = some (.xd (ns.zip us)) → ns.length = us.length → RVs c g'.fz H' vs us → W (.ref C) (some d) σ H'

theorem Pst.step {α β : Type} {c : Ct} {W : WX} {σ : St} {R : Gh → Hp → α → β → Prop} {g g1 : Gh} {H H1 : Hp} {Q : β → Hp → Prop} {r : Res α} (s : Stp g H g1 H1) (h : Pst c W σ R g H Q r) : Pst c W σ R g1 H1 Q r := by
  cases r with
  | no => exact h
  | ok v h' => exact fun g' H' u st => h g' H' u (s.trans st)
  | exc x ns vs h' => exact fun g' H' C d us st => h g' H' C d us (s.trans st)
theorem Pst.bind {α β γ δ : Type} {c : Ct} {W : WX} {σ : St} {R : Gh → Hp → α → β → Prop} {R' : Gh → Hp → γ → δ → Prop} {g : Gh} {H : Hp} {Q : δ → Hp → Prop} {r : Res α} {k : α → VH → Res γ} (h : Pst c W σ R' g H Q (r.bind k)) :
    Pst c W σ R g H (fun u H1 => ∃ g1 v h1, Stp g H g1 H1 ∧ RH c g1 h1 H1 ∧ R g1 H1 v u ∧ Pst c W σ R' g1 H1 Q (k v h1)) r := by
  cases r with
  | no => exact h
  | ok v h' => exact fun g' H' u st rh rv => ⟨g', v, h', st, rh, rv, Pst.step st h⟩
  | exc x ns vs h' => exact h
theorem Pst.imp {α β : Type} {c : Ct} {W : WX} {σ : St} {R : Gh → Hp → α → β → Prop} {g : Gh} {H : Hp} {Q Q' : β → Hp → Prop} {r : Res α} (h : Pst c W σ R g H Q r) (hq : ∀ u H, Q u H → Q' u H) : Pst c W σ R g H Q' r := by
  cases r with
  | no => exact h
  | ok v h' => exact fun g' H' u a b d => hq _ _ (h g' H' u a b d)
  | exc x ns vs h' => exact h

def tG {α β : Type} (c : Ct) (W : WX) (R : Gh → Hp → α → β → Prop) (f : VSt → VH → Res α) : St → Hp → (β → Hp → Prop) → Prop :=
  fun σ H Q => ∃ g ρ h, RH c g h H ∧ RS c g H ρ σ ∧ Pst c W σ R g H Q (f ρ h)
abbrev EF := VSt → VH → Res VV
abbrev TF := VSt → VH → Res Bool
abbrev AF := VSt → VH → Res (List VV)
def RB (_ : Gh) (_ : Hp) (a b : Bool) : Prop := b = a
abbrev tE (c : Ct) (W : WX) (f : EF) : TE := tG c W (RT c) f
abbrev tT (c : Ct) (W : WX) (f : TF) : TT := tG c W RB f
abbrev tA (c : Ct) (W : WX) (f : AF) : TA := tG c W (RTs c) f
abbrev ct (X : Cx) : Ct := ⟨X.K, X.mg⟩

theorem PE.mono {X : Cx} {e : Expr} {t t' : TE} (h : PE X e t) (m : ∀ σ H Q, t' σ H Q → t σ H Q) : PE X e t' := ⟨fun pins s σ H Q I q => h.run pins s σ H Q I (m σ H Q q)⟩
theorem PT.mono {X : Cx} {e : Expr} {t t' : TT} (h : PT X e t) (m : ∀ σ H Q, t' σ H Q → t σ H Q) : PT X e t' := ⟨fun pins s σ H Q I q => h.run pins s σ H Q I (m σ H Q q)⟩
theorem PW.mono {X : Cx} {e : Expr} {t t' : TT} (h : PW X e t) (m : ∀ σ H Q, t' σ H Q → t σ H Q) : PW X e t' := ⟨fun wh pins s σ H Q I q => h.run wh pins s σ H Q I (m σ H Q q)⟩
theorem PA.mono {X : Cx} {e : List Expr} {t t' : TA} (h : PA X e t) (m : ∀ σ H Q, t' σ H Q → t σ H Q) : PA X e t' := ⟨fun pos pins s σ H Q I q => h.run pos pins s σ H Q I (m σ H Q q)⟩
theorem PS.mono {X : Cx} {e : Stmt} {t t' : TS} (h : PS X e t) (m : ∀ D σ H, t' D σ H → t D σ H) : PS X e t' := ⟨fun pins s σ H D I q => h.run pins s σ H D I (m D σ H q)⟩
theorem PSs.mono {X : Cx} {e : List Stmt} {t t' : TS} (h : PSs X e t) (m : ∀ D σ H, t' D σ H → t D σ H) : PSs X e t' := ⟨fun pins s σ H D I q => h.run pins s σ H D I (m D σ H q)⟩
theorem PI.mono {X : Cx} {tg e : Expr} {t t' : TI} (h : PI X tg e t) (m : ∀ σ H R, t' σ H R → t σ H R) : PI X tg e t' := ⟨fun pins s σ H R I q => h.run pins s σ H R I (m σ H R q)⟩

/-- what is left behind a first part -/
theorem tG.bind {α β γ δ : Type} {c : Ct} {W : WX} {R : Gh → Hp → α → β → Prop} {R' : Gh → Hp → γ → δ → Prop} {f : VSt → VH → Res α} {k : α → VSt → VH → Res γ} {σ : St} {H : Hp} {Q : δ → Hp → Prop}
    (h : tG c W R' (fun ρ h => (f ρ h).bind fun v h1 => k v ρ h1) σ H Q) :
    tG c W R f σ H (fun u H1 => ∃ g1 ρ v h1, RH c g1 h1 H1 ∧ RS c g1 H1 ρ σ ∧ R g1 H1 v u ∧ Pst c W σ R' g1 H1 Q (k v ρ h1)) := by
  obtain ⟨g, ρ, h0, rh, rs, p⟩ := h
  refine ⟨g, ρ, h0, rh, rs, (Pst.bind (R := R) p).imp fun u H1 ⟨g1, v, h1, st, r1, rv, p1⟩ => ⟨g1, ρ, v, h1, r1, rs.stp st, rv, p1⟩⟩
end J

namespace J
open PySem L2

/-! semantic functions -/
abbrev SZ : Nat := 16777216
theorem SZ_le {n : Nat} (h : n ≤ SZ) : n ≤ sizeLine := by rw [sizeLine_eq]; exact h
theorem SZ_lt {n : Nat} (h : n < SZ) : n < sizeLine := by rw [sizeLine_eq]; exact h

def eVar (i : Nat) : EF := fun ρ h => match ρ[i]? with
  | some (some v) => .ok v h
  | _ => .no
def eC (v : VV) : EF := fun _ h => .ok v h
/-- an operation on values that makes no root and changes none -/
abbrev Op2 := VH → VV → VV → Option VV
abbrev Op1 := VH → VV → Option VV
abbrev OpN := VH → List VV → Option VV
def lift (o : Option VV) (h : VH) : Res VV := match o with
  | some v => .ok v h
  | none => .no
def eBin (op : Op2) (a b : EF) : EF := fun ρ h => (a ρ h).bind fun v h1 => (b ρ h1).bind fun w h2 => lift (op h2 v w) h2
def eUn (op : Op1) (a : EF) : EF := fun ρ h => (a ρ h).bind fun v h1 => lift (op h1 v) h1
def eCall (op : OpN) (a : AF) : EF := fun ρ h => (a ρ h).bind fun v h1 => lift (op h1 v) h1
def aNil : AF := fun _ h => .ok [] h
def aCons (a : EF) (b : AF) : AF := fun ρ h => (a ρ h).bind fun v h1 => (b ρ h1).bind fun w h2 => .ok (v :: w) h2

/-- what a rule on values must take: the operation's answer, new or old data -/
def Rd2 (c : Ct) (op : Op2) : R2 := fun x y H Q => ∃ g h v w r, RH c g h H ∧ RT c g H v x ∧ RT c g H w y ∧ op h v w = some r ∧ ∀ g' H' u, Stp g H g' H' → RH c g' h H' → RT c g' H' r u → Q u H'
def Rd1 (c : Ct) (op : Op1) : V → Hp → VK → Prop := fun x H Q => ∃ g h v r, RH c g h H ∧ RT c g H v x ∧ op h v = some r ∧ ∀ g' H' u, Stp g H g' H' → RH c g' h H' → RT c g' H' r u → Q u H'
def RdN (c : Ct) (op : OpN) : List V → Hp → VK → Prop := fun xs H Q => ∃ g h vs r, RH c g h H ∧ RTs c g H vs xs ∧ op h vs = some r ∧ ∀ g' H' u, Stp g H g' H' → RH c g' h H' → RT c g' H' r u → Q u H'

theorem OpR.imp {X : Cx} {f : Value → Value → Sem Value} {r r' : R2} (h : OpR X f r) (m : ∀ x y H Q, r' x y H Q → r x y H Q) : OpR X f r' :=
  fun pins s σ H x y v u Q I a b q => h pins s σ H x y v u Q I a b (m x y H Q q)
theorem IxR.imp {X : Cx} {r r' : R2} (h : IxR X r) (m : ∀ x y H Q, r' x y H Q → r x y H Q) : IxR X r' := by
  unfold IxR at h ⊢
  intros
  apply h <;> first | assumption | (apply m; assumption)
theorem UnR.imp {X : Cx} {f : Value → Sem Value} {r r' : V → Hp → VK → Prop} (h : UnR X f r) (m : ∀ x H Q, r' x H Q → r x H Q) : UnR X f r' :=
  fun pins s σ H x v Q I a q => h pins s σ H x v Q I a (m x H Q q)
theorem CallR.imp {X : Cx} {f : Value} {r r' : List V → Hp → VK → Prop} (h : CallR X f r) (m : ∀ x H Q, r' x H Q → r x H Q) : CallR X f r' :=
  fun pins s σ H x v Q I a q => h pins s σ H x v Q I a (m x H Q q)

section
variable {X : Cx} {W : WX}

theorem j_var (i : Nat) {x : Str} {pos : Pos} (h : PE X (.Name x pos) (tVar i)) : PE X (.Name x pos) (tE (ct X) W (eVar i)) :=
  PE.mono h fun σ H Q ⟨g, ρ, hh, rh, rs, p⟩ => by
    unfold eVar at p
    split at p
    · rename_i v e
      obtain ⟨u, a, b⟩ := rs.get i v e
      exact ⟨u, a, p g H u .refl rh b⟩
    · exact p.elim
theorem j_c {e : Expr} {v : VV} {u : V} (h : PE X e (tC u)) (r : ∀ g H, RT (ct X) g H v u) : PE X e (tE (ct X) W (eC v)) :=
  PE.mono h fun σ H Q ⟨g, ρ, hh, rh, rs, p⟩ => p g H u .refl rh (r g H)
theorem rt_int {c : Ct} {g : Gh} {H : Hp} {i : Int} : RT c g H (.int i) (.int i) := by show RV _ _ _ _ _; rw [RV]
theorem rt_bl {c : Ct} {g : Gh} {H : Hp} {i : Bool} : RT c g H (.bl i) (.bl i) := by show RV _ _ _ _ _; rw [RV]
theorem rt_str {c : Ct} {g : Gh} {H : Hp} {i : Str} : RT c g H (.str i) (.str i) := by show RV _ _ _ _ _; rw [RV]
theorem rt_non {c : Ct} {g : Gh} {H : Hp} : RT c g H .non .non := by show RV _ _ _ _ _; rw [RV]
theorem rt_ty {c : Ct} {g : Gh} {H : Hp} {n : String} : RT c g H (.ty n) (.ty n) := by show RV _ _ _ _ _; rw [RV]
theorem j_int {i j pos} : PE X (.Constant (.int i) j pos) (tE (ct X) W (eC (.int i))) := j_c pe_int fun _ _ => rt_int
theorem j_bl {i j pos} : PE X (.Constant (.bool i) j pos) (tE (ct X) W (eC (.bl i))) := j_c pe_bl fun _ _ => rt_bl
theorem j_str {i j pos} : PE X (.Constant (.str i) j pos) (tE (ct X) W (eC (.str i))) := j_c pe_str fun _ _ => rt_str
theorem j_non {j pos} : PE X (.Constant .none j pos) (tE (ct X) W (eC .non)) := j_c pe_non fun _ _ => rt_non

/-- from a bind to a continuation -/
theorem tOp_of {r : R2} {op : Op2} {fa fb : EF} (m : ∀ x y H Q, Rd2 (ct X) op x y H Q → r x y H Q) {σ : St} {H : Hp} {Q : VK} (h : tE (ct X) W (eBin op fa fb) σ H Q) :
    tOp r (tE (ct X) W fa) (tE (ct X) W fb) σ H Q := by
  have h1 := tG.bind (R := RT (ct X)) (f := fa) (k := fun v ρ h1 => (fb ρ h1).bind fun w h2 => lift (op h2 v w) h2) h
  obtain ⟨g, ρ, h0, rh, rs, p⟩ := h1
  refine ⟨g, ρ, h0, rh, rs, p.imp fun u H1 ⟨g1, ρ1, v, h1, rh1, rs1, rv1, p1⟩ => ?_⟩
  refine ⟨g1, ρ1, h1, rh1, rs1, (Pst.bind (R := RT (ct X)) p1).imp fun u2 H2 ⟨g2, w, h2, st, rh2, rv2, p2⟩ => ?_⟩
  refine m _ _ _ _ ?_
  unfold lift at p2
  split at p2
  · rename_i r e
    exact ⟨g2, h2, v, w, r, rh2, rv1.stp st, rv2, e, p2⟩
  · exact p2.elim
theorem j_bin {op : Op2} {o : Operator} {a b : Expr} {fa fb : EF} {pos : Pos} (ho : OpR X (binaryOp o) (Rd2 (ct X) op)) (ha : PE X a (tE (ct X) W fa)) (hb : PE X b (tE (ct X) W fb)) : PE X (.BinOp a o b pos) (tE (ct X) W (eBin op fa fb)) :=
  PE.mono (pe_op ho ha hb) fun σ H Q h => tOp_of (fun _ _ _ _ q => q) h
theorem j_ix {op : Op2} {a b : Expr} {fa fb : EF} {pos : Pos} (ho : IxR X (Rd2 (ct X) op)) (ha : PE X a (tE (ct X) W fa)) (hb : PE X b (tE (ct X) W fb)) (hs : PlainIx b) : PE X (.Subscript a b pos) (tE (ct X) W (eBin op fa fb)) :=
  PE.mono (pe_ix ho ha hb hs) fun σ H Q h => tOp_of (fun _ _ _ _ q => q) h
theorem j_cmp {op : Op2} {o : CmpOp} {a b : Expr} {fa fb : EF} {pos : Pos} (ho : OpR X (compareOp o) (Rd2 (ct X) op)) (ha : PE X a (tE (ct X) W fa)) (hb : PE X b (tE (ct X) W fb)) (hm : behindInMarks o b = false) : PE X (.Compare a [o] [b] pos) (tE (ct X) W (eBin op fa fb)) :=
  PE.mono (pe_cmpR ho ha hb hm) fun σ H Q h => tOp_of (fun _ _ _ _ q => q) h
theorem j_un {op : Op1} {o : UnaryOp} {a : Expr} {fa : EF} {pos : Pos} (ho : UnR X (unaryOp o) (Rd1 (ct X) op)) (ha : PE X a (tE (ct X) W fa)) : PE X (.UnaryOp o a pos) (tE (ct X) W (eUn op fa)) :=
  PE.mono (pe_un ho ha) fun σ H Q h => by
    obtain ⟨g, ρ, h0, rh, rs, p⟩ := tG.bind (R := RT (ct X)) (f := fa) (k := fun v ρ h1 => lift (op h1 v) h1) h
    refine ⟨g, ρ, h0, rh, rs, p.imp fun u H1 ⟨g1, ρ1, v, h1, rh1, rs1, rv1, p1⟩ => ?_⟩
    unfold lift at p1
    split at p1
    · rename_i r e
      exact ⟨g1, h1, v, r, rh1, rv1, e, p1⟩
    · exact p1.elim

/-! arguments -/
theorem ja_nil : PA X [] (tA (ct X) W aNil) := PA.mono pa_nil fun σ H Q ⟨g, ρ, h0, rh, rs, p⟩ => p g H [] .refl rh rfl
theorem ja_cons {e : Expr} {es : List Expr} {fa : EF} {fb : AF} (ha : PE X e (tE (ct X) W fa)) (hr : PA X es (tA (ct X) W fb)) (hs : starEach (e :: es) X.env = (false, eval e X.env) :: starEach es X.env := by rfl) : PA X (e :: es) (tA (ct X) W (aCons fa fb)) :=
  PA.mono (pa_cons ha hr hs) fun σ H Q h => by
    obtain ⟨g, ρ, h0, rh, rs, p⟩ := tG.bind (R := RT (ct X)) (f := fa) (k := fun v ρ h1 => (fb ρ h1).bind fun w h2 => .ok (v :: w) h2) h
    refine ⟨g, ρ, h0, rh, rs, p.imp fun u H1 ⟨g1, ρ1, v, h1, rh1, rs1, rv1, p1⟩ => ?_⟩
    refine ⟨g1, ρ1, h1, rh1, rs1, (Pst.bind (R := RTs (ct X)) p1).imp fun u2 H2 ⟨g2, w, h2, st, rh2, rv2, p2⟩ => ?_⟩
    exact p2 g2 H2 (u :: u2) .refl rh2 ⟨u, u2, rfl, rv1.stp st, rv2⟩
theorem tCB_of {r : List V → Hp → VK → Prop} {op : OpN} {fa : AF} (m : ∀ x H Q, RdN (ct X) op x H Q → r x H Q) {σ : St} {H : Hp} {Q : VK} (h : tE (ct X) W (eCall op fa) σ H Q) : tCB r (tA (ct X) W fa) σ H Q := by
  obtain ⟨g, ρ, h0, rh, rs, p⟩ := tG.bind (R := RTs (ct X)) (f := fa) (k := fun v ρ h1 => lift (op h1 v) h1) h
  refine ⟨g, ρ, h0, rh, rs, p.imp fun u H1 ⟨g1, ρ1, v, h1, rh1, rs1, rv1, p1⟩ => ?_⟩
  unfold lift at p1
  split at p1
  · rename_i r e
    exact m _ _ _ ⟨g1, h1, v, r, rh1, rv1, e, p1⟩
  · exact p1.elim
theorem j_callB {x : Str} {p pos : Pos} {id : String} {op : OpN} {e : Expr} {es : List Expr} {fa : AF} (hc : CallR X (.builtin id) (RdN (ct X) op)) (hg : Gl X x) (hm : X.mg x = none) (hv : bootBuiltins x = some (.builtin id)) (ha : PA X (e :: es) (tA (ct X) W fa)) (hn : x ≠ "__name__" := by decide) (hdb : (x == ("__debug__" : Str)) = false := by decide)
    (he : starEach (e :: es) X.env = (false, eval e X.env) :: starEach es X.env := by rfl) (hpl : (backTo pos (starEach es X.env)).any (·.1) = false := by rfl) : PE X (.Call (.Name x p) (e :: es) [] pos) (tE (ct X) W (eCall op fa)) :=
  PE.mono (pe_callB hc hg hm hv ha hn hdb he hpl) fun σ H Q h => tCB_of (fun _ _ _ q => q) h
theorem j_callTy {x : Str} {p pos : Pos} {T : String} {op : OpN} {e : Expr} {es : List Expr} {fa : AF} (hc : CallR X (.type T) (RdN (ct X) op)) (hg : Gl X x) (hm : X.mg x = none) (hv : bootBuiltins x = some (.type T)) (ha : PA X (e :: es) (tA (ct X) W fa)) (hn : x ≠ "__name__" := by decide) (hdb : (x == ("__debug__" : Str)) = false := by decide)
    (he : starEach (e :: es) X.env = (false, eval e X.env) :: starEach es X.env := by rfl) (hpl : (backTo pos (starEach es X.env)).any (·.1) = false := by rfl) : PE X (.Call (.Name x p) (e :: es) [] pos) (tE (ct X) W (eCall op fa)) :=
  PE.mono (pe_callTy hc hg hm hv ha hn hdb he hpl) fun σ H Q h => tCB_of (fun _ _ _ q => q) h

/-! displays -/
def eTup (a : AF) : EF := fun ρ h => (a ρ h).bind fun vs h1 => if vs.any VV.isObj = true ∨ vs.length > SZ then .no else .ok (.tup vs) h1
def eLst (a : AF) : EF := fun ρ h => (a ρ h).bind fun vs h1 => if vs.any VV.isObj = true ∨ vs.length > SZ then .no else .ok (.lst vs) h1
/-- a display whose list is a root -/
def eLstO (a : AF) : EF := fun ρ h => (a ρ h).bind fun vs h1 => if vs.any VV.isObj = true ∨ vs.length > SZ then .no else .ok (.obj h1.length) (h1 ++ [.fl vs])

theorem upd_any {H : Hp} {p : Addr} {o : HO} : upd H p o p = some o := upd_same

theorem j_tup {es : List Expr} {fa : AF} {x1} {pos : Pos} (ha : PA X es (tA (ct X) W fa)) : PE X (.Tuple es x1 pos) (tE (ct X) W (eTup fa)) :=
  PE.mono (pe_tup ha) fun σ H Q h => by
    obtain ⟨g, ρ, h0, rh, rs, p⟩ := tG.bind (R := RTs (ct X)) (f := fa) (k := fun (vs : List VV) ρ h1 => if vs.any VV.isObj = true ∨ vs.length > SZ then .no else .ok (VV.tup vs) h1) h
    refine ⟨g, ρ, h0, rh, rs, p.imp fun u H1 ⟨g1, ρ1, v, h1, rh1, rs1, rv1, p1⟩ => ?_⟩
    by_cases c : v.any VV.isObj = true ∨ v.length > SZ
    · rw [if_pos c] at p1; exact p1.elim
    · rw [if_neg c] at p1
      rw [not_or, Bool.not_eq_true] at c
      refine ⟨by rw [← rv1.len]; exact SZ_le (by omega), fun p hp => p1 (g1.frz p) (upd H1 p (.tup u)) (.ref p) (.new rh1 hp) (rh1.new hp) ?_⟩
      show RV _ _ _ _ _
      rw [RV]
      exact ⟨p, u, rfl, .inl ⟨.inr rfl, upd_same⟩, (Stp.new rh1 hp).rvs (rv1.rvs c.1)⟩
theorem j_lst {es : List Expr} {fa : AF} {pos : Pos} (ha : PA X es (tA (ct X) W fa)) : PE X (.List es pos) (tE (ct X) W (eLst fa)) :=
  PE.mono (pe_lst ha) fun σ H Q h => by
    obtain ⟨g, ρ, h0, rh, rs, p⟩ := tG.bind (R := RTs (ct X)) (f := fa) (k := fun (vs : List VV) ρ h1 => if vs.any VV.isObj = true ∨ vs.length > SZ then .no else .ok (VV.lst vs) h1) h
    refine ⟨g, ρ, h0, rh, rs, p.imp fun u H1 ⟨g1, ρ1, v, h1, rh1, rs1, rv1, p1⟩ => ?_⟩
    by_cases c : v.any VV.isObj = true ∨ v.length > SZ
    · rw [if_pos c] at p1; exact p1.elim
    · rw [if_neg c] at p1
      rw [not_or, Bool.not_eq_true] at c
      refine ⟨by rw [← rv1.len]; exact SZ_le (by omega), fun p hp => p1 (g1.frz p) (upd H1 p (.lst u)) (.ref p) (.new rh1 hp) (rh1.new hp) ?_⟩
      show RV _ _ _ _ _
      rw [RV]
      exact ⟨p, u, rfl, .inr rfl, upd_same, (Stp.new rh1 hp).rvs (rv1.rvs c.1)⟩
/-- a new list of data that nobody holds becomes a root -/
theorem root_new {c : Ct} {g : Gh} {h : VH} {H : Hp} {p : Addr} {vs : List VV} {us : List V} (rh : RH c g h H) (hp : H p = none) (rv : RVs c g.fz H vs us) :
    Stp g H (g.add p) (upd H p (.lst us)) ∧ RH c (g.add p) (h ++ [.fl vs]) (upd H p (.lst us)) ∧ RT c (g.add p) (upd H p (.lst us)) (.obj h.length) (.ref p) := by
  have st : Stp g H g (upd H p (.lst us)) := .junk rh hp
  have rh1 : RH c g h (upd H p (.lst us)) := rh.junk hp
  have np : p ∉ g.io := fun z => by
    obtain ⟨o, e⟩ := rh.root z
    rw [hp] at e; cases e
  refine ⟨st.trans .add, rh1.add np (fun z => ?_) ⟨fun z => ?_, us, upd_same, st.rvs rv⟩, p, ?_, rfl⟩
  · obtain ⟨o, e⟩ := rh.kp p z
    rw [hp] at e; cases e
  · obtain ⟨o, e⟩ := rh.fz p z
    rw [hp] at e; cases e
  · show (g.io ++ [p])[h.length]? = some p
    rw [← rh.len, List.getElem?_append_right (Nat.le_refl _), Nat.sub_self]; rfl
theorem j_lstO {es : List Expr} {fa : AF} {pos : Pos} (ha : PA X es (tA (ct X) W fa)) : PE X (.List es pos) (tE (ct X) W (eLstO fa)) :=
  PE.mono (pe_lst ha) fun σ H Q h => by
    obtain ⟨g, ρ, h0, rh, rs, p⟩ := tG.bind (R := RTs (ct X)) (f := fa) (k := fun (vs : List VV) ρ h1 => if vs.any VV.isObj = true ∨ vs.length > SZ then .no else .ok (VV.obj h1.length) (h1 ++ [.fl vs])) h
    refine ⟨g, ρ, h0, rh, rs, p.imp fun u H1 ⟨g1, ρ1, v, h1, rh1, rs1, rv1, p1⟩ => ?_⟩
    by_cases c : v.any VV.isObj = true ∨ v.length > SZ
    · rw [if_pos c] at p1; exact p1.elim
    · rw [if_neg c] at p1
      rw [not_or, Bool.not_eq_true] at c
      refine ⟨by rw [← rv1.len]; exact SZ_le (by omega), fun p hp => ?_⟩
      obtain ⟨a, b, d⟩ := root_new rh1 hp (rv1.rvs c.1)
      exact p1 _ _ _ a b d

/-! tests -/
def tVal (a : EF) : TF := fun ρ h => (a ρ h).bind fun v h1 => match v with
  | .bl b => .ok b h1
  | _ => .no
def tAnd (a b : TF) : TF := fun ρ h => (a ρ h).bind fun v h1 => if v = true then b ρ h1 else .ok false h1
def tOr (a b : TF) : TF := fun ρ h => (a ρ h).bind fun v h1 => if v = true then .ok true h1 else b ρ h1
def tNot (a : TF) : TF := fun ρ h => (a ρ h).bind fun v h1 => .ok (!v) h1
theorem tVal_of {a : EF} {σ : St} {H : Hp} {Q : Bool → Hp → Prop} (h : tT (ct X) W (tVal a) σ H Q) : tE (ct X) W a σ H (fun x H1 => ∃ k, x = .bl k ∧ Q k H1) := by
  obtain ⟨g, ρ, h0, rh, rs, p⟩ := tG.bind (R := RT (ct X)) (f := a) (k := fun v ρ h1 => match v with
    | .bl b => .ok b h1
    | _ => .no) h
  refine ⟨g, ρ, h0, rh, rs, p.imp fun u H1 ⟨g1, ρ1, v, h1, rh1, rs1, rv1, p1⟩ => ?_⟩
  cases v with
  | bl b =>
    have e : u = .bl b := by have := rv1.rv rfl; rw [RV] at this; exact this
    exact ⟨b, e, p1 g1 H1 b .refl rh1 rfl⟩
  | _ => exact p1.elim
theorem jt_val {e : Expr} {fa : EF} (h : PE X e (tE (ct X) W fa)) (he : ∀ whole, isTrue e X.env whole = (do let v ← whole; standAt e.pos; holding [v] (truthy v)) := by intro _; rfl) : PT X e (tT (ct X) W (tVal fa)) :=
  PT.mono (pt_val h he) fun σ H Q q => tVal_of q
theorem jt_cmp {op : Op2} {o : CmpOp} {a b : Expr} {fa fb : EF} {pos : Pos} (ho : OpR X (compareOp o) (Rd2 (ct X) op)) (ha : PE X a (tE (ct X) W fa)) (hb : PE X b (tE (ct X) W fb)) (hm : behindInMarks o b = false) : PT X (.Compare a [o] [b] pos) (tT (ct X) W (tVal (eBin op fa fb))) :=
  PT.mono (pt_cmpR ho ha hb hm) fun σ H Q q => tOp_of (fun _ _ _ _ q => q) (tVal_of q)
theorem jw_and1 {a : Expr} {fa : TF} {pos : Pos} (ha : PT X a (tT (ct X) W fa)) : PW X (.BoolOp .And [a] pos) (tT (ct X) W fa) := pw_and1 ha
theorem jw_or1 {a : Expr} {fa : TF} {pos : Pos} (ha : PT X a (tT (ct X) W fa)) : PW X (.BoolOp .Or [a] pos) (tT (ct X) W fa) := pw_or1 ha
theorem jw_and {a b : Expr} {rest : List Expr} {fa fb : TF} {pos : Pos} (ha : PT X a (tT (ct X) W fa)) (hb : PW X (.BoolOp .And (b :: rest) pos) (tT (ct X) W fb)) : PW X (.BoolOp .And (a :: b :: rest) pos) (tT (ct X) W (tAnd fa fb)) :=
  PW.mono (pw_and ha hb) fun σ H Q h => by
    obtain ⟨g, ρ, h0, rh, rs, p⟩ := tG.bind (R := RB) (f := fa) (k := fun v ρ h1 => if v = true then fb ρ h1 else .ok false h1) h
    refine ⟨g, ρ, h0, rh, rs, p.imp fun u H1 ⟨g1, ρ1, v, h1, rh1, rs1, rv1, p1⟩ => ?_⟩
    cases rv1
    cases u with
    | true => rw [if_pos rfl] at p1 ⊢; exact ⟨g1, ρ1, h1, rh1, rs1, p1⟩
    | false => rw [if_neg Bool.false_ne_true] at p1 ⊢; exact p1 g1 H1 false .refl rh1 rfl
theorem jw_or {a b : Expr} {rest : List Expr} {fa fb : TF} {pos : Pos} (ha : PT X a (tT (ct X) W fa)) (hb : PW X (.BoolOp .Or (b :: rest) pos) (tT (ct X) W fb)) : PW X (.BoolOp .Or (a :: b :: rest) pos) (tT (ct X) W (tOr fa fb)) :=
  PW.mono (pw_or ha hb) fun σ H Q h => by
    obtain ⟨g, ρ, h0, rh, rs, p⟩ := tG.bind (R := RB) (f := fa) (k := fun v ρ h1 => if v = true then .ok true h1 else fb ρ h1) h
    refine ⟨g, ρ, h0, rh, rs, p.imp fun u H1 ⟨g1, ρ1, v, h1, rh1, rs1, rv1, p1⟩ => ?_⟩
    cases rv1
    cases u with
    | true => rw [if_pos rfl] at p1 ⊢; exact p1 g1 H1 true .refl rh1 rfl
    | false => rw [if_neg Bool.false_ne_true] at p1 ⊢; exact ⟨g1, ρ1, h1, rh1, rs1, p1⟩
theorem jt_not {a : Expr} {fa : TF} {pos : Pos} (ha : PT X a (tT (ct X) W fa)) : PT X (.UnaryOp .Not a pos) (tT (ct X) W (tNot fa)) :=
  PT.mono (pt_not ha) fun σ H Q h => by
    obtain ⟨g, ρ, h0, rh, rs, p⟩ := tG.bind (R := RB) (f := fa) (k := fun v ρ h1 => .ok (!v) h1) h
    refine ⟨g, ρ, h0, rh, rs, p.imp fun u H1 ⟨g1, ρ1, v, h1, rh1, rs1, rv1, p1⟩ => ?_⟩
    cases rv1
    exact p1 g1 H1 _ .refl rh1 rfl
def eIf (c : TF) (a b : EF) : EF := fun ρ h => (c ρ h).bind fun v h1 => if v = true then a ρ h1 else b ρ h1
theorem j_if {c a b : Expr} {fc : TF} {fa fb : EF} {pos : Pos} (hc : PT X c (tT (ct X) W fc)) (ha : PE X a (tE (ct X) W fa)) (hb : PE X b (tE (ct X) W fb)) : PE X (.IfExp c a b pos) (tE (ct X) W (eIf fc fa fb)) :=
  PE.mono (pe_ifExp hc ha hb) fun σ H Q h => by
    obtain ⟨g, ρ, h0, rh, rs, p⟩ := tG.bind (R := RB) (f := fc) (k := fun v ρ h1 => if v = true then fa ρ h1 else fb ρ h1) h
    refine ⟨g, ρ, h0, rh, rs, p.imp fun u H1 ⟨g1, ρ1, v, h1, rh1, rs1, rv1, p1⟩ => ?_⟩
    cases rv1
    cases u with
    | true => rw [if_pos rfl] at p1 ⊢; exact ⟨g1, ρ1, h1, rh1, rs1, p1⟩
    | false => rw [if_neg Bool.false_ne_true] at p1 ⊢; exact ⟨g1, ρ1, h1, rh1, rs1, p1⟩
/-- and, or, not of truth values -/
def eAnd (a b : EF) : EF := fun ρ h => (a ρ h).bind fun v h1 => match v with
  | .bl true => b ρ h1
  | .bl false => .ok (.bl false) h1
  | _ => .no
def eOr (a b : EF) : EF := fun ρ h => (a ρ h).bind fun v h1 => match v with
  | .bl true => .ok (.bl true) h1
  | .bl false => b ρ h1
  | _ => .no
def eNot (a : EF) : EF := fun ρ h => (a ρ h).bind fun v h1 => match v with
  | .bl b => .ok (.bl (!b)) h1
  | _ => .no
theorem j_one {op} {a : Expr} {f : EF} {pos : Pos} (h : PE X a (tE (ct X) W f)) : PE X (.BoolOp op [a] pos) (tE (ct X) W f) := pe_one h
theorem j_and {a b : Expr} {rest : List Expr} {fa fb : EF} {pos : Pos} (ha : PE X a (tE (ct X) W fa)) (hb : PE X (.BoolOp .And (b :: rest) pos) (tE (ct X) W fb)) : PE X (.BoolOp .And (a :: b :: rest) pos) (tE (ct X) W (eAnd fa fb)) :=
  PE.mono (pe_and ha hb) fun σ H Q h => by
    obtain ⟨g, ρ, h0, rh, rs, p⟩ := tG.bind (R := RT (ct X)) (f := fa) (k := fun v ρ h1 => match v with
      | .bl true => fb ρ h1
      | .bl false => .ok (.bl false) h1
      | _ => .no) h
    refine ⟨g, ρ, h0, rh, rs, p.imp fun u H1 ⟨g1, ρ1, v, h1, rh1, rs1, rv1, p1⟩ => ?_⟩
    cases v with
    | bl b =>
      have e : u = .bl b := by have := rv1.rv rfl; rw [RV] at this; exact this
      refine ⟨b, e, ?_⟩
      cases b with
      | true => rw [if_pos rfl]; exact ⟨g1, ρ1, h1, rh1, rs1, p1⟩
      | false => rw [if_neg Bool.false_ne_true]; exact p1 g1 H1 _ .refl rh1 rt_bl
    | _ => exact p1.elim
theorem j_or {a b : Expr} {rest : List Expr} {fa fb : EF} {pos : Pos} (ha : PE X a (tE (ct X) W fa)) (hb : PE X (.BoolOp .Or (b :: rest) pos) (tE (ct X) W fb)) : PE X (.BoolOp .Or (a :: b :: rest) pos) (tE (ct X) W (eOr fa fb)) :=
  PE.mono (pe_or ha hb) fun σ H Q h => by
    obtain ⟨g, ρ, h0, rh, rs, p⟩ := tG.bind (R := RT (ct X)) (f := fa) (k := fun v ρ h1 => match v with
      | .bl true => .ok (.bl true) h1
      | .bl false => fb ρ h1
      | _ => .no) h
    refine ⟨g, ρ, h0, rh, rs, p.imp fun u H1 ⟨g1, ρ1, v, h1, rh1, rs1, rv1, p1⟩ => ?_⟩
    cases v with
    | bl b =>
      have e : u = .bl b := by have := rv1.rv rfl; rw [RV] at this; exact this
      refine ⟨b, e, ?_⟩
      cases b with
      | true => rw [if_pos rfl]; exact p1 g1 H1 _ .refl rh1 rt_bl
      | false => rw [if_neg Bool.false_ne_true]; exact ⟨g1, ρ1, h1, rh1, rs1, p1⟩
    | _ => exact p1.elim
theorem j_not {a : Expr} {fa : EF} {pos : Pos} (ha : PE X a (tE (ct X) W fa)) : PE X (.UnaryOp .Not a pos) (tE (ct X) W (eNot fa)) :=
  PE.mono (pe_not ha) fun σ H Q h => by
    obtain ⟨g, ρ, h0, rh, rs, p⟩ := tG.bind (R := RT (ct X)) (f := fa) (k := fun v ρ h1 => match v with
      | .bl b => .ok (VV.bl (!b)) h1
      | _ => .no) h
    refine ⟨g, ρ, h0, rh, rs, p.imp fun u H1 ⟨g1, ρ1, v, h1, rh1, rs1, rv1, p1⟩ => ?_⟩
    cases v with
    | bl b =>
      have e : u = .bl b := by have := rv1.rv rfl; rw [RV] at this; exact this
      exact ⟨b, e, p1 g1 H1 _ .refl rh1 rt_bl⟩
    | _ => exact p1.elim
/-- a op b op' c -/
def eChain (o o' : Op2) (a b c : EF) : EF := fun ρ h => (a ρ h).bind fun v h1 => (b ρ h1).bind fun w h2 => (lift (o h2 v w) h2).bind fun k h3 => match k with
  | .bl true => (c ρ h3).bind fun z h4 => lift (o' h4 w z) h4
  | .bl false => .ok (.bl false) h3
  | _ => .no
theorem tChain_of {o o' : Op2} {a b c : EF} {σ : St} {H : Hp} {Q : VK} (h : tE (ct X) W (eChain o o' a b c) σ H Q) :
    tChain (Rd2 (ct X) o) (Rd2 (ct X) o') (tE (ct X) W a) (tE (ct X) W b) (tE (ct X) W c) σ H Q := by
  obtain ⟨g, ρ, h0, rh, rs, p⟩ := tG.bind (R := RT (ct X)) (f := a) (k := fun v ρ h1 => (b ρ h1).bind fun w h2 => (lift (o h2 v w) h2).bind fun k h3 => match k with
    | .bl true => (c ρ h3).bind fun z h4 => lift (o' h4 w z) h4
    | .bl false => .ok (.bl false) h3
    | _ => .no) h
  refine ⟨g, ρ, h0, rh, rs, p.imp fun u H1 ⟨g1, ρ1, v, h1, rh1, rs1, rv1, p1⟩ => ?_⟩
  refine ⟨g1, ρ1, h1, rh1, rs1, (Pst.bind (R := RT (ct X)) p1).imp fun u2 H2 ⟨g2, w, h2, st, rh2, rv2, p2⟩ => ?_⟩
  unfold lift at p2
  cases e : o h2 v w with
  | none => rw [e] at p2; exact p2.elim
  | some k =>
    rw [e] at p2
    refine ⟨g2, h2, v, w, k, rh2, rv1.stp st, rv2, e, fun g3 H3 u3 st3 rh3 rv3 => ?_⟩
    cases k with
    | bl bb =>
      have e3 : u3 = .bl bb := by have := rv3.rv rfl; rw [RV] at this; exact this
      refine ⟨bb, e3, ?_⟩
      cases bb with
      | true =>
        rw [if_pos rfl]
        have p3 : Pst (ct X) W σ (RT (ct X)) g2 H2 Q ((c ρ1 h2).bind fun z h4 => lift (o' h4 w z) h4) := p2
        refine ⟨g3, ρ1, h2, rh3, (rs1.stp st).stp st3, (Pst.bind (R := RT (ct X)) (Pst.step st3 p3)).imp fun u4 H4 ⟨g4, z, h4, st4, rh4, rv4, p4⟩ => ?_⟩
        cases e4 : o' h4 w z with
        | none => rw [e4] at p4; exact p4.elim
        | some r =>
          rw [e4] at p4
          exact ⟨g4, h4, w, z, r, rh4, (rv2.stp st3).stp st4, rv4, e4, p4⟩
      | false => rw [if_neg Bool.false_ne_true]; exact p2 g3 H3 _ st3 rh3 rt_bl
    | _ => exact p2.elim
theorem j_chain {o o' : Op2} {op op' : CmpOp} {a b c : Expr} {fa fb fc : EF} {pos : Pos} (ho : OpR X (compareOp op) (Rd2 (ct X) o)) (ho' : OpR X (compareOp op') (Rd2 (ct X) o')) (ha : PE X a (tE (ct X) W fa)) (hb : PE X b (tE (ct X) W fb)) (hc : PE X c (tE (ct X) W fc))
    (hm : lastMarks [op, op'] [b, c] = false := by with_unfolding_all rfl) : PE X (.Compare a [op, op'] [b, c] pos) (tE (ct X) W (eChain o o' fa fb fc)) :=
  PE.mono (pe_chain ho ho' ha hb hc hm) fun σ H Q h => tChain_of h
end
end J

namespace J
open PySem L2
open PyProof.Rows (envOfC)

/-! what is walked -/
structure Deliv (c : Ct) (g0 : Gh) (H0 : Hp) (items : List VV) (J : It) : Prop where
  go : ∀ g H, Stp g0 H0 g H → ∀ (i : Nat), i < items.length → J.go i H
  stop : ∀ g H, Stp g0 H0 g H → ∀ (i : Nat), items.length ≤ i → J.stop i H
  yld : ∀ g H, Stp g0 H0 g H → ∀ (i : Nat) (x : VV) (h : VH), items[i]? = some x → RH c g h H → ∀ u H', J.yld i H u H' → ∃ g', Stp g H g' H' ∧ RH c g' h H' ∧ RT c g' H' x u
abbrev tI (c : Ct) (W : WX) (f : AF) : TI := tG c W (fun g H xs J => Deliv c g H xs J) f

theorem PI.or {X : Cx} {tg e : Expr} {t t' : TI} (a : PI X tg e t) (b : PI X tg e t') : PI X tg e (fun σ H R => t σ H R ∨ t' σ H R) := ⟨fun pins s σ H R I q => q.elim (a.run pins s σ H R I) (b.run pins s σ H R I)⟩

/-! targets -/
structure PatOk (K : PySem.W.Frag) (t : TG) (b : VV → VSt → Option VSt) (own : List Nat) : Prop where
  run : ∀ (c : Ct) (g : Gh) (h : VH) (H : Hp) (ρ : VSt) (σ : St) (v : VV) (u : V) (ρ' : VSt), c.K = K → RH c g h H → RS c g H ρ σ → RT c g H v u → b v ρ = some ρ' →
    ∀ Q : St → Hp → Prop, (∀ σ', RS c g H ρ' σ' → (∀ i, i ∉ own → σ'[i]? = σ[i]?) → σ'.length = σ.length → Q σ' H) → t u σ H Q
structure PatsOk (K : PySem.W.Frag) (t : TGs) (b : List VV → VSt → Option VSt) (own : List Nat) : Prop where
  run : ∀ (c : Ct) (g : Gh) (h : VH) (H : Hp) (ρ : VSt) (σ : St) (v : List VV) (u : List V) (ρ' : VSt), c.K = K → RH c g h H → RS c g H ρ σ → RTs c g H v u → b v ρ = some ρ' →
    ∀ Q : St → Hp → Prop, (∀ σ', RS c g H ρ' σ' → (∀ i, i ∉ own → σ'[i]? = σ[i]?) → σ'.length = σ.length → Q σ' H) → t u σ H Q
def bNm (i : Nat) : VV → VSt → Option VSt := fun v ρ => some (ρ.set i (some v))
def bNil : List VV → VSt → Option VSt := fun vs ρ => match vs with
  | [] => some ρ
  | _ => none
def bCons (a : VV → VSt → Option VSt) (r : List VV → VSt → Option VSt) : List VV → VSt → Option VSt := fun vs ρ => match vs with
  | v :: vs => (a v ρ).bind fun ρ' => r vs ρ'
  | [] => none
def bTup (n : Nat) (r : List VV → VSt → Option VSt) : VV → VSt → Option VSt := fun v ρ => match v with
  | .tup xs => if xs.length = n then r xs ρ else none
  | _ => none
theorem RS.set {c : Ct} {g : Gh} {H : Hp} {ρ : VSt} {σ : St} {v : VV} {u : V} (rs : RS c g H ρ σ) (rv : RT c g H v u) (i : Nat) : RS c g H (ρ.set i (some v)) (σ.set i (some u)) := by
  refine ⟨by rw [List.length_set, List.length_set]; exact rs.len, fun j w e => ?_⟩
  by_cases ij : i = j
  · subst ij
    have hl : i < ρ.length := by have := (List.getElem?_eq_some_iff.mp e).1; simpa using this
    rw [List.getElem?_set_self hl] at e
    cases e
    exact ⟨u, List.getElem?_set_self (by rw [← rs.len]; exact hl), rv⟩
  · rw [List.getElem?_set_ne ij] at e
    rw [List.getElem?_set_ne ij]
    exact rs.get j w e
theorem pat_nm {K : PySem.W.Frag} (i : Nat) : PatOk K (gName i) (bNm i) [i] := ⟨fun c g h H ρ σ v u ρ' ek rh rs rv e Q k => by
  cases e
  refine k _ (rs.set rv i) (fun j hj => ?_) (by rw [List.length_set])
  exact List.getElem?_set_ne (fun z => hj (by rw [z]; exact List.mem_cons_self))⟩
theorem pats_nil {K : PySem.W.Frag} : PatsOk K gNil bNil [] := ⟨fun c g h H ρ σ v u ρ' ek rh rs rv e Q k => by
  cases v with
  | nil => cases e; exact ⟨rv, k _ rs (fun _ _ => rfl) rfl⟩
  | cons => cases e⟩
theorem pats_cons {K : PySem.W.Frag} {t : TG} {u : TGs} {a r l1 l2} (h1 : PatOk K t a l1) (h2 : PatsOk K u r l2) : PatsOk K (gCons t u) (bCons a r) (l1 ++ l2) := ⟨fun c g h H ρ σ v u ρ' ek rh rs rv e Q k => by
  cases v with
  | nil => cases e
  | cons x xs =>
    obtain ⟨y, ys, rfl, ra, rb⟩ := rv
    unfold bCons at e
    obtain ⟨ρ1, e1, e2⟩ := Option.bind_eq_some_iff.mp e
    refine ⟨y, ys, rfl, h1.run c g h H ρ σ x y ρ1 ek rh rs ra e1 _ fun σ1 rs1 o1 len1 => ?_⟩
    refine h2.run c g h H ρ1 σ1 xs ys ρ' ek rh rs1 rb e2 _ fun σ2 rs2 o2 len2 => ?_
    exact k σ2 rs2 (fun i hi => (o2 i (fun z => hi (List.mem_append_right _ z))).trans (o1 i (fun z => hi (List.mem_append_left _ z)))) (len2.trans len1)⟩
theorem pat_tup {K : PySem.W.Frag} {n : Nat} {u : TGs} {r l} (h : PatsOk K u r l) : PatOk K (gTup K n u) (bTup n r) l := ⟨fun c g hh H ρ σ v uu ρ' ek rh rs rv e Q k => by
  cases v with
  | tup xs =>
    unfold bTup at e
    have rv' := rv.rv rfl
    rw [RV] at rv'
    obtain ⟨p, us, eu, sq, rr⟩ := rv'
    simp only at e
    by_cases hn : xs.length = n
    · rw [if_pos hn] at e
      have sq' := sq.sq
      rw [ek] at sq'
      exact ⟨p, us, eu, sq', by rw [← rr.len]; exact hn, h.run c g hh H ρ σ xs us ρ' ek rh rs (RTs.of_rvs rr) e Q k⟩
    · rw [if_neg hn] at e; cases e
  | _ => cases e⟩

/-! comprehensions -/
def wp (ρ : VSt) : List Nat → VSt
  | [] => ρ
  | v :: vs => (wp ρ vs).set v none
theorem wp_length (ρ : VSt) : ∀ vs : List Nat, (wp ρ vs).length = ρ.length
  | [] => rfl
  | v :: vs => by unfold wp; rw [List.length_set, wp_length ρ vs]
theorem wp_some {ρ : VSt} {i : Nat} {x : VV} : ∀ {vs : List Nat}, (wp ρ vs)[i]? = some (some x) → ρ[i]? = some (some x) ∧ i ∉ vs
  | [], h => ⟨h, by simp⟩
  | v :: vs, h => by
    unfold wp at h
    by_cases hi : v = i
    · subst hi
      by_cases hv : v < (wp ρ vs).length
      · rw [List.getElem?_set_self hv] at h; cases h
      · rw [List.getElem?_eq_none (by simpa using hv)] at h; cases h
    · rw [List.getElem?_set_ne hi] at h
      obtain ⟨h1, h2⟩ := wp_some h
      exact ⟨h1, by simp only [List.mem_cons, not_or]; exact ⟨fun e => hi e.symm, h2⟩⟩
theorem RS.wipe {c : Ct} {g : Gh} {H : Hp} {ρ : VSt} {σ : St} (rs : RS c g H ρ σ) (vs : List Nat) : RS c g H (wp ρ vs) (wipe σ vs) := by
  refine ⟨by rw [wp_length, wipe_length]; exact rs.len, fun i v e => ?_⟩
  obtain ⟨a, b⟩ := wp_some e
  rw [wipe_out b]
  exact rs.get i v a
theorem wipe_at (σ : St) : ∀ (vs : List Nat) (i : Nat), i ∈ vs → (wipe σ vs)[i]? = if i < σ.length then some none else none
  | [], i, h => by simp at h
  | v :: vs, i, h => by
    unfold wipe
    by_cases e : v = i
    · subst e
      by_cases hl : v < σ.length
      · rw [List.getElem?_set_self (by rw [wipe_length]; exact hl), if_pos hl]
      · rw [List.getElem?_eq_none (by rw [List.length_set, wipe_length]; omega), if_neg hl]
    · rw [List.getElem?_set_ne e]
      exact wipe_at σ vs i (by rcases List.mem_cons.mp h with h | h; exact absurd h.symm e; exact h)
theorem wipe_same {σ σ2 : St} {vs : List Nat} (hl : σ2.length = σ.length) (h : ∀ i, i ∉ vs → σ2[i]? = σ[i]?) : wipe σ2 vs = wipe σ vs := by
  apply List.ext_getElem?
  intro i
  by_cases hi : i ∈ vs
  · rw [wipe_at σ2 vs i hi, wipe_at σ vs i hi, hl]
  · rw [wipe_out hi, wipe_out hi, h i hi]

def lcGo (b : VV → VSt → Option VSt) (t : TF) (e : EF) (ρ : VSt) : List VV → VH → Res (List VV)
  | [], h => .ok [] h
  | x :: xs, h => match b x ρ with
    | none => .no
    | some ρ' => (t ρ' h).bind fun k h1 => if k = true then (e ρ' h1).bind fun v h2 => if v.isObj = true then .no else (lcGo b t e ρ xs h2).bind fun vs h3 => .ok (v :: vs) h3 else lcGo b t e ρ xs h1
/-- [e for .. in .. if ..] as data -/
def eLc (own : List Nat) (it : AF) (b : VV → VSt → Option VSt) (t : TF) (e : EF) : EF := fun ρ h => (it ρ h).bind fun xs h1 => if xs.length > SZ then .no else match lcGo b t e (wp ρ own) xs h1 with
  | .ok vs h2 => .ok (.lst vs) h2
  | _ => .no
def eLcO (own : List Nat) (it : AF) (b : VV → VSt → Option VSt) (t : TF) (e : EF) : EF := fun ρ h => (it ρ h).bind fun xs h1 => if xs.length > SZ then .no else match lcGo b t e (wp ρ own) xs h1 with
  | .ok vs h2 => .ok (.obj h2.length) (h2 ++ [.fl vs])
  | _ => .no
def tTrue : TF := fun _ h => .ok true h

theorem Stp.back {g g' : Gh} {H H' : Hp} {D : Addr} (s : Stp (g.keep D) H g' H') : Stp g H (g'.back g.kp) H' := ⟨s.io, s.fz, fun _ h => h, s.fH, fun p h => s.kH p (.inl h)⟩
theorem RVs.gback {c : Ct} {g : Gh} {H : Hp} {k : Addr → Prop} {vs : List VV} {us : List V} (h : RVs c g.fz H vs us) : RVs c (g.back k).fz H vs us := h

/-- the loop of a comprehension, whatever is made of the new list -/
theorem lc_run {c : Ct} {W0 : WX} {Wx : WX} {own : List Nat} {b : VV → VSt → Option VSt} {ft : TF} {fe : EF} {tg : TG} {J : It} {xs : List VV} {ρ : VSt} {σ : St} {g : Gh} {h : VH} {H1 : Hp} {D : Addr} {Q : VK} {K : PySem.W.Frag}
    (hW : ∀ a d s h, W0 a d s h → False) (ek : c.K = K) (pat : PatOk K tg b own) (dl : Deliv c g H1 xs J) (hsz : xs.length ≤ SZ) (rh : RH c g h H1) (rs : RS c g H1 ρ σ) (hD : H1 D = none)
    (fin : match lcGo b ft fe (wp ρ own) xs h with
      | .ok vs h' => ∀ g' H' us, Stp g H1 g' H' → RH c g' h' H' → H' D = some (.lst us) → ¬ g'.fz D → D ∉ g'.io → ¬ g'.kp D → RVs c g'.fz H' vs us → Q (.ref D) H'
      | _ => False) :
    ∃ Wv : Nat → Nat → Hp → Prop, (∃ m, Wv 0 m (upd H1 D (.lst []))) ∧ ∀ i m H, Wv i m H →
      (J.stop i H ∧ Q (.ref D) H) ∨ (J.go i H ∧ ∃ Nx : Hp → Prop, (∀ H', Nx H' → ∃ m', m' < m ∧ Wv (i + 1) m' H') ∧ ∀ x H', J.yld i H x H' → tg x (wipe σ own) H' fun σ2 H2 => wipe σ2 own = wipe σ own ∧ tT c W0 ft σ2 H2 fun bb H3 =>
        if bb = true then tE c W0 fe σ2 H3 fun y H4 => ∃ acc, H4 D = some (.lst acc) ∧ acc.length < sizeLine ∧ Nx (upd H4 D (.lst (acc ++ [y]))) else Nx H3) := by
  -- the invariant
  let P : Nat → Hp → Prop := fun i H => ∃ (gi : Gh) (hi : VH) (acc : List VV) (us : List V), acc.length ≤ i ∧ Stp g H1 gi H ∧ RH c gi hi H ∧ H D = some (.lst us) ∧ ¬ gi.fz D ∧ D ∉ gi.io ∧ ¬ gi.kp D ∧ RVs c gi.fz H acc us ∧
    (match lcGo b ft fe (wp ρ own) (xs.drop i) hi with
      | .ok vs h' => ∀ g' H' us, Stp gi H g' H' → RH c g' h' H' → H' D = some (.lst us) → ¬ g'.fz D → D ∉ g'.io → ¬ g'.kp D → RVs c g'.fz H' (acc ++ vs) us → Q (.ref D) H'
      | _ => False)
  refine ⟨fun i m H => m = xs.length - i ∧ i ≤ xs.length ∧ P i H, ⟨xs.length, by simp, Nat.zero_le _, ?_⟩, ?_⟩
  · refine ⟨g, h, [], [], Nat.le_refl _, .junk rh hD, rh.junk hD, upd_same, fun z => ?_, fun z => ?_, fun z => ?_, RVs.nil, ?_⟩
    · obtain ⟨o, e⟩ := rh.fz D z; rw [hD] at e; cases e
    · obtain ⟨o, e⟩ := rh.root z; rw [hD] at e; cases e
    · obtain ⟨o, e⟩ := rh.kp D z; rw [hD] at e; cases e
    · rw [List.drop_zero]
      generalize lcGo b ft fe (wp ρ own) xs h = r at fin ⊢
      cases r with
      | ok vs h' =>
        intro g' H' us st
        rw [List.nil_append]
        exact fin g' H' us ((Stp.junk rh hD).trans st)
      | no => exact fin
      | exc _ _ _ _ => exact fin
  · rintro i m H ⟨rfl, hi, gi, hh, acc, us, hacc, st, rhi, hDl, nf, ni, nk, rvs, fin⟩
    by_cases hlt : i < xs.length
    · refine .inr ⟨dl.go gi H st i hlt, P (i + 1), fun H' p' => ⟨xs.length - (i + 1), by omega, rfl, hlt, p'⟩, fun x H' y => ?_⟩
      have ed : xs.drop i = xs[i] :: xs.drop (i + 1) := List.drop_eq_getElem_cons hlt
      have rhk : RH c (gi.keep D) hh H := rhi.keep hDl nf ni
      have stk : Stp g H1 (gi.keep D) H := st.trans .keep
      obtain ⟨g1, st1, rh1, rt1⟩ := dl.yld (gi.keep D) H stk i xs[i] hh (List.getElem?_eq_getElem hlt) rhk x H' y
      rw [ed] at fin
      unfold lcGo at fin
      cases e : b xs[i] (wp ρ own) with
      | none => rw [e] at fin; exact fin.elim
      | some ρ' =>
        rw [e] at fin
        simp only at fin
        have rs1 : RS c g1 H' (wp ρ own) (wipe σ own) := ((rs.wipe own).stp stk).stp st1
        refine pat.run c g1 hh H' _ _ _ _ ρ' ek rh1 rs1 rt1 e _ fun σ2 rs2 o2 l2 => ⟨?_, ?_⟩
        · refine wipe_same (l2.trans (wipe_length _ _)) fun j hj => (o2 j hj).trans (wipe_out hj)
        · refine ⟨g1, ρ', hh, rh1, rs2, ?_⟩
          cases et : ft ρ' hh with
          | no => rw [et] at fin; exact fin.elim
          | exc _ _ _ _ => rw [et] at fin; exact fin.elim
          | ok k h1 =>
            rw [et] at fin
            intro g2 H2 bb st2 rh2 eb
            cases (show bb = k from eb)
            -- D is kept
            have hD2 : H2 D = some (.lst us) := by rw [st2.kH D (st1.kp D (.inr rfl)), st1.kH D (.inr rfl)]; exact hDl
            have kD2 : g2.kp D := st2.kp D (st1.kp D (.inr rfl))
            have s12 : Stp (gi.keep D) H g2 H2 := st1.trans st2
            cases k with
            | false =>
              rw [if_neg Bool.false_ne_true]
              have fin' : match lcGo b ft fe (wp ρ own) (xs.drop (i + 1)) h1 with
                | .ok vs h' => ∀ g' H' us, Stp gi H g' H' → RH c g' h' H' → H' D = some (.lst us) → ¬ g'.fz D → D ∉ g'.io → ¬ g'.kp D → RVs c g'.fz H' (acc ++ vs) us → Q (.ref D) H'
                | _ => False := by
                simp only [Res.bind, if_neg Bool.false_ne_true] at fin; exact fin
              refine ⟨g2.back gi.kp, h1, acc, us, Nat.le_succ_of_le hacc, st.trans s12.back, rh2.back (fun p z => s12.kp p (.inl z)), hD2, (rh2.kd D kD2).1, (rh2.kd D kD2).2, nk, RVs.gback (s12.rvs (show RVs c (gi.keep D).fz H acc us from rvs)), ?_⟩
              generalize lcGo b ft fe (wp ρ own) (xs.drop (i + 1)) h1 = r at fin' ⊢
              cases r with
              | ok vs h' => exact fun g' H' us' st' => fin' g' H' us' (s12.back.trans st')
              | no => exact fin'
              | exc _ _ _ _ => exact fin'
            | true =>
              rw [if_pos rfl]
              refine ⟨g2, ρ', h1, rh2, rs2.stp st2, ?_⟩
              simp only [Res.bind, if_pos rfl] at fin
              cases ee : fe ρ' h1 with
              | no => rw [ee] at fin; exact fin.elim
              | exc _ _ _ _ => rw [ee] at fin; exact fin.elim
              | ok v h2 =>
                rw [ee] at fin
                simp only at fin
                intro g3 H3 yv st3 rh3 rv3
                have s13 : Stp (gi.keep D) H g3 H3 := s12.trans st3
                have kD3 : g3.kp D := st3.kp D kD2
                have hD3 : H3 D = some (.lst us) := by rw [st3.kH D kD2]; exact hD2
                have rvs3 : RVs c g3.fz H3 acc us := s13.rvs (show RVs c (gi.keep D).fz H acc us from rvs)
                have nf3 := (rh3.kd D kD3).1
                have ni3 := (rh3.kd D kD3).2
                refine ⟨us, hD3, by rw [← rvs.len]; exact SZ_lt (by omega), ?_⟩
                cases ov : v.isObj with
                | true => rw [ov] at fin; simp at fin
                | false =>
                  simp only [ov, if_neg Bool.false_ne_true] at fin
                  -- write D
                  have sw : Stp (g3.back gi.kp) H3 (g3.back gi.kp) (upd H3 D (.lst (us ++ [yv]))) := Stp.wr (c := c) nf3 nk
                  have rhb : RH c (g3.back gi.kp) h2 H3 := rh3.back (fun p z => s13.kp p (.inl z))
                  have rhw : RH c (g3.back gi.kp) h2 (upd H3 D (.lst (us ++ [yv]))) := by
                    refine ⟨rhb.len, rhb.nd, fun n o a q1 q2 => ?_, fun q z => ?_, fun q z => ?_, rhb.kd⟩
                    · have na : a ≠ D := fun z => ni3 (z ▸ List.mem_of_getElem? q2)
                      exact RO.stp sw (fun h => h) (upd_ne na) (rhb.at' n o a q1 q2)
                    · rw [upd_ne (show q ≠ D from fun e => nf3 (e ▸ z))]; exact rhb.fz q z
                    · rw [upd_ne (show q ≠ D from fun e => nk (e ▸ z))]; exact rhb.kp q z
                  refine ⟨g3.back gi.kp, h2, acc ++ [v], us ++ [yv], by rw [List.length_append]; simp; omega, (st.trans s13.back).trans sw, rhw, upd_same, nf3, ni3, nk, ?_, ?_⟩
                  · exact sw.rvs (RVs.app (RVs.gback rvs3) (RVs.one (rv3.rv ov)))
                  · generalize lcGo b ft fe (wp ρ own) (xs.drop (i + 1)) h2 = r at fin ⊢
                    cases r with
                    | ok vs h' =>
                      intro g' H' us' st' rh' d1 d2 d3 d4 rv'
                      rw [List.append_assoc] at rv'
                      exact fin g' H' us' ((s13.back.trans sw).trans st') rh' d1 d2 d3 d4 rv'
                    | no => exact fin
                    | exc _ _ _ _ => exact fin
    · have e : i = xs.length := by omega
      subst e
      refine .inl ⟨dl.stop gi H st _ (Nat.le_refl _), ?_⟩
      rw [List.drop_length] at fin
      unfold lcGo at fin
      refine fin gi H us .refl rhi hDl nf ni nk ?_
      rw [List.append_nil]; exact rvs

section
variable {X : Cx} {W : WX}
abbrev W0 : WX := fun _ _ _ _ => False
theorem jts_nil : PTs X [] (tT (ct X) W tTrue) := ⟨fun pins s σ H Q I h => by
  obtain ⟨g, ρ, h0, rh, rs, p⟩ := h
  exact pts_nil.run pins s σ H Q I (show tYes σ H Q from p g H true .refl rh rfl)⟩
theorem jts_one {c : Expr} {f : TF} (h : PT X c (tT (ct X) W f)) : PTs X [c] (tT (ct X) W f) := pts_one h

theorem tLc_of {own : List Nat} {it : AF} {b : VV → VSt → Option VSt} {ft : TF} {fe : EF} {tg : TG} {mk : List VV → VH → Res VV} (pat : PatOk X.K tg b own)
    (hmk : ∀ (g : Gh) (h : VH) (H : Hp) (D : Addr) (vs : List VV) (us : List V) (σ : St) (Q : VK), RH (ct X) g h H → H D = some (.lst us) → ¬ g.fz D → D ∉ g.io → ¬ g.kp D → RVs (ct X) g.fz H vs us → Pst (ct X) W σ (RT (ct X)) g H Q (mk vs h) → Q (.ref D) H)
    {σ : St} {H : Hp} {Q : VK} (h : tE (ct X) W (fun ρ h => (it ρ h).bind fun xs h1 => if xs.length > SZ then .no else (match lcGo b ft fe (wp ρ own) xs h1 with
      | .ok vs h2 => mk vs h2
      | _ => .no)) σ H Q) :
    tLc (tI (ct X) W it) tg (tT (ct X) W0 ft) (tE (ct X) W0 fe) own σ H Q := by
  obtain ⟨g, ρ, h0, rh, rs, p⟩ := tG.bind (R := fun g H xs J => Deliv (ct X) g H xs J) (f := it) (k := fun (xs : List VV) ρ h1 => if xs.length > SZ then .no else (match lcGo b ft fe (wp ρ own) xs h1 with
      | .ok vs h2 => mk vs h2
      | _ => .no)) h
  refine ⟨g, ρ, h0, rh, rs, p.imp fun J H1 ⟨g1, ρ1, xs, h1, rh1, rs1, dl, p1⟩ D hD => ?_⟩
  by_cases hz : xs.length > SZ
  · rw [if_pos hz] at p1; exact p1.elim
  · rw [if_neg hz] at p1
    refine lc_run (Wx := W) (fun _ _ _ _ z => z) rfl pat dl (by omega) rh1 rs1 hD ?_
    generalize lcGo b ft fe (wp ρ1 own) xs h1 = r at p1 ⊢
    cases r with
    | ok vs h' => exact fun g' H' us st rh' d1 d2 d3 d4 rv' => hmk g' h' H' D vs us σ Q rh' d1 d2 d3 d4 rv' (Pst.step st p1)
    | no => exact p1
    | exc _ _ _ _ => exact p1
theorem mk_lst (g : Gh) (h : VH) (H : Hp) (D : Addr) (vs : List VV) (us : List V) (σ : St) (Q : VK) (rh : RH (ct X) g h H) (e : H D = some (.lst us)) (nf : ¬ g.fz D) (ni : D ∉ g.io) (nk : ¬ g.kp D) (rv : RVs (ct X) g.fz H vs us)
    (p : Pst (ct X) W σ (RT (ct X)) g H Q (.ok (.lst vs) h)) : Q (.ref D) H := by
  have st : Stp g H (g.frz D) H := .kill
  refine p (g.frz D) H (.ref D) st ⟨rh.len, rh.nd, fun n o a h1 h2 => ?_, fun q z => ?_, rh.kp, fun q z => ⟨fun y => y.elim (rh.kd q z).1 (fun e => nk (e ▸ z)), (rh.kd q z).2⟩⟩ ?_
  · exact RO.stp st (fun x z => z.elim x (fun e => ni (e ▸ List.mem_of_getElem? h2))) rfl (rh.at' n o a h1 h2)
  · rcases z with z | z
    · exact rh.fz q z
    · rw [z]; exact ⟨_, e⟩
  · show RV _ _ _ _ _
    rw [RV]
    exact ⟨D, us, rfl, .inr rfl, e, st.rvs rv⟩
theorem mk_root (g : Gh) (h : VH) (H : Hp) (D : Addr) (vs : List VV) (us : List V) (σ : St) (Q : VK) (rh : RH (ct X) g h H) (e : H D = some (.lst us)) (nf : ¬ g.fz D) (ni : D ∉ g.io) (nk : ¬ g.kp D) (rv : RVs (ct X) g.fz H vs us)
    (p : Pst (ct X) W σ (RT (ct X)) g H Q (.ok (.obj h.length) (h ++ [.fl vs]))) : Q (.ref D) H := by
  refine p (g.add D) H (.ref D) .add (rh.add ni nk ⟨nf, us, e, rv⟩) ⟨D, ?_, rfl⟩
  show (g.io ++ [D])[h.length]? = some D
  rw [← rh.len, List.getElem?_append_right (Nat.le_refl _), Nat.sub_self]; rfl
theorem j_lc {elt tg iter : Expr} {ifs : List Expr} {scope : Scope} {own : List (Str × Nat)} {pos : Pos} {it : AF} {g : TG} {b : VV → VSt → Option VSt} {ft : TF} {fe : EF} (hc : X.calm = true) (hN : X.N.Nodup) (hi : PI X tg iter (tI (ct X) W it)) (ok : BlkOk X.N X.env.scope scope own)
    (hg : ∀ (s : Shared) (H : Hp) (C : Addr) (cl : List (Str × Addr)) (fp : List Addr), PG (X.blk s H scope (compEnvC scope cl C X.env) fp) tg g) (pat : PatOk X.K g b (own.map (·.2)))
    (ht : ∀ (s : Shared) (H : Hp) (C : Addr) (cl : List (Str × Addr)) (fp : List Addr), PTs (X.blk s H scope (compEnvC scope cl C X.env) fp) ifs (tT (ct X) W0 ft))
    (he : ∀ (s : Shared) (H : Hp) (C : Addr) (cl : List (Str × Addr)) (fp : List Addr), PE (X.blk s H scope (compEnvC scope cl C X.env) fp) elt (tE (ct X) W0 fe)) (hs : ∀ x, foldedSetIterable iter X.env x = pure x := by intro _; rfl) :
    PE X (.ListComp elt [⟨tg, iter, ifs, 0⟩] scope pos) (tE (ct X) W (eLc (own.map (·.2)) it b ft fe)) :=
  PE.mono (pe_lc hc hN hi ok hg ht he hs) fun σ H Q h => by
    exact tLc_of (mk := fun vs h => .ok (.lst vs) h) pat mk_lst h
theorem j_lcO {elt tg iter : Expr} {ifs : List Expr} {scope : Scope} {own : List (Str × Nat)} {pos : Pos} {it : AF} {g : TG} {b : VV → VSt → Option VSt} {ft : TF} {fe : EF} (hc : X.calm = true) (hN : X.N.Nodup) (hi : PI X tg iter (tI (ct X) W it)) (ok : BlkOk X.N X.env.scope scope own)
    (hg : ∀ (s : Shared) (H : Hp) (C : Addr) (cl : List (Str × Addr)) (fp : List Addr), PG (X.blk s H scope (compEnvC scope cl C X.env) fp) tg g) (pat : PatOk X.K g b (own.map (·.2)))
    (ht : ∀ (s : Shared) (H : Hp) (C : Addr) (cl : List (Str × Addr)) (fp : List Addr), PTs (X.blk s H scope (compEnvC scope cl C X.env) fp) ifs (tT (ct X) W0 ft))
    (he : ∀ (s : Shared) (H : Hp) (C : Addr) (cl : List (Str × Addr)) (fp : List Addr), PE (X.blk s H scope (compEnvC scope cl C X.env) fp) elt (tE (ct X) W0 fe)) (hs : ∀ x, foldedSetIterable iter X.env x = pure x := by intro _; rfl) :
    PE X (.ListComp elt [⟨tg, iter, ifs, 0⟩] scope pos) (tE (ct X) W (eLcO (own.map (·.2)) it b ft fe)) :=
  PE.mono (pe_lc hc hN hi ok hg ht he hs) fun σ H Q h => by
    exact tLc_of (mk := fun vs (h : VH) => .ok (.obj h.length) (h ++ [VO.fl vs])) pat mk_root h

/-! statements -/
inductive SR where
  | no
  | nx (ρ : VSt) (h : VH)
  | ret (v : VV) (h : VH)
  | brk (ρ : VSt) (h : VH)
  | cnt (ρ : VSt) (h : VH)
  | exc (x : Str) (ns : List Str) (vs : List VV) (ρ : VSt) (h : VH)
abbrev SF := VSt → VH → SR
def PS1 (c : Ct) (W : WX) (g : Gh) (H : Hp) (D : Ends) : SR → Prop
  | .no => False
  | .nx ρ h => ∀ g' H' σ', Stp g H g' H' → RH c g' h H' → RS c g' H' ρ σ' → D.nx σ' H'
  | .ret v h => ∀ g' H' u, Stp g H g' H' → RH c g' h H' → RT c g' H' v u → D.rt u H'
  | .brk ρ h => ∀ g' H' σ', Stp g H g' H' → RH c g' h H' → RS c g' H' ρ σ' → D.bk σ' H'
  | .cnt ρ h => ∀ g' H' σ', Stp g H g' H' → RH c g' h H' → RS c g' H' ρ σ' → D.ct σ' H'
  | .exc x ns vs ρ h => ∀ g' H' σ' C d us, Stp g H g' H' → RH c g' h H' → RS c g' H' ρ σ' → c.mg x = some (.ref C) → H' d = some (.xd (ns.zip us)) → ns.length = us.length → RVs c g'.fz H' vs us → W (.ref C) (some d) σ' H'
theorem PS1.step {c : Ct} {W : WX} {g g1 : Gh} {H H1 : Hp} {D : Ends} {r : SR} (s : Stp g H g1 H1) (h : PS1 c W g H D r) : PS1 c W g1 H1 D r := by
  cases r with
  | no => exact h
  | nx => exact fun g' H' σ' st => h g' H' σ' (s.trans st)
  | ret => exact fun g' H' σ' st => h g' H' σ' (s.trans st)
  | brk => exact fun g' H' σ' st => h g' H' σ' (s.trans st)
  | cnt => exact fun g' H' σ' st => h g' H' σ' (s.trans st)
  | exc => exact fun g' H' σ' C d us st => h g' H' σ' C d us (s.trans st)
def tS (c : Ct) (W : WX) (F : SF) : TS := fun D σ H => ∃ g ρ h, RH c g h H ∧ RS c g H ρ σ ∧ PS1 c W g H D (F ρ h)
/-- from an expression's result to a statement's -/
def Res.st {α : Type} (r : Res α) (ρ : VSt) (k : α → VH → SR) : SR := match r with
  | .no => .no
  | .ok a h => k a h
  | .exc x ns vs h => .exc x ns vs ρ h
theorem Pst.st {α β : Type} {R : Gh → Hp → α → β → Prop} {c : Ct} {W : WX} {σ : St} {g : Gh} {H : Hp} {D : Ends} {r : Res α} {ρ : VSt} {k : α → VH → SR} (rs : RS c g H ρ σ) (h : PS1 c W g H D (r.st ρ k)) :
    Pst c W σ R g H (fun u H1 => ∃ g1 v h1, Stp g H g1 H1 ∧ RH c g1 h1 H1 ∧ RS c g1 H1 ρ σ ∧ R g1 H1 v u ∧ PS1 c W g1 H1 D (k v h1)) r := by
  cases r with
  | no => exact h
  | ok v h' => exact fun g' H' u st rh rv => ⟨g', v, h', st, rh, rs.stp st, rv, PS1.step st h⟩
  | exc x ns vs h' => exact fun g' H' C d us st rh m e l rv => h g' H' σ C d us st rh (rs.stp st) m e l rv

def sSkip : SF := fun ρ h => .nx ρ h
def sSeq (a b : SF) : SF := fun ρ h => match a ρ h with
  | .nx ρ' h' => b ρ' h'
  | r => r
def sAsg (e : EF) (b : VV → VSt → Option VSt) : SF := fun ρ h => (e ρ h).st ρ fun v h1 => match b v ρ with
  | some ρ' => .nx ρ' h1
  | none => .no
def sSet (i : Nat) (e : EF) : SF := fun ρ h => (e ρ h).st ρ fun v h1 => .nx (ρ.set i (some v)) h1
def sIf (c : TF) (a b : SF) : SF := fun ρ h => (c ρ h).st ρ fun k h1 => if k = true then a ρ h1 else b ρ h1
def sRet (e : EF) : SF := fun ρ h => (e ρ h).st ρ fun v h1 => .ret v h1
def sExpr (e : EF) : SF := fun ρ h => (e ρ h).st ρ fun v h1 => .nx ρ h1
def forGo (b : VV → VSt → Option VSt) (body : SF) : List VV → VSt → VH → SR
  | [], ρ, h => .nx ρ h
  | x :: xs, ρ, h => match b x ρ with
    | none => .no
    | some ρ' => match body ρ' h with
      | .nx ρ2 h2 => forGo b body xs ρ2 h2
      | .cnt ρ2 h2 => forGo b body xs ρ2 h2
      | .brk ρ2 h2 => .nx ρ2 h2
      | r => r
def sFor (it : AF) (b : VV → VSt → Option VSt) (body : SF) : SF := fun ρ h => (it ρ h).st ρ fun xs h1 => forGo b body xs ρ h1
def whGo (c : TF) (body : SF) : Nat → VSt → VH → SR
  | 0, _, _ => .no
  | n + 1, ρ, h => (c ρ h).st ρ fun k h1 => if k = true then (match body ρ h1 with
      | .nx ρ2 h2 => whGo c body n ρ2 h2
      | .cnt ρ2 h2 => whGo c body n ρ2 h2
      | .brk ρ2 h2 => .nx ρ2 h2
      | r => r) else .nx ρ h1

theorem js_nil : PSs X [] (tS (ct X) W sSkip) := PSs.mono pss_nil fun D σ H ⟨g, ρ, h, rh, rs, p⟩ => p g H σ .refl rh rs
theorem js_pass {pos : Pos} : PS X (.Pass pos) (tS (ct X) W sSkip) := PS.mono ps_pass fun D σ H ⟨g, ρ, h, rh, rs, p⟩ => p g H σ .refl rh rs
theorem js_brk {pos : Pos} : PS X (.Break pos) (tS (ct X) W (fun ρ h => .brk ρ h)) := PS.mono ps_break fun D σ H ⟨g, ρ, h, rh, rs, p⟩ => p g H σ .refl rh rs
theorem js_cnt {pos : Pos} : PS X (.Continue pos) (tS (ct X) W (fun ρ h => .cnt ρ h)) := PS.mono ps_continue fun D σ H ⟨g, ρ, h, rh, rs, p⟩ => p g H σ .refl rh rs
theorem js_cons {st : Stmt} {rest : List Stmt} {fa fb : SF} (h1 : PS X st (tS (ct X) W fa)) (h2 : PSs X rest (tS (ct X) W fb)) : PSs X (st :: rest) (tS (ct X) W (sSeq fa fb)) :=
  PSs.mono (pss_cons h1 h2) fun D σ H ⟨g, ρ, h, rh, rs, p⟩ => by
    refine ⟨g, ρ, h, rh, rs, ?_⟩
    unfold sSeq at p
    cases e : fa ρ h with
    | nx ρ' h' =>
      rw [e] at p
      exact fun g' H' σ' st rh' rs' => ⟨g', ρ', h', rh', rs', PS1.step st p⟩
    | no => rw [e] at p; exact p
    | ret => rw [e] at p; exact p
    | brk => rw [e] at p; exact p
    | cnt => rw [e] at p; exact p
    | exc => rw [e] at p; exact p
theorem js_one {st : Stmt} {fa : SF} (h1 : PS X st (tS (ct X) W fa)) : PSs X [st] (tS (ct X) W fa) := pss_one h1
theorem js_asg {tg e : Expr} {f : EF} {g : TG} {b : VV → VSt → Option VSt} {own : List Nat} {pos : Pos} (he : PE X e (tE (ct X) W f)) (hg : PG X tg g) (pat : PatOk X.K g b own) (hs : swapsWithSole [tg] e pos.line X.env = pure false := by rfl) (hw : swappedStores [tg] e X.env = pure none := by rfl) (h1 : (assignEach [tg] X.env).map (·.2) = [assign tg X.env] := by rfl) :
    PS X (.Assign [tg] e pos) (tS (ct X) W (sAsg f b)) :=
  PS.mono (ps_asg he hg hs hw h1) fun D σ H ⟨g, ρ, h, rh, rs, p⟩ => by
    refine ⟨g, ρ, h, rh, rs, (Pst.st (R := RT (ct X)) rs p).imp fun u H1 ⟨g1, v, h1, st, rh1, rs1, rv1, p1⟩ => ?_⟩
    cases e : b v ρ with
    | none => rw [e] at p1; exact p1.elim
    | some ρ' =>
      rw [e] at p1
      exact pat.run (ct X) g1 h1 H1 ρ σ v u ρ' rfl rh1 rs1 rv1 e _ fun σ' rs' _ _ => p1 g1 H1 σ' .refl rh1 rs'
theorem js_set {i : Nat} {x : Str} {e : Expr} {f : EF} {pos pos' : Pos} (hN : X.N.Nodup) (hi : X.N[i]? = some x) (hx : Loc X.env.scope x) (he : PE X e (tE (ct X) W f)) (hs : swapsWith e (some (.Name x pos')) pos.line X.env = pure false := by rfl)
    (hf : X.fn x = true ∨ X.env.scope.names.lookup x = some .local := by first | exact .inl rfl | exact .inr rfl | assumption) :
    PS X (.Assign [.Name x pos'] e pos) (tS (ct X) W (sSet i f)) :=
  PS.mono (ps_set (i := i) hN hi hx he hs hf) fun D σ H ⟨g, ρ, h, rh, rs, p⟩ => by
    refine ⟨g, ρ, h, rh, rs, (Pst.st (R := RT (ct X)) rs p).imp fun u H1 ⟨g1, v, h1, st, rh1, rs1, rv1, p1⟩ => ?_⟩
    exact p1 g1 H1 _ .refl rh1 (rs1.set rv1 i)
theorem js_if {c : Expr} {a b : List Stmt} {fc : TF} {fa fb : SF} {pos : Pos} (hc : PT X c (tT (ct X) W fc)) (ha : PSs X a (tS (ct X) W fa)) (hb : PSs X b (tS (ct X) W fb)) : PS X (.If c a b pos) (tS (ct X) W (sIf fc fa fb)) :=
  PS.mono (ps_if hc ha hb) fun D σ H ⟨g, ρ, h, rh, rs, p⟩ => by
    refine ⟨g, ρ, h, rh, rs, (Pst.st (R := RB) rs p).imp fun u H1 ⟨g1, v, h1, st, rh1, rs1, rv1, p1⟩ => ?_⟩
    cases rv1
    cases u with
    | true => rw [if_pos rfl] at p1 ⊢; exact ⟨g1, ρ, h1, rh1, rs1, p1⟩
    | false => rw [if_neg Bool.false_ne_true] at p1 ⊢; exact ⟨g1, ρ, h1, rh1, rs1, p1⟩
theorem js_ret {e : Expr} {f : EF} {pos : Pos} (he : PE X e (tE (ct X) W f)) : PS X (.Return (some e) pos) (tS (ct X) W (sRet f)) :=
  PS.mono (ps_ret he) fun D σ H ⟨g, ρ, h, rh, rs, p⟩ => by
    refine ⟨g, ρ, h, rh, rs, (Pst.st (R := RT (ct X)) rs p).imp fun u H1 ⟨g1, v, h1, st, rh1, rs1, rv1, p1⟩ => ?_⟩
    exact p1 g1 H1 u .refl rh1 rv1
theorem js_expr {e : Expr} {f : EF} {pos : Pos} (he : PE X e (tE (ct X) W f)) (hs : swapsWith e none pos.line X.env = pure false := by rfl) : PS X (.Expr e pos) (tS (ct X) W (sExpr f)) :=
  PS.mono (ps_expr he hs) fun D σ H ⟨g, ρ, h, rh, rs, p⟩ => by
    refine ⟨g, ρ, h, rh, rs, (Pst.st (R := RT (ct X)) rs p).imp fun u H1 ⟨g1, v, h1, st, rh1, rs1, rv1, p1⟩ => ?_⟩
    exact p1 g1 H1 σ .refl rh1 rs1
theorem js_for {tg iter : Expr} {body : List Stmt} {it : AF} {g : TG} {b : VV → VSt → Option VSt} {own : List Nat} {fb : SF} {pos : Pos} (hp : PassesOwn (model X.prog X.w) X.A X.env X.xe) (hc : X.calm = true) (hi : PI X tg iter (tI (ct X) W it)) (hg : PG X tg g) (pat : PatOk X.K g b own) (hb : PSs X body (tS (ct X) W fb))
    (hs : ∀ x, foldedSetIterable iter X.env x = pure x := by intro _; rfl) : PS X (.For tg iter body [] pos) (tS (ct X) W (sFor it b fb)) :=
  PS.mono (ps_for hp hc hi hg hb hs) fun D σ H ⟨g, ρ, h, rh, rs, p⟩ => by
    refine ⟨g, ρ, h, rh, rs, (Pst.st (R := fun g H xs J => Deliv (ct X) g H xs J) rs p).imp fun J H1 ⟨g1, xs, h1, st, rh1, rs1, dl, p1⟩ => ?_⟩
    let P : Nat → St → Hp → Prop := fun i σ' H' => ∃ (gi : Gh) (ρi : VSt) (hi : VH), Stp g1 H1 gi H' ∧ RH (ct X) gi hi H' ∧ RS (ct X) gi H' ρi σ' ∧ PS1 (ct X) W gi H' D (forGo b fb (xs.drop i) ρi hi)
    refine ⟨fun i m σ' H' => m = xs.length - i ∧ i ≤ xs.length ∧ P i σ' H', ⟨xs.length, by simp, Nat.zero_le _, g1, ρ, h1, .refl, rh1, rs1, by rw [List.drop_zero]; exact p1⟩, ?_⟩
    rintro i m σ' H' ⟨rfl, hi, gi, ρi, hh, sti, rhi, rsi, pi⟩
    by_cases hlt : i < xs.length
    · have ed : xs.drop i = xs[i] :: xs.drop (i + 1) := List.drop_eq_getElem_cons hlt
      refine .inr ⟨dl.go gi H' sti i hlt, P (i + 1), fun σ2 H2 p2 => ⟨xs.length - (i + 1), by omega, rfl, hlt, p2⟩, fun x H2 y => ?_⟩
      obtain ⟨g2, st2, rh2, rt2⟩ := dl.yld gi H' sti i xs[i] hh (List.getElem?_eq_getElem hlt) rhi x H2 y
      rw [ed] at pi
      unfold forGo at pi
      cases e : b xs[i] ρi with
      | none => rw [e] at pi; exact pi.elim
      | some ρ' =>
        rw [e] at pi
        simp only at pi
        refine pat.run (ct X) g2 hh H2 ρi σ' xs[i] x ρ' rfl rh2 (rsi.stp st2) rt2 e _ fun σ3 rs3 _ _ => ⟨g2, ρ', hh, rh2, rs3, ?_⟩
        cases eb : fb ρ' hh with
        | no => rw [eb] at pi; exact pi
        | nx ρ2 h2 => rw [eb] at pi; exact fun g' H' σ' st rh' rs' => ⟨g', ρ2, h2, (sti.trans st2).trans st, rh', rs', PS1.step (st2.trans st) pi⟩
        | cnt ρ2 h2 => rw [eb] at pi; exact fun g' H' σ' st rh' rs' => ⟨g', ρ2, h2, (sti.trans st2).trans st, rh', rs', PS1.step (st2.trans st) pi⟩
        | brk ρ2 h2 => rw [eb] at pi; exact PS1.step (r := .nx ρ2 h2) st2 pi
        | ret v h2 => rw [eb] at pi; exact PS1.step (r := .ret v h2) st2 pi
        | exc x ns vs ρ2 h2 => rw [eb] at pi; exact PS1.step (r := .exc x ns vs ρ2 h2) st2 pi
    · have e : i = xs.length := by omega
      subst e
      rw [List.drop_length] at pi
      unfold forGo at pi
      exact .inl ⟨dl.stop gi H' sti _ (Nat.le_refl _), pi gi H' σ' .refl rhi rsi⟩
theorem js_while {c : Expr} {body : List Stmt} {fc : TF} {fb : SF} {n : Nat} {pos : Pos} (hp : PassesOwn (model X.prog X.w) X.A X.env X.xe) (hc : PT X c (tT (ct X) W fc)) (hb : PSs X body (tS (ct X) W fb)) : PS X (.While c body [] pos) (tS (ct X) W (whGo fc fb n)) :=
  PS.mono (ps_while hp hc hb) fun D σ H ⟨g, ρ, h, rh, rs, p⟩ => by
    refine ⟨fun m σ' H' => ∃ (gi : Gh) (ρi : VSt) (hi : VH), RH (ct X) gi hi H' ∧ RS (ct X) gi H' ρi σ' ∧ PS1 (ct X) W gi H' D (whGo fc fb m ρi hi), ⟨n, g, ρ, h, rh, rs, p⟩, ?_⟩
    rintro m σ' H' ⟨gi, ρi, hi, rhi, rsi, pi⟩
    cases m with
    | zero => exact pi.elim
    | succ m =>
      unfold whGo at pi
      refine ⟨gi, ρi, hi, rhi, rsi, (Pst.st (R := RB) rsi pi).imp fun u H1 ⟨g1, v, h1, st, rh1, rs1, rv1, p1⟩ => ?_⟩
      cases rv1
      cases u with
      | false => rw [if_neg Bool.false_ne_true] at p1 ⊢; exact p1 g1 H1 σ' .refl rh1 rs1
      | true =>
        rw [if_pos rfl] at p1 ⊢
        refine ⟨fun σ2 H2 => ∃ (gi : Gh) (ρi : VSt) (hi : VH), RH (ct X) gi hi H2 ∧ RS (ct X) gi H2 ρi σ2 ∧ PS1 (ct X) W gi H2 D (whGo fc fb m ρi hi), fun σ2 H2 p2 => ⟨m, Nat.lt_succ_self _, p2⟩, g1, ρi, h1, rh1, rs1, ?_⟩
        cases eb : fb ρi h1 with
        | no => rw [eb] at p1; exact p1
        | nx ρ2 h2 => rw [eb] at p1; exact fun g' H' σ' st rh' rs' => ⟨g', ρ2, h2, rh', rs', PS1.step st p1⟩
        | cnt ρ2 h2 => rw [eb] at p1; exact fun g' H' σ' st rh' rs' => ⟨g', ρ2, h2, rh', rs', PS1.step st p1⟩
        | brk ρ2 h2 => rw [eb] at p1; exact p1
        | ret v h2 => rw [eb] at p1; exact p1
        | exc x ns vs ρ2 h2 => rw [eb] at p1; exact p1
end
end J

namespace J
open PySem L2
open PyProof.Rows (envOfC)

/-! lists by value -/
def lstOf (h : VH) : VV → Option (List VV)
  | .lst xs => some xs
  | .scr xs => some xs
  | .obj n => match h[n]? with
    | some (.fl xs) => some xs
    | some (.fzn (.lst xs)) => some xs
    | _ => none
  | _ => none
/-- .. exact (not the script) -/
def lstOf' (h : VH) : VV → Option (List VV)
  | .lst xs => some xs
  | .obj n => match h[n]? with
    | some (.fl xs) => some xs
    | some (.fzn (.lst xs)) => some xs
    | _ => none
  | _ => none
theorem lstOf'_get {c : Ct} {g : Gh} {h : VH} {H : Hp} {v : VV} {u : V} {xs : List VV} (rh : RH c g h H) (rv : RT c g H v u) (e : lstOf' h v = some xs) : ∃ p us, u = .ref p ∧ H p = some (.lst us) ∧ RVs c g.fz H xs us := by
  cases v with
  | lst ys =>
    cases e
    have q := rv.rv rfl
    rw [RV] at q
    obtain ⟨p, us, a, b, d, r⟩ := q
    exact ⟨p, us, a, d, r⟩
  | obj n =>
    obtain ⟨a, ea, eu⟩ := rv
    unfold lstOf' at e
    simp only at e
    split at e
    · rename_i ys en
      cases e
      obtain ⟨_, us, d, r⟩ := rh.at' n _ a en ea
      exact ⟨a, us, eu, d, r⟩
    · rename_i ys en
      cases e
      obtain ⟨_, q⟩ := rh.at' n _ a en ea
      rw [RV] at q
      obtain ⟨p, us, z, b, d, r⟩ := q
      cases z
      exact ⟨a, us, eu, d, r⟩
    · cases e
  | _ => cases e
theorem lstOf_get {c : Ct} {g : Gh} {h : VH} {H : Hp} {v : VV} {u : V} {xs : List VV} (rh : RH c g h H) (rv : RT c g H v u) (e : lstOf h v = some xs) : ∃ p us, u = .ref p ∧ SqL c.K H p us ∧ RVs c g.fz H xs us := by
  cases v with
  | scr ys =>
    cases e
    have q := rv.rv rfl
    rw [RV] at q
    obtain ⟨p, us, a, d, r⟩ := q
    exact ⟨p, us, a, d.sq, r⟩
  | lst ys =>
    obtain ⟨p, us, a, b, r⟩ := lstOf'_get (xs := xs) rh rv e
    exact ⟨p, us, a, SqL.of b, r⟩
  | obj n =>
    obtain ⟨p, us, a, b, r⟩ := lstOf'_get (xs := xs) rh rv e
    exact ⟨p, us, a, SqL.of b, r⟩
  | _ => cases e
theorem tup_get {c : Ct} {g : Gh} {H : Hp} {u : V} {xs : List VV} (rv : RT c g H (.tup xs) u) : ∃ p us, u = .ref p ∧ TupAt c g.fz H p us ∧ RVs c g.fz H xs us := by
  have q := rv.rv rfl
  rw [RV] at q
  exact q
theorem int_get {c : Ct} {g : Gh} {H : Hp} {u : V} {i : Int} (rv : RT c g H (.int i) u) : u = .int i := by have q := rv.rv rfl; rw [RV] at q; exact q
theorem bl_get {c : Ct} {g : Gh} {H : Hp} {u : V} {i : Bool} (rv : RT c g H (.bl i) u) : u = .bl i := by have q := rv.rv rfl; rw [RV] at q; exact q
theorem str_get {c : Ct} {g : Gh} {H : Hp} {u : V} {i : Str} (rv : RT c g H (.str i) u) : u = .str i := by have q := rv.rv rfl; rw [RV] at q; exact q
theorem non_get {c : Ct} {g : Gh} {H : Hp} {u : V} (rv : RT c g H .non u) : u = .non := by have q := rv.rv rfl; rw [RV] at q; exact q
theorem ty_get {c : Ct} {g : Gh} {H : Hp} {u : V} {n : String} (rv : RT c g H (.ty n) u) : u = .ty n := by have q := rv.rv rfl; rw [RV] at q; exact q
/-- a frozen list that stands -/
def fzl (c : Ct) (g : Gh) (H : Hp) (p : Addr) (us : List V) : Prop := g.fz p ∧ Rd H p (.lst us)
def lstF : VV → Option (List VV)
  | .lst xs => some xs
  | .scr xs => some xs
  | _ => none
theorem lstF_get {c : Ct} {g : Gh} {H : Hp} {v : VV} {u : V} {xs : List VV} (rv : RT c g H v u) (e : lstF v = some xs) : ∃ p us, u = .ref p ∧ LstAt c g.fz H p us ∧ RVs c g.fz H xs us := by
  cases v with
  | scr ys =>
    cases e
    have q := rv.rv rfl
    rw [RV] at q
    exact q
  | lst ys =>
    cases e
    have q := rv.rv rfl
    rw [RV] at q
    obtain ⟨p, us, a, b, d, r⟩ := q
    exact ⟨p, us, a, .inl ⟨b, .inl d⟩, r⟩
  | _ => cases e

/-! iterables -/
theorem deliv_list {c : Ct} {g : Gh} {h : VH} {H : Hp} {p : Addr} {us : List V} {xs : List VV} (rd : LstAt c g.fz H p us) (rv : RVs c g.fz H xs us) : Deliv c g H xs (Itl c.K p) where
  go := fun g1 H1 st i hi => by
    obtain ⟨u, e, _⟩ := rv.get (List.getElem?_eq_getElem hi)
    exact ⟨us, u, (rd.stp st.fz st.fH).sq, e⟩
  stop := fun g1 H1 st i hi => ⟨us, (rd.stp st.fz st.fH).sq, by rw [← rv.len]; exact hi⟩
  yld := fun g1 H1 st i x h1 e rh u H' y => by
    obtain ⟨eH, hy⟩ := y
    subst eH
    obtain ⟨u', e', r⟩ := rv.get e
    have q := hy us ((rd.stp st.fz st.fH).sq)
    rw [e'] at q
    cases q
    exact ⟨g1, .refl, rh, RT.of_rv (st.rv r)⟩
theorem deliv_tup {c : Ct} {g : Gh} {h : VH} {H : Hp} {p : Addr} {us : List V} {xs : List VV} (rd : TupAt c g.fz H p us) (rv : RVs c g.fz H xs us) : Deliv c g H xs (Itt c.K p) where
  go := fun g1 H1 st i hi => by
    obtain ⟨u, e, _⟩ := rv.get (List.getElem?_eq_getElem hi)
    exact ⟨us, u, (rd.stp st.fz st.fH).sq, e⟩
  stop := fun g1 H1 st i hi => ⟨us, (rd.stp st.fz st.fH).sq, by rw [← rv.len]; exact hi⟩
  yld := fun g1 H1 st i x h1 e rh u H' y => by
    obtain ⟨eH, hy⟩ := y
    subst eH
    obtain ⟨u', e', r⟩ := rv.get e
    have q := hy us (rd.stp st.fz st.fH).sq
    rw [e'] at q
    cases q
    exact ⟨g1, .refl, rh, RT.of_rv (st.rv r)⟩
def signs (s : Str) : List VV := s.cps.toList.map fun c => .str ⟨#[c]⟩
theorem deliv_str {c : Ct} {g : Gh} {H : Hp} {s : Str} : Deliv c g H (signs s) (Its s) where
  go := fun g1 H1 st i hi => by unfold signs at hi; simp at hi; exact hi
  stop := fun g1 H1 st i hi => by unfold signs at hi; simp at hi; exact hi
  yld := fun g1 H1 st i x h1 e rh u H' y => by
    obtain ⟨eH, k, hk, hu⟩ := y
    subst eH
    refine ⟨g1, .refl, rh, ?_⟩
    unfold signs at e
    rw [List.getElem?_map, Array.getElem?_toList, hk] at e
    cases e
    rw [hu]
    exact rt_str
def rngV (lo : Int) (n : Nat) : List VV := (List.range n).map fun (i : Nat) => .int (lo + (i : Int))
theorem deliv_rng {c : Ct} {g : Gh} {H : Hp} {lo : Int} {n : Nat} : Deliv c g H (rngV lo n) (Itr lo n) where
  go := fun g1 H1 st i hi => by unfold rngV at hi; simp at hi; exact hi
  stop := fun g1 H1 st i hi => by unfold rngV at hi; simp at hi; exact hi
  yld := fun g1 H1 st i x h1 e rh u H' y => by
    obtain ⟨eH, hu⟩ := y
    subst eH
    refine ⟨g1, .refl, rh, ?_⟩
    unfold rngV at e
    rw [List.getElem?_map] at e
    cases q : (List.range n)[i]? with
    | none => rw [q] at e; cases e
    | some j =>
      rw [q] at e
      cases e
      obtain ⟨hh, e2⟩ := List.getElem?_eq_some_iff.mp q
      rw [List.getElem_range] at e2
      subst e2
      rw [hu]
      exact rt_int
/-- items of a list, a tuple, a text -/
def iSeq (f : EF) : AF := fun ρ h => (f ρ h).bind fun v h1 => match v with
  | .lst xs => .ok xs h1
  | .scr xs => .ok xs h1
  | .tup xs => .ok xs h1
  | .str s => .ok (signs s) h1
  | _ => .no
def iRange1 (f : EF) : AF := fun ρ h => (f ρ h).bind fun v h1 => match v with
  | .int n => if -(2 ^ 62) ≤ n ∧ n < 2 ^ 62 then .ok (rngV 0 n.toNat) h1 else .no
  | _ => .no
def iRange2 (a : AF) : AF := fun ρ h => (a ρ h).bind fun v h1 => match v with
  | [.int m, .int n] => if -(2 ^ 62) ≤ m ∧ m < 2 ^ 62 ∧ -(2 ^ 62) ≤ n ∧ n < 2 ^ 62 then .ok (rngV m (n - m).toNat) h1 else .no
  | _ => .no
def prs : List VV → List VV → List VV
  | x :: xs, y :: ys => .tup [x, y] :: prs xs ys
  | _, _ => []
def iZip (a : AF) : AF := fun ρ h => (a ρ h).bind fun v h1 => match v with
  | [.lst xs, .lst ys] => .ok (prs xs ys) h1
  | [.tup xs, .tup ys] => .ok (prs xs ys) h1
  | _ => .no
def enum : Nat → List VV → List VV
  | _, [] => []
  | n, x :: xs => .tup [.int n, x] :: enum (n + 1) xs
def iEnum (a : AF) : AF := fun ρ h => (a ρ h).bind fun v h1 => match v with
  | [.lst xs] => .ok (enum 0 xs) h1
  | [.scr xs] => .ok (enum 0 xs) h1
  | _ => .no
theorem prs_get : ∀ (xs ys : List VV) (i : Nat), (prs xs ys)[i]? = (match xs[i]?, ys[i]? with
    | some x, some y => some (.tup [x, y])
    | _, _ => none)
  | [], ys, i => by simp [prs]
  | x :: xs, [], i => by simp [prs]
  | x :: xs, y :: ys, 0 => by simp [prs]
  | x :: xs, y :: ys, i + 1 => by simp [prs, prs_get xs ys i]
theorem prs_len : ∀ (xs ys : List VV), (prs xs ys).length = min xs.length ys.length
  | [], ys => by simp [prs]
  | x :: xs, [] => by simp [prs]
  | x :: xs, y :: ys => by simp [prs, prs_len xs ys]
theorem enum_get : ∀ (n : Nat) (xs : List VV) (i : Nat), (enum n xs)[i]? = xs[i]?.map fun x => .tup [.int ((n + i : Nat) : Int), x]
  | n, [], i => by simp [enum]
  | n, x :: xs, 0 => by simp [enum]
  | n, x :: xs, i + 1 => by simp [enum, enum_get (n + 1) xs i]; congr 1; funext y; congr 3; omega
theorem enum_len : ∀ (n : Nat) (xs : List VV), (enum n xs).length = xs.length
  | _, [] => rfl
  | n, x :: xs => by simp [enum, enum_len (n + 1) xs]
theorem pair_new {c : Ct} {g : Gh} {h : VH} {H : Hp} {T : Addr} {xs : List VV} {us : List V} (rh : RH c g h H) (hT : H T = none) (rv : RVs c g.fz H xs us) :
    Stp g H (g.frz T) (upd H T (.tup us)) ∧ RH c (g.frz T) h (upd H T (.tup us)) ∧ RT c (g.frz T) (upd H T (.tup us)) (.tup xs) (.ref T) := by
  refine ⟨.new rh hT, rh.new hT, ?_⟩
  show RV _ _ _ _ _
  rw [RV]
  exact ⟨T, us, rfl, .inl ⟨.inr rfl, upd_same⟩, (Stp.new rh hT).rvs rv⟩
theorem deliv_zip {c : Ct} {g : Gh} {H : Hp} {p q : Addr} {us ws : List V} {xs ys : List VV} (rd : LstAt c g.fz H p us) (rd' : LstAt c g.fz H q ws) (rv : RVs c g.fz H xs us) (rv' : RVs c g.fz H ys ws) : Deliv c g H (prs xs ys) (Itz c.K p q) where
  go := fun g1 H1 st i hi => by
    rw [prs_len] at hi
    obtain ⟨u, e, _⟩ := rv.get (List.getElem?_eq_getElem (show i < xs.length by omega))
    obtain ⟨w, e', _⟩ := rv'.get (List.getElem?_eq_getElem (show i < ys.length by omega))
    exact ⟨us, ws, u, w, (rd.stp st.fz st.fH).sq, (rd'.stp st.fz st.fH).sq, e, e'⟩
  stop := fun g1 H1 st i hi => by
    rw [prs_len, rv.len, rv'.len] at hi
    exact ⟨us, ws, (rd.stp st.fz st.fH).sq, (rd'.stp st.fz st.fH).sq, by omega⟩
  yld := fun g1 H1 st i x h1 e rh u H' y => by
    obtain ⟨T, a, b, eu, hT, eH, ha, hb⟩ := y
    subst eH eu
    rw [prs_get] at e
    cases ex : xs[i]? with
    | none => rw [ex] at e; cases e
    | some x1 =>
      cases ey : ys[i]? with
      | none => rw [ex, ey] at e; cases e
      | some y1 =>
        rw [ex, ey] at e
        cases e
        obtain ⟨u1, e1, r1⟩ := rv.get ex
        obtain ⟨w1, e2, r2⟩ := rv'.get ey
        have qa := ha us ((rd.stp st.fz st.fH).sq)
        have qb := hb ws ((rd'.stp st.fz st.fH).sq)
        rw [e1] at qa; cases qa
        rw [e2] at qb; cases qb
        obtain ⟨s1, s2, s3⟩ := pair_new (xs := [x1, y1]) rh hT (RVs.cons (st.rv r1) (RVs.one (st.rv r2)))
        exact ⟨_, s1, s2, s3⟩
theorem deliv_zipT {c : Ct} {g : Gh} {H : Hp} {p q : Addr} {us ws : List V} {xs ys : List VV} (rd : TupAt c g.fz H p us) (rd' : TupAt c g.fz H q ws) (rv : RVs c g.fz H xs us) (rv' : RVs c g.fz H ys ws) : Deliv c g H (prs xs ys) (RZ.ItzT c.K p q) where
  go := fun g1 H1 st i hi => by
    rw [prs_len] at hi
    obtain ⟨u, e, _⟩ := rv.get (List.getElem?_eq_getElem (show i < xs.length by omega))
    obtain ⟨w, e', _⟩ := rv'.get (List.getElem?_eq_getElem (show i < ys.length by omega))
    exact ⟨us, ws, u, w, (rd.stp st.fz st.fH).sq, (rd'.stp st.fz st.fH).sq, e, e'⟩
  stop := fun g1 H1 st i hi => by
    rw [prs_len, rv.len, rv'.len] at hi
    exact ⟨us, ws, (rd.stp st.fz st.fH).sq, (rd'.stp st.fz st.fH).sq, by omega⟩
  yld := fun g1 H1 st i x h1 e rh u H' y => by
    obtain ⟨T, a, b, eu, hT, eH, ha, hb⟩ := y
    subst eH eu
    rw [prs_get] at e
    cases ex : xs[i]? with
    | none => rw [ex] at e; cases e
    | some x1 =>
      cases ey : ys[i]? with
      | none => rw [ex, ey] at e; cases e
      | some y1 =>
        rw [ex, ey] at e
        cases e
        obtain ⟨u1, e1, r1⟩ := rv.get ex
        obtain ⟨w1, e2, r2⟩ := rv'.get ey
        have qa := ha us (rd.stp st.fz st.fH).sq
        have qb := hb ws (rd'.stp st.fz st.fH).sq
        rw [e1] at qa; cases qa
        rw [e2] at qb; cases qb
        obtain ⟨s1, s2, s3⟩ := pair_new (xs := [x1, y1]) rh hT (RVs.cons (st.rv r1) (RVs.one (st.rv r2)))
        exact ⟨_, s1, s2, s3⟩
theorem deliv_enum {c : Ct} {g : Gh} {H : Hp} {p : Addr} {us : List V} {xs : List VV} (rd : LstAt c g.fz H p us) (rv : RVs c g.fz H xs us) : Deliv c g H (enum 0 xs) (Ite c.K p) where
  go := fun g1 H1 st i hi => by
    rw [enum_len] at hi
    obtain ⟨u, e, _⟩ := rv.get (List.getElem?_eq_getElem hi)
    exact ⟨us, u, (rd.stp st.fz st.fH).sq, e⟩
  stop := fun g1 H1 st i hi => by
    rw [enum_len, rv.len] at hi
    exact ⟨us, (rd.stp st.fz st.fH).sq, hi⟩
  yld := fun g1 H1 st i x h1 e rh u H' y => by
    obtain ⟨T, a, eu, hT, eH, ha⟩ := y
    subst eH eu
    rw [enum_get] at e
    cases ex : xs[i]? with
    | none => rw [ex] at e; cases e
    | some x1 =>
      rw [ex] at e
      cases e
      obtain ⟨u1, e1, r1⟩ := rv.get ex
      have qa := ha us ((rd.stp st.fz st.fH).sq)
      rw [e1] at qa; cases qa
      have ri : RV c g1.fz H1 (.int ((0 + i : Nat) : Int)) (.int (i : Nat)) := by rw [RV, Nat.zero_add]
      obtain ⟨s1, s2, s3⟩ := pair_new (xs := [.int ((0 + i : Nat) : Int), x1]) rh hT (RVs.cons ri (RVs.one (st.rv r1)))
      exact ⟨_, s1, s2, s3⟩

section
variable {X : Cx} {W : WX}
theorem ji_seq {tg l : Expr} {f : EF} (hl : PE X l (tE (ct X) W f)) : PI X tg l (tI (ct X) W (iSeq f)) :=
  PI.mono ((PI.or (pi_list hl) (PI.or (pi_tup hl) (pi_str hl)))) fun σ H R h => by
    obtain ⟨g, ρ, h0, rh, rs, p⟩ := h
    unfold iSeq at p
    cases e : f ρ h0 with
    | no => rw [e] at p; exact p.elim
    | exc x ns vs h' => exact .inl ⟨g, ρ, h0, rh, rs, by rw [e] at p ⊢; exact p⟩
    | ok v h1 =>
      rw [e] at p
      cases v with
      | lst xs =>
        refine .inl ⟨g, ρ, h0, rh, rs, ?_⟩
        rw [e]
        intro g' H' u st rh' rv
        obtain ⟨a, us, eu, ra, rvs⟩ := lstF_get (xs := xs) rv rfl
        exact ⟨a, eu, ⟨us, ra.sq⟩, p g' H' _ st rh' (deliv_list (h := h1) ra rvs)⟩
      | scr xs =>
        refine .inl ⟨g, ρ, h0, rh, rs, ?_⟩
        rw [e]
        intro g' H' u st rh' rv
        obtain ⟨a, us, eu, ra, rvs⟩ := lstF_get (xs := xs) rv rfl
        exact ⟨a, eu, ⟨us, ra.sq⟩, p g' H' _ st rh' (deliv_list (h := h1) ra rvs)⟩
      | tup xs =>
        refine .inr (.inl ⟨g, ρ, h0, rh, rs, ?_⟩)
        rw [e]
        intro g' H' u st rh' rv
        obtain ⟨a, us, eu, ra, rvs⟩ := tup_get rv
        exact ⟨a, eu, ⟨us, ra.sq⟩, p g' H' _ st rh' (deliv_tup (h := h1) ra rvs)⟩
      | str s =>
        refine .inr (.inr ⟨g, ρ, h0, rh, rs, ?_⟩)
        rw [e]
        intro g' H' u st rh' rv
        exact ⟨s, str_get rv, p g' H' _ st rh' deliv_str⟩
      | _ => exact p.elim
theorem ji_range1 {tg a : Expr} {f : EF} {p pos : Pos} (hg : Gl X "range") (hm : X.mg "range" = none) (ha : PE X a (tE (ct X) W f)) (hs : starEach [a] X.env = [(false, eval a X.env)] := by rfl) : PI X tg (.Call (.Name "range" p) [a] [] pos) (tI (ct X) W (iRange1 f)) :=
  PI.mono (pi_range1 hg hm (pa_cons ha pa_nil hs) hs) fun σ H R h => by
    obtain ⟨g, ρ, h0, rh, rs, p⟩ := h
    unfold iRange1 at p
    refine ⟨g, ρ, h0, rh, rs, ?_⟩
    cases e : f ρ h0 with
    | no => rw [e] at p; exact p.elim
    | exc x ns vs h' => rw [e] at p; exact p
    | ok v h1 =>
      rw [e] at p
      cases v with
      | int n =>
        simp only [Res.bind] at p
        by_cases hn : -(2 ^ 62) ≤ n ∧ n < 2 ^ 62
        · rw [if_pos hn] at p
          intro g' H' u st rh' rv
          exact ⟨n, by rw [int_get rv], hn.1, hn.2, p g' H' _ st rh' deliv_rng⟩
        · rw [if_neg hn] at p; exact p.elim
      | _ => exact p.elim
theorem ji_range2 {tg a b : Expr} {f : AF} {p pos : Pos} (hg : Gl X "range") (hm : X.mg "range" = none) (ha : PA X [a, b] (tA (ct X) W f)) (hs : starEach [a, b] X.env = [(false, eval a X.env), (false, eval b X.env)] := by rfl) (hs2 : starEach [b] X.env = [(false, eval b X.env)] := by rfl) :
    PI X tg (.Call (.Name "range" p) [a, b] [] pos) (tI (ct X) W (iRange2 f)) :=
  PI.mono (pi_range2 hg hm ha hs hs2) fun σ H R h => by
    obtain ⟨g, ρ, h0, rh, rs, p⟩ := h
    unfold iRange2 at p
    refine ⟨g, ρ, h0, rh, rs, ?_⟩
    cases e : f ρ h0 with
    | no => rw [e] at p; exact p.elim
    | exc x ns vs h' => rw [e] at p; exact p
    | ok v h1 =>
      rw [e] at p
      simp only [Res.bind] at p
      split at p
      · rename_i m n
        by_cases hn : -(2 ^ 62) ≤ m ∧ m < 2 ^ 62 ∧ -(2 ^ 62) ≤ n ∧ n < 2 ^ 62
        · rw [if_pos hn] at p
          intro g' H' u st rh' rv
          obtain ⟨u1, r1, rfl, a1, u2, r2, rfl, a2, rfl⟩ := rv
          exact ⟨m, n, by rw [int_get a1, int_get a2], hn, p g' H' _ st rh' deliv_rng⟩
        · rw [if_neg hn] at p; exact p.elim
      · exact p.elim
theorem ji_enum {a : Expr} {f : AF} {p pos tpos : Pos} {elts : List Expr} {kk : Nat} (hg : Gl X "enumerate") (hm : X.mg "enumerate" = none) (ha : PA X [a] (tA (ct X) W f)) (hs : starEach [a] X.env = [(false, eval a X.env)] := by rfl) :
    PI X (.Tuple elts kk tpos) (.Call (.Name "enumerate" p) [a] [] pos) (tI (ct X) W (iEnum f)) :=
  PI.mono (pi_enum hg hm ha hs) fun σ H R h => by
    obtain ⟨g, ρ, h0, rh, rs, p⟩ := h
    unfold iEnum at p
    refine ⟨g, ρ, h0, rh, rs, ?_⟩
    cases e : f ρ h0 with
    | no => rw [e] at p; exact p.elim
    | exc x ns vs h' => rw [e] at p; exact p
    | ok v h1 =>
      rw [e] at p
      simp only [Res.bind] at p
      split at p
      · intro g' H' u st rh' rv
        obtain ⟨u1, r1, rfl, a1, rfl⟩ := rv
        obtain ⟨a, us, eu, ra, rvs⟩ := lstF_get a1 rfl
        exact ⟨a, us, by rw [eu], ra.sq, p g' H' _ st rh' (deliv_enum ra rvs)⟩
      · intro g' H' u st rh' rv
        obtain ⟨u1, r1, rfl, a1, rfl⟩ := rv
        obtain ⟨a, us, eu, ra, rvs⟩ := lstF_get a1 rfl
        exact ⟨a, us, by rw [eu], ra.sq, p g' H' _ st rh' (deliv_enum ra rvs)⟩
      · exact p.elim
theorem ji_zip {a b : Expr} {f : AF} {p pos tpos : Pos} {elts : List Expr} {kk : Nat} (hg : Gl X "zip") (hm : X.mg "zip" = none) (ha : PA X [a, b] (tA (ct X) W f)) (hs : starEach [a, b] X.env = (false, eval a X.env) :: starEach [b] X.env := by rfl) (hpl : (backTo pos (starEach [b] X.env)).any (·.1) = false := by rfl) :
    PI X (.Tuple elts kk tpos) (.Call (.Name "zip" p) [a, b] [] pos) (tI (ct X) W (iZip f)) :=
  PI.mono (RZ.pi_zipA hg hm ha hs hpl) fun σ H R h => by
    obtain ⟨g, ρ, h0, rh, rs, p⟩ := h
    unfold iZip at p
    refine ⟨g, ρ, h0, rh, rs, ?_⟩
    cases e : f ρ h0 with
    | no => rw [e] at p; exact p.elim
    | exc x ns vs h' => rw [e] at p; exact p
    | ok v h1 =>
      rw [e] at p
      simp only [Res.bind] at p
      split at p
      · intro g' H' u st rh' rv
        obtain ⟨u1, r1, rfl, a1, u2, r2, rfl, a2, rfl⟩ := rv
        obtain ⟨a, us, eu, ra, rvs⟩ := lstF_get a1 rfl
        obtain ⟨b, ws, ew, rb, rws⟩ := lstF_get a2 rfl
        exact ⟨a, b, us, ws, by rw [eu, ew], .inl ⟨ra.sq, rb.sq, p g' H' _ st rh' (deliv_zip ra rb rvs rws)⟩⟩
      · intro g' H' u st rh' rv
        obtain ⟨u1, r1, rfl, a1, u2, r2, rfl, a2, rfl⟩ := rv
        obtain ⟨a, us, eu, ra, rvs⟩ := tup_get a1
        obtain ⟨b, ws, ew, rb, rws⟩ := tup_get a2
        exact ⟨a, b, us, ws, by rw [eu, ew], .inr ⟨ra.sq, rb.sq, p g' H' _ st rh' (deliv_zipT ra rb rvs rws)⟩⟩
      · exact p.elim

/-! defs and calls -/
abbrev FF := List VV → VH → Res VV
def spF (c : Ct) (n : Nat) (F : FF) : Sp := fun vs H Q E => ∃ g ws h, RH c g h H ∧ RTs c g H ws vs ∧ ws.length = n ∧ Pst c (fun a d _ H' => E a d H') [] (RT c) g H Q (F ws h)
/-- the roots that a def made and let go are forgotten -/
def lowV (n : Nat) : VV → Bool
  | .obj m => decide (m < n)
  | _ => true
def lowO (n : Nat) : VO → Bool
  | .ins _ _ vs => vs.all (lowV n)
  | _ => true
def trim (n : Nat) (v : VV) (h : VH) : VH := if h.length = n then h else if lowV n v = true ∧ (h.take n).all (lowO n) = true then h.take n else h
def fnF (k : Nat) (B : SF) : FF := fun vs h => match B (vs.map some ++ List.replicate (k - vs.length) none) h with
  | .nx _ h' => .ok .non (trim h.length .non h')
  | .ret v h' => .ok v (trim h.length v h')
  | .exc x ns vs _ h' => .exc x ns vs h'
  | _ => .no
theorem RTs.start {c : Ct} {g : Gh} {H : Hp} {ws : List VV} {vs : List V} (r : RTs c g H ws vs) (k : Nat) : RS c g H (ws.map some ++ List.replicate (k - ws.length) none) (vs.map some ++ List.replicate (k - vs.length) none) := by
  have hl := r.len
  refine ⟨by simp [hl], fun i v e => ?_⟩
  by_cases hi : i < ws.length
  · rw [List.getElem?_append_left (by simpa using hi), List.getElem?_map] at e
    cases q : ws[i]? with
    | none => rw [q] at e; cases e
    | some w =>
      rw [q] at e
      cases e
      have : ∀ {ws : List VV} {vs : List V} {i : Nat} {v : VV}, RTs c g H ws vs → ws[i]? = some v → ∃ u, vs[i]? = some u ∧ RT c g H v u := by
        intro ws
        induction ws with
        | nil => intro vs i v _ e; simp at e
        | cons x xs ih =>
          intro vs i v r e
          obtain ⟨u, r', rfl, a, b⟩ := r
          cases i with
          | zero => simp at e; subst e; exact ⟨u, rfl, a⟩
          | succ i => exact ih (i := i) b (by simpa using e)
      obtain ⟨u, e2, ru⟩ := this r q
      refine ⟨u, ?_, ru⟩
      rw [List.getElem?_append_left (by rw [List.length_map, ← hl]; exact hi), List.getElem?_map, e2]; rfl
  · rw [List.getElem?_append_right (by simpa using hi), List.getElem?_replicate] at e
    split at e <;> cases e
theorem RT.low {c : Ct} {g g' : Gh} {H : Hp} {n : Nat} (hio : g'.io = g.io.take n) (hfz : g'.fz = g.fz) {v : VV} {u : V} (l : lowV n v = true) (r : RT c g H v u) : RT c g' H v u := by
  cases v with
  | obj m =>
    obtain ⟨a, e, eu⟩ := r
    refine ⟨a, ?_, eu⟩
    rw [hio, List.getElem?_take_of_lt (of_decide_eq_true l)]
    exact e
  | _ => exact RT.of_rv (by rw [hfz]; exact RT.rv r rfl)
theorem RTs.low {c : Ct} {g g' : Gh} {H : Hp} {n : Nat} (hio : g'.io = g.io.take n) (hfz : g'.fz = g.fz) : ∀ {vs : List VV} {us : List V}, vs.all (lowV n) = true → RTs c g H vs us → RTs c g' H vs us
  | [], us, _, r => r
  | x :: xs, us, l, r => by
    rw [List.all_cons, Bool.and_eq_true] at l
    obtain ⟨u, q, e, a, b⟩ := r
    exact ⟨u, q, e, a.low hio hfz l.1, RTs.low hio hfz l.2 b⟩
theorem trim_ok {c : Ct} {g g' : Gh} {h h' : VH} {H H' : Hp} {v : VV} {u : V} (rh : RH c g h H) (st : Stp g H g' H') (rh' : RH c g' h' H') (rv : RT c g' H' v u) :
    ∃ g2, Stp g H g2 H' ∧ RH c g2 (trim h.length v h') H' ∧ RT c g2 H' v u := by
  unfold trim
  by_cases e : h'.length = h.length
  · rw [if_pos e]; exact ⟨g', st, rh', rv⟩
  · rw [if_neg e]
    by_cases cc : lowV h.length v = true ∧ (h'.take h.length).all (lowO h.length) = true
    · rw [if_pos cc]
      have eio : g'.io.take h.length = g.io := by
        obtain ⟨l, hl⟩ := st.io
        rw [← hl, ← rh.len, List.take_left]
      refine ⟨{ io := g.io, fz := g'.fz, kp := g'.kp }, ⟨List.prefix_rfl, st.fz, st.kp, st.fH, st.kH⟩, ?_, RT.low (g' := { io := g.io, fz := g'.fz, kp := g'.kp }) (n := h.length) eio.symm rfl cc.1 rv⟩
      have hle : h.length ≤ h'.length := by
        obtain ⟨l, hl⟩ := st.io
        have := congrArg List.length hl
        rw [List.length_append, rh.len, rh'.len] at this
        omega
      refine ⟨by show g.io.length = _; rw [List.length_take, rh.len]; omega, rh.nd, fun n o a h1 h2 => ?_, rh'.fz, rh'.kp, fun q z => ⟨(rh'.kd q z).1, fun y => (rh'.kd q z).2 ?_⟩⟩
      · have hn : n < h.length := by
          have := (List.getElem?_eq_some_iff.mp h1).1
          rw [List.length_take] at this; omega
        have h1' : h'[n]? = some o := by rw [List.getElem?_take_of_lt hn] at h1; exact h1
        have h2' : g'.io[n]? = some a := by
          have : g.io[n]? = some a := h2
          rw [← eio, List.getElem?_take_of_lt hn] at this
          exact this
        have ro := rh'.at' n o a h1' h2'
        have lo : lowO h.length o = true := List.all_eq_true.mp cc.2 o (List.mem_of_getElem? h1)
        cases o with
        | fzn v => exact ro
        | fl xs => exact ro
        | dT ks vs => exact ro
        | ins x ns vs =>
          obtain ⟨q1, C, dx, us, q3, q4, q5, q6⟩ := ro
          exact ⟨q1, C, dx, us, q3, q4, q5, RTs.low (g' := { io := g.io, fz := g'.fz, kp := g'.kp }) (n := h.length) eio.symm rfl lo q6⟩
      · have : q ∈ g.io := y
        rw [← eio] at this
        exact List.mem_of_mem_take this
    · rw [if_neg cc]; exact ⟨g', st, rh', rv⟩
end

section
variable {P : Program} {w : World} {K : PySem.W.Frag} {mg : Str → Option Value} {base : Heap}
/-- THE RULE for a def -/
theorem fn_ok {x qual : Str} {params : Arguments} {body : List Stmt} {scope : Scope} {dvs : List V} {kws : List (Str × V)} {f : Addr} {fd : FuncData} {N ps : List Str} {k n : Nat} {B : SF} (F : FunD K x qual params body scope dvs kws f fd) (S : FnScope N ps scope) (hn : n = N.length) (hp : ps.length ≤ n)
    (hbody : ∀ (cdv : Value) (A : Around) (outer : List Env) (s : Shared) (H : Hp) (E : XK), Room k (A.deeper (envOfC qual scope s.heap.objs.size f cdv)) →
      PSs (cxOf (L2.CX P w) P w K mg base N qual scope f cdv A outer s H E) body (tS ⟨K, mg⟩ (fun a d _ H' => E a d H') B)) :
    FnOk P w K mg base (L2.CX P w) (k + 1) f fd ps (spF ⟨K, mg⟩ ps.length (fnF n B)) := by
  refine F.ok S (fun vs H Q E h => ?_) (fun cdv A outer s H vs Q E hr h => ?_)
  · obtain ⟨g, ws, hh, rh, rt, l, _⟩ := h
    rw [← rt.len]; exact l
  · refine ⟨_, hbody cdv A outer s H E hr, ?_⟩
    obtain ⟨g, ws, hh, rh, rt, l, p⟩ := h
    have rs := rt.start n
    refine ⟨g, ws.map some ++ List.replicate (n - ws.length) none, hh, rh, ?_, ?_⟩
    · rw [hn] at rs ⊢; exact rs
    · unfold fnF at p
      generalize B (ws.map some ++ List.replicate (n - ws.length) none) hh = r at p ⊢
      cases r with
      | no => exact p
      | brk => exact p.elim
      | cnt => exact p.elim
      | nx ρ h' =>
        intro g' H' σ' st rh' rs'
        obtain ⟨g2, s2, rh2, rv2⟩ := trim_ok rh st rh' (rt_non (c := ⟨K, mg⟩))
        exact p g2 H' .non s2 rh2 rv2
      | ret v h' =>
        intro g' H' u st rh' rv
        obtain ⟨g2, s2, rh2, rv2⟩ := trim_ok rh st rh' rv
        exact p g2 H' u s2 rh2 rv2
      | exc x ns vs ρ h' => exact fun g' H' σ' C d us st rh' rs' m e l rv => p g' H' C d us st rh' m e l rv
end

section
variable {X : Cx} {W : WX}
def eFn (n : Nat) (F : FF) (dws : List VV) (a : AF) : EF := fun ρ h => (a ρ h).bind fun vs h1 => if (vs ++ dws).length = n then F (vs ++ dws) h1 else .no
theorem RTs.append {c : Ct} {g : Gh} {H : Hp} : ∀ {vs ws : List VV} {us ys : List V}, RTs c g H vs us → RTs c g H ws ys → RTs c g H (vs ++ ws) (us ++ ys)
  | [], ws, us, ys, r, q => by rw [show us = [] from r]; exact q
  | x :: xs, ws, us, ys, r, q => by
    obtain ⟨u, r', rfl, a, b⟩ := r
    exact ⟨u, _, rfl, a, RTs.append b q⟩
theorem pst_call {σ : St} {g : Gh} {H : Hp} {Q : VK} {r : Res VV} (h : Pst (ct X) W σ (RT (ct X)) g H Q r) : Pst (ct X) (fun a d _ H' => WE W σ a d H') [] (RT (ct X)) g H Q r := by
  cases r with
  | no => exact h
  | ok => exact h
  | exc => exact h
/-- from arguments to a def's promise -/
theorem tCall_of {n : Nat} {F : FF} {fa : AF} {dws : List VV} {dvs : List V} (hd : ∀ g H, RTs (ct X) g H dws dvs) {σ : St} {H : Hp} {Q : VK} (h : tE (ct X) W (eFn n F dws fa) σ H Q) :
    tCallSD (spF (ct X) n F) dvs (WE W) (tA (ct X) W fa) σ H Q := by
  obtain ⟨g, ρ, h0, rh, rs, p⟩ := h
  refine ⟨g, ρ, h0, rh, rs, ?_⟩
  unfold eFn at p
  cases e : fa ρ h0 with
  | no => rw [e] at p; exact p
  | exc => rw [e] at p; exact p
  | ok vs h1 =>
    rw [e] at p
    simp only [Res.bind] at p
    by_cases hl : (vs ++ dws).length = n
    · rw [if_pos hl] at p
      intro g' H' us st rh' rts
      exact ⟨g', vs ++ dws, h1, rh', RTs.append rts (hd g' H'), hl, pst_call (Pst.step st p)⟩
    · rw [if_neg hl] at p; exact p.elim
theorem j_call {k n : Nat} {f : Addr} {fd : FuncData} {ps : List Str} {Fm : FF} {dvs : List V} {dws : List VV} {ds : List Value} {x : Str} {p pos : Pos} {e : Expr} {es : List Expr} {fa : AF}
    (F : FnOk X.prog X.w X.K X.mg X.base (L2.CX X.prog X.w) k f fd ps (spF (ct X) n Fm)) (hr : Room k X.A) (hg : Gl X x) (hm : X.mg x = some (.ref f)) (hk : PySem.W.keepIn X.K (.ref f) = true) (hb : Binds X.K fd ps ds) (hd : Vals dvs ds) (rd : ∀ g H, RTs (ct X) g H dws dvs) (tk : Takes X W)
    (ha : PA X (e :: es) (tA (ct X) W fa)) (hdb : (x == ("__debug__" : Str)) = false := by decide) (he : starEach (e :: es) X.env = (false, eval e X.env) :: starEach es X.env := by rfl) (hpl : (backTo pos (starEach es X.env)).any (·.1) = false := by rfl) :
    PE X (.Call (.Name x p) (e :: es) [] pos) (tE (ct X) W (eFn n Fm dws fa)) :=
  PE.mono (pe_callSD (E := WE W) F hr hg hm hk hb hd (fun σ => passAt tk σ) ha hdb he hpl) fun σ H Q h => tCall_of rd h

/-! more statements -/
theorem js_setLc {i : Nat} {y : Str} {py : Pos} {elt tg iter : Expr} {ifs : List Expr} {scope : Scope} {own : List (Str × Nat)} {pos spos : Pos} {it : AF} {g : TG} {b : VV → VSt → Option VSt} {ft : TF} {fe : EF} (hc : X.calm = true) (hN : X.N.Nodup) (hy : X.N[i]? = some y) (hyl : X.env.scope.names.lookup y = some .local)
    (hsw : swapsWith (.ListComp elt [⟨tg, iter, ifs, 0⟩] scope pos) (some (.Name y py)) spos.line X.env = pure true) (hi : PI X tg iter (tI (ct X) W it)) (ok : BlkOk X.N X.env.scope scope own)
    (hg : ∀ (s : Shared) (H : Hp) (C : Addr) (cl : List (Str × Addr)) (fp : List Addr), PG (X.blk s H scope (compEnvC scope cl C X.env) fp) tg g) (pat : PatOk X.K g b (own.map (·.2)))
    (ht : ∀ (s : Shared) (H : Hp) (C : Addr) (cl : List (Str × Addr)) (fp : List Addr), PTs (X.blk s H scope (compEnvC scope cl C X.env) fp) ifs (tT (ct X) W0 ft))
    (he : ∀ (s : Shared) (H : Hp) (C : Addr) (cl : List (Str × Addr)) (fp : List Addr), PE (X.blk s H scope (compEnvC scope cl C X.env) fp) elt (tE (ct X) W0 fe)) (hs : ∀ x, foldedSetIterable iter X.env x = pure x := by intro _; rfl) :
    PS X (.Assign [.Name y py] (.ListComp elt [⟨tg, iter, ifs, 0⟩] scope pos) spos) (tS (ct X) W (sSet i (eLc (own.map (·.2)) it b ft fe))) :=
  PS.mono (ps_setLc hc hN hy hyl hsw hi ok hg ht he hs) fun D σ H ⟨g, ρ, h, rh, rs, p⟩ => by
    refine tLc_of (mk := fun vs h => .ok (.lst vs) h) pat mk_lst (show tE (ct X) W (eLc (own.map (·.2)) it b ft fe) σ H _ from ⟨g, ρ, h, rh, rs, (Pst.st (R := RT (ct X)) rs p).imp fun u H1 ⟨g1, v, h1, st, rh1, rs1, rv1, p1⟩ => ?_⟩)
    exact p1 g1 H1 _ .refl rh1 (rs1.set rv1 i)
theorem js_setLcO {i : Nat} {y : Str} {py : Pos} {elt tg iter : Expr} {ifs : List Expr} {scope : Scope} {own : List (Str × Nat)} {pos spos : Pos} {it : AF} {g : TG} {b : VV → VSt → Option VSt} {ft : TF} {fe : EF} (hc : X.calm = true) (hN : X.N.Nodup) (hy : X.N[i]? = some y) (hyl : X.env.scope.names.lookup y = some .local)
    (hsw : swapsWith (.ListComp elt [⟨tg, iter, ifs, 0⟩] scope pos) (some (.Name y py)) spos.line X.env = pure true) (hi : PI X tg iter (tI (ct X) W it)) (ok : BlkOk X.N X.env.scope scope own)
    (hg : ∀ (s : Shared) (H : Hp) (C : Addr) (cl : List (Str × Addr)) (fp : List Addr), PG (X.blk s H scope (compEnvC scope cl C X.env) fp) tg g) (pat : PatOk X.K g b (own.map (·.2)))
    (ht : ∀ (s : Shared) (H : Hp) (C : Addr) (cl : List (Str × Addr)) (fp : List Addr), PTs (X.blk s H scope (compEnvC scope cl C X.env) fp) ifs (tT (ct X) W0 ft))
    (he : ∀ (s : Shared) (H : Hp) (C : Addr) (cl : List (Str × Addr)) (fp : List Addr), PE (X.blk s H scope (compEnvC scope cl C X.env) fp) elt (tE (ct X) W0 fe)) (hs : ∀ x, foldedSetIterable iter X.env x = pure x := by intro _; rfl) :
    PS X (.Assign [.Name y py] (.ListComp elt [⟨tg, iter, ifs, 0⟩] scope pos) spos) (tS (ct X) W (sSet i (eLcO (own.map (·.2)) it b ft fe))) :=
  PS.mono (ps_setLc hc hN hy hyl hsw hi ok hg ht he hs) fun D σ H ⟨g, ρ, h, rh, rs, p⟩ => by
    refine tLc_of (mk := fun vs (h : VH) => .ok (.obj h.length) (h ++ [VO.fl vs])) pat mk_root (show tE (ct X) W (eLcO (own.map (·.2)) it b ft fe) σ H _ from ⟨g, ρ, h, rh, rs, (Pst.st (R := RT (ct X)) rs p).imp fun u H1 ⟨g1, v, h1, st, rh1, rs1, rv1, p1⟩ => ?_⟩)
    exact p1 g1 H1 _ .refl rh1 (rs1.set rv1 i)
def sPar (i j : Nat) (a : AF) : SF := fun ρ h => (a ρ h).st ρ fun vs h1 => match vs with
  | [v, w] => .nx ((ρ.set i (some v)).set j (some w)) h1
  | _ => .no
theorem js_par {i j : Nat} {x y : Str} {a b : Expr} {f : AF} {px py pt pos : Pos} {kt k2 pt2} (hc : X.calm = true) (hN : X.N.Nodup) (hi : X.N[i]? = some x) (hj : X.N[j]? = some y) (hij : i ≠ j)
    (hx : X.env.scope.names.lookup x = some .local) (hy : X.env.scope.names.lookup y = some .local) (ha : PA X [a, b] (tA (ct X) W f))
    (hw : swappedStores [.Tuple [.Name x px, .Name y py] kt pt] (.Tuple [a, b] k2 pt2) X.env = pure (some [x, y]))
    (hs : swapsWithSole [.Tuple [.Name x px, .Name y py] kt pt] (.Tuple [a, b] k2 pt2) pos.line X.env = pure false := by rfl) :
    PS X (.Assign [.Tuple [.Name x px, .Name y py] kt pt] (.Tuple [a, b] k2 pt2) pos) (tS (ct X) W (sPar i j f)) :=
  PS.mono (ps_par hc hN hi hj hij hx hy ha hw hs) fun D σ H ⟨g, ρ, h, rh, rs, p⟩ => by
    refine ⟨g, ρ, h, rh, rs, (Pst.st (R := RTs (ct X)) rs p).imp fun u H1 ⟨g1, v, h1, st, rh1, rs1, rv1, p1⟩ => ?_⟩
    match v, rv1, p1 with
    | [v1, v2], rv1, p1 =>
      obtain ⟨u1, r1, rfl, a1, u2, r2, rfl, a2, rfl⟩ := rv1
      exact ⟨u1, u2, rfl, p1 g1 H1 _ .refl rh1 ((rs1.set a1 i).set a2 j)⟩
    | [], _, p1 => exact p1.elim
    | [_], _, p1 => exact p1.elim
    | _ :: _ :: _ :: _, _, p1 => exact p1.elim
def sPar3 (i j l : Nat) (a : AF) : SF := fun ρ h => (a ρ h).st ρ fun vs h1 => match vs with
  | [u, v, w] => .nx (((ρ.set i (some u)).set j (some v)).set l (some w)) h1
  | _ => .no
theorem js_par3 {i j l : Nat} {x y z : Str} {a b c : Expr} {f : AF} {px py pz pt pos : Pos} {kt k2 pt2} (hc : X.calm = true) (hN : X.N.Nodup) (hi : X.N[i]? = some x) (hj : X.N[j]? = some y) (hl : X.N[l]? = some z) (hij : i ≠ j) (hil : i ≠ l) (hjl : j ≠ l)
    (hx : X.env.scope.names.lookup x = some .local) (hy : X.env.scope.names.lookup y = some .local) (hz : X.env.scope.names.lookup z = some .local) (ha : PA X [a, b, c] (tA (ct X) W f))
    (hw : swappedStores [.Tuple [.Name x px, .Name y py, .Name z pz] kt pt] (.Tuple [a, b, c] k2 pt2) X.env = pure (some [x, y, z]))
    (hs : swapsWithSole [.Tuple [.Name x px, .Name y py, .Name z pz] kt pt] (.Tuple [a, b, c] k2 pt2) pos.line X.env = pure false := by rfl) :
    PS X (.Assign [.Tuple [.Name x px, .Name y py, .Name z pz] kt pt] (.Tuple [a, b, c] k2 pt2) pos) (tS (ct X) W (sPar3 i j l f)) :=
  PS.mono (ps_par3 hc hN hi hj hl hij hil hjl hx hy hz ha hw hs) fun D σ H ⟨g, ρ, h, rh, rs, p⟩ => by
    refine ⟨g, ρ, h, rh, rs, (Pst.st (R := RTs (ct X)) rs p).imp fun u H1 ⟨g1, v, h1, st, rh1, rs1, rv1, p1⟩ => ?_⟩
    match v, rv1, p1 with
    | [v1, v2, v3], rv1, p1 =>
      obtain ⟨u1, r1, rfl, a1, u2, r2, rfl, a2, u3, r3, rfl, a3, rfl⟩ := rv1
      exact ⟨u1, u2, u3, rfl, p1 g1 H1 _ .refl rh1 (((rs1.set a1 i).set a2 j).set a3 l)⟩
    | [], _, p1 => exact p1.elim
    | [_], _, p1 => exact p1.elim
    | [_, _], _, p1 => exact p1.elim
    | _ :: _ :: _ :: _ :: _, _, p1 => exact p1.elim
def sAug (i : Nat) (op : Op2) (e : EF) : SF := fun ρ h => match ρ[i]? with
  | some (some v) => (e ρ h).st ρ fun w h1 => (lift (op h1 v w) h1).st ρ fun r h2 => .nx (ρ.set i (some r)) h2
  | _ => .no
theorem js_aug {i : Nat} {x : Str} {e : Expr} {f : EF} {op : Operator} {o : Op2} {pos pos' : Pos} (hN : X.N.Nodup) (hi : X.N[i]? = some x) (hx : Loc X.env.scope x) (he : PE X e (tE (ct X) W f)) (ho : OpR X (inplaceOp op) (Rd2 (ct X) o)) (hf : X.fn x = true ∨ X.env.scope.names.lookup x = some .local := by first | exact .inl rfl | exact .inr rfl | assumption) :
    PS X (.AugAssign (.Name x pos') op e pos) (tS (ct X) W (sAug i o f)) :=
  PS.mono (ps_aug (i := i) hN hi hx he ho hf) fun D σ H ⟨g, ρ, h, rh, rs, p⟩ => by
    unfold sAug at p
    split at p
    · rename_i v ev
      obtain ⟨u, eu, ru⟩ := rs.get i v ev
      refine ⟨u, eu, g, ρ, h, rh, rs, (Pst.st (R := RT (ct X)) rs p).imp fun w H1 ⟨g1, v1, h1, st, rh1, rs1, rv1, p1⟩ => ?_⟩
      unfold lift at p1
      cases e : o h1 v v1 with
      | none => rw [e] at p1; exact p1.elim
      | some r =>
        rw [e] at p1
        exact ⟨g1, h1, v, v1, r, rh1, ru.stp st, rv1, e, fun g2 H2 u2 st2 rh2 rv2 => p1 g2 H2 _ st2 rh2 ((rs1.stp st2).set rv2 i)⟩
    · exact p.elim

/-! a root that is a list: written, read as data -/
def setI (h : VH) (o i v : VV) : Option VH := match o, i with
  | .obj n, .int k => match h[n]? with
    | some (.fl xs) => match ixN xs.length k with
      | some j => if v.isObj = true then none else some (h.set n (.fl (xs.set j v)))
      | none => none
    | _ => none
  | _, _ => none
theorem setI_ok {c : Ct} {g : Gh} {h h' : VH} {H : Hp} {o i v : VV} {uo ui uv : V} (rh : RH c g h H) (ro : RT c g H o uo) (ri : RT c g H i ui) (rv : RT c g H v uv) (e : setI h o i v = some h') (Q : Hp → Prop) (k : ∀ H', Stp g H g H' → RH c g h' H' → Q H') : rSetL uo ui uv H Q := by
  unfold setI at e
  split at e
  · rename_i n kk
    split at e
    · rename_i xs en
      split at e
      · rename_i j ej
        split at e
        · cases e
        · rename_i ov
          cases e
          obtain ⟨a, ea, eo⟩ := ro
          have hro := rh.at' n _ a en ea
          obtain ⟨nz, us, hl, rvs⟩ := hro
          have nk : ¬ g.kp a := fun z => (rh.kd a z).2 (List.mem_of_getElem? ea)
          have st : Stp g H g (upd H a (.lst (us.set j uv))) := Stp.wr (c := c) nz nk
          refine ⟨a, us, kk, j, eo, int_get ri, hl, by rw [← rvs.len]; exact ej, k _ st (rh.wr ea nz ?_)⟩
          exact ⟨nz, _, upd_same, st.rvs (RVs.set (rv.rv (by simpa using ov)) rvs)⟩
      · cases e
    · cases e
  · cases e
def sSetI (o i e : EF) : SF := fun ρ h => (e ρ h).st ρ fun v h1 => (o ρ h1).st ρ fun ov h2 => (i ρ h2).st ρ fun iv h3 => match setI h3 ov iv v with
  | some h4 => .nx ρ h4
  | none => .no
theorem js_setI {o i e : Expr} {fo fi fe : EF} {pos pos' : Pos} (he : PE X e (tE (ct X) W fe)) (ho : PE X o (tE (ct X) W fo)) (hi : PE X i (tE (ct X) W fi))
    (ha : ∀ v, assign (.Subscript o i pos') X.env v = (do
      let ov ← holding [v] (eval o X.env)
      let iv ← holding [v, ov] (eval i X.env)
      standAt pos'
      holding [v, ov, iv] (setItem ov iv v)
      release [v, ov, iv] []) := by intro _; rfl)
    (hs : swapsWithSole [.Subscript o i pos'] e pos.line X.env = pure false := by rfl) (hw : swappedStores [.Subscript o i pos'] e X.env = pure none := by rfl) (h1 : (assignEach [.Subscript o i pos'] X.env).map (·.2) = [assign (.Subscript o i pos') X.env] := by rfl) :
    PS X (.Assign [.Subscript o i pos'] e pos) (tS (ct X) W (sSetI fo fi fe)) :=
  PS.mono (ps_asg he (pg_sub ho hi set_list ha) hs hw h1) fun D σ H ⟨g, ρ, h, rh, rs, p⟩ => by
    refine ⟨g, ρ, h, rh, rs, (Pst.st (R := RT (ct X)) rs p).imp fun u H1 ⟨g1, v, h1, st, rh1, rs1, rv1, p1⟩ => ?_⟩
    refine ⟨g1, ρ, h1, rh1, rs1, (Pst.st (R := RT (ct X)) rs1 p1).imp fun u2 H2 ⟨g2, ov, h2, st2, rh2, rs2, rv2, p2⟩ => ?_⟩
    refine ⟨g2, ρ, h2, rh2, rs2, (Pst.st (R := RT (ct X)) rs2 p2).imp fun u3 H3 ⟨g3, iv, h3, st3, rh3, rs3, rv3, p3⟩ => ?_⟩
    cases e : setI h3 ov iv v with
    | none => rw [e] at p3; exact p3.elim
    | some h4 =>
      rw [e] at p3
      exact setI_ok rh3 (rv2.stp st3) rv3 ((rv1.stp st2).stp st3) e _ fun H' st' rh' => p3 g3 H' σ st' rh' (rs3.stp st')
/-- a root as data -/
def eFrz (f : EF) : EF := fun ρ h => (f ρ h).bind fun v h1 => match v with
  | .obj n => match h1[n]? with
    | some (.fl xs) => .ok (.lst xs) (h1.set n (.fzn (.lst xs)))
    | some (.fzn w) => .ok w h1
    | _ => .no
  | v => .ok v h1
theorem j_frz {e : Expr} {f : EF} (h : PE X e (tE (ct X) W f)) : PE X e (tE (ct X) W (eFrz f)) :=
  PE.mono h fun σ H Q ⟨g, ρ, h0, rh, rs, p⟩ => by
    refine ⟨g, ρ, h0, rh, rs, (Pst.bind (R := RT (ct X)) p).imp fun u H1 ⟨g1, v, h1, st, rh1, rv1, p1⟩ => ?_⟩
    cases v with
    | obj n =>
      obtain ⟨a, ea, eu⟩ := rv1
      simp only at p1
      split at p1
      · rename_i xs en
        obtain ⟨nz, us, hl, rvs⟩ := rh1.at' n _ a en ea
        have rv : RV (ct X) (g1.frz a).fz H1 (.lst xs) (.ref a) := by
          rw [RV]
          exact ⟨a, us, rfl, .inr rfl, hl, (Stp.kill (p := a)).rvs rvs⟩
        exact p1 (g1.frz a) H1 u .kill (rh1.kill ea rv) (by rw [eu]; exact RT.of_rv rv)
      · rename_i w en
        obtain ⟨fa, rv⟩ := rh1.at' n _ a en ea
        exact p1 g1 H1 u .refl rh1 (by rw [eu]; exact RT.of_rv rv)
      · exact p1.elim
    | _ => exact p1 g1 H1 u .refl rh1 rv1
def eApp (o e : EF) : EF := fun ρ h => (o ρ h).bind fun ov h1 => match lstOf h1 ov with
  | none => .no
  | some _ => (e ρ h1).bind fun v h2 => match ov with
    | .obj n => match h2[n]? with
      | some (.fl xs) => if v.isObj = true ∨ xs.length ≥ SZ then .no else .ok .non (h2.set n (.fl (xs ++ [v])))
      | _ => .no
    | _ => .no
theorem j_app {o e : Expr} {fo fe : EF} {apos cpos : Pos} (ho : PE X o (tE (ct X) W fo)) (ha : PE X e (tE (ct X) W fe)) (hs1 : starEach (e :: []) X.env = (false, eval e X.env) :: starEach [] X.env := by rfl)
    (hbase : attributeBase o "append" X.env (eval o X.env) = eval o X.env := by rfl)
    (hfew : ((backTo cpos (starEach [e] X.env)).all (fun x => !x.1) && (backToKw cpos (keywordEach [] X.env)).all (fun x => x.1.isSome)
      && decide ([e].length + ([] : List Keyword).length + (if ([] : List Keyword).isEmpty then 0 else 1) < 30)) = true := by rfl)
    (hline : (apos.endLine == cpos.line) = true := by rfl) (hplain : (backTo cpos (starEach [] X.env)).any (·.1) = false := by rfl) :
    PE X (.Call (.Attribute o "append" apos) [e] [] cpos) (tE (ct X) W (eApp fo fe)) :=
  PE.mono (pe_bm PySem.F.plainAttrs_list PySem.F.slot_list_append PySem.F.type_list_append mt_append ho (pa_cons ha pa_nil hs1) hbase hfew hline hs1 hplain) fun σ H Q ⟨g, ρ, h0, rh, rs, p⟩ => by
    refine ⟨g, ρ, h0, rh, rs, (Pst.bind (R := RT (ct X)) p).imp fun u H1 ⟨g1, ov, h1, st, rh1, rv1, p1⟩ => ?_⟩
    cases e : lstOf h1 ov with
    | none => rw [e] at p1; exact p1.elim
    | some ys =>
      rw [e] at p1
      obtain ⟨a, us, eu, sq, rvs⟩ := lstOf_get rh1 rv1 e
      refine ⟨by rw [eu]; exact .inl ⟨rfl, us, sq⟩, g1, ρ, h1, rh1, rs.stp st, (Pst.bind (R := RT (ct X)) p1).imp fun u2 H2 ⟨g2, v, h2, st2, rh2, rv2, p2⟩ => ?_⟩
      cases ov with
      | obj n =>
        simp only at p2
        obtain ⟨b, eb, eu'⟩ := rv1.stp st2
        split at p2
        · rename_i xs en
          obtain ⟨nz, ws, hl, rws⟩ := rh2.at' n _ b en eb
          split at p2
          · exact p2.elim
          · rename_i cc
            rw [not_or] at cc
            have nk : ¬ g2.kp b := fun z => (rh2.kd b z).2 (List.mem_of_getElem? eb)
            have stw : Stp g2 H2 g2 (upd H2 b (.lst (ws ++ [u2]))) := Stp.wr (c := ct X) nz nk
            refine ⟨b, ws, u2, eu', rfl, hl, by rw [← rws.len]; exact SZ_lt (by omega), ?_⟩
            exact p2 g2 _ .non stw (rh2.wr eb nz ⟨nz, _, upd_same, stw.rvs (RVs.app rws (RVs.one (rv2.rv (by simpa using cc.1))))⟩) rt_non
        · exact p2.elim
      | _ => exact p2.elim
end
end J

namespace J
open PySem L2

/-! numbers -/
def isInt2 (f : Int → Int → Option VV) : Op2 := fun _ v w => match v, w with
  | .int i, .int j => f i j
  | _, _ => none
def opSub : Op2 := isInt2 fun i j => some (.int (i - j))
def opLt : Op2 := isInt2 fun i j => some (.bl (decide (i < j)))
def opLe : Op2 := isInt2 fun i j => some (.bl (decide (i ≤ j)))
def opGt : Op2 := isInt2 fun i j => some (.bl (decide (j < i)))
def opGe : Op2 := isInt2 fun i j => some (.bl (decide (j ≤ i)))
def opFdiv : Op2 := isInt2 fun i j => if j ≠ 0 ∧ j.natAbs.log2 < 9000 then some (.int (i.fdiv j)) else none
def opMod : Op2 := isInt2 fun i j => if j ≠ 0 then some (.int (i.fmod j)) else none
def mulOk (i j : Int) : Bool := decide (i.natAbs < 2 ^ 64) || decide (j.natAbs < 2 ^ 64) || decide (i.natAbs.log2 + j.natAbs.log2 < 1000000)
def opPow : Op2 := isInt2 fun i j => if 0 ≤ j ∧ j ≤ 1000000 ∧ i.natAbs < 2 ^ 64 then some (.int (i ^ j.toNat)) else none
def opNeg : Op1 := fun _ v => match v with
  | .int i => some (.int (-i))
  | _ => none
def opAdd : Op2 := fun h v w => match v, w with
  | .int i, .int j => some (.int (i + j))
  | .str x, .str y => if x.length + y.length ≤ SZ then some (.str (x ++ y)) else none
  | .tup xs, .tup ys => if xs.length + ys.length ≤ SZ then some (.tup (xs ++ ys)) else none
  | .lst xs, .lst ys => if xs.length + ys.length ≤ SZ then some (.lst (xs ++ ys)) else none
  | _, _ => none
def opMul : Op2 := fun h v w => match v, w with
  | .int i, .int j => if mulOk i j = true then some (.int (i * j)) else none
  | .lst xs, .int k => if -(2 ^ 63) ≤ k ∧ k < 2 ^ 63 ∧ xs.length * k.toNat ≤ SZ then some (.lst (List.replicate k.toNat xs).flatten) else none
  | _, _ => none

section
variable {X : Cx} {W : WX}
theorem opR_int {f : Value → Value → Sem Value} {C : Int → Int → Prop} {g : Int → Int → V} {o : Int → Int → Option VV} (h : OpR X f (rI C g)) (ho : ∀ i j r, o i j = some r → C i j ∧ ∀ c z H, RV c z H r (g i j)) : OpR X f (Rd2 (ct X) (isInt2 o)) :=
  OpR.imp h fun x y H Q ⟨g0, hh, v, w, r, rh, rv, rw', e, k⟩ => by
    unfold isInt2 at e
    split at e
    · rename_i i j
      obtain ⟨c, rr⟩ := ho i j r e
      exact ⟨i, j, int_get rv, int_get rw', c, k g0 H _ .refl rh (RT.of_rv (rr _ _ _))⟩
    · cases e
theorem opR_int0 {f : Value → Value → Sem Value} {g : Int → Int → V} {o : Int → Int → Option VV} (h : OpR X f (rI0 g)) (ho : ∀ i j r, o i j = some r → ∀ c z H, RV c z H r (g i j)) : OpR X f (Rd2 (ct X) (isInt2 o)) :=
  OpR.imp h fun x y H Q ⟨g0, hh, v, w, r, rh, rv, rw', e, k⟩ => by
    unfold isInt2 at e
    split at e
    · rename_i i j
      have rr := ho i j r e
      exact ⟨i, j, int_get rv, int_get rw', k g0 H _ .refl rh (RT.of_rv (rr _ _ _))⟩
    · cases e
theorem rv_int (c : Ct) (z : Addr → Prop) (H : Hp) (i : Int) : RV c z H (.int i) (.int i) := by rw [RV]
theorem rv_bl (c : Ct) (z : Addr → Prop) (H : Hp) (i : Bool) : RV c z H (.bl i) (.bl i) := by rw [RV]
theorem rv_str (c : Ct) (z : Addr → Prop) (H : Hp) (i : Str) : RV c z H (.str i) (.str i) := by rw [RV]
theorem or_sub : OpR X (binaryOp .Sub) (Rd2 (ct X) opSub) := opR_int0 op_sub fun i j r e => by cases e; exact fun c z H => rv_int c z H _
theorem or_lt : OpR X (compareOp .Lt) (Rd2 (ct X) opLt) := opR_int0 op_lt fun i j r e => by cases e; exact fun c z H => rv_bl c z H _
theorem or_le : OpR X (compareOp .LtE) (Rd2 (ct X) opLe) := opR_int0 op_le fun i j r e => by cases e; exact fun c z H => rv_bl c z H _
theorem or_gt : OpR X (compareOp .Gt) (Rd2 (ct X) opGt) := opR_int0 op_gt fun i j r e => by cases e; exact fun c z H => rv_bl c z H _
theorem or_ge : OpR X (compareOp .GtE) (Rd2 (ct X) opGe) := opR_int0 op_ge fun i j r e => by cases e; exact fun c z H => rv_bl c z H _
theorem or_fdiv : OpR X (binaryOp .FloorDiv) (Rd2 (ct X) opFdiv) :=
  opR_int (C := fun _ j => j ≠ 0 ∧ j.natAbs.log2 < 9000) (g := fun i j => .int (i.fdiv j)) (opI fun _ _ _ _ _ _ _ hc q => PyProof.Rows.floordiv_int hc.1 q (.inl (PyProof.noPylong_of_log2 hc.2))) fun i j r e => by
    split at e
    · rename_i h; cases e; exact ⟨h, fun c z H => rv_int c z H _⟩
    · cases e
theorem or_mod : OpR X (binaryOp .Mod) (Rd2 (ct X) opMod) :=
  opR_int (C := fun _ j => j ≠ 0) (g := fun i j => .int (i.fmod j)) op_modN fun i j r e => by
    split at e
    · rename_i h; cases e; exact ⟨h, fun c z H => rv_int c z H _⟩
    · cases e
theorem or_pow : OpR X (binaryOp .Pow) (Rd2 (ct X) opPow) :=
  opR_int (C := CPow) (g := fun i j => .int (i ^ j.toNat)) op_pow fun i j r e => by
    split at e
    · rename_i h; cases e; exact ⟨h, fun c z H => rv_int c z H _⟩
    · cases e
theorem ur_neg : UnR X (unaryOp .USub) (Rd1 (ct X) opNeg) :=
  UnR.imp un_neg fun x H Q ⟨g0, hh, v, r, rh, rv, e, k⟩ => by
    cases v with
    | int i => cases e; exact ⟨i, int_get rv, k g0 H _ .refl rh rt_int⟩
    | _ => cases e
/-- new frozen data -/
theorem new_lst {c : Ct} {g : Gh} {h : VH} {H : Hp} {p : Addr} {xs : List VV} {us : List V} (rh : RH c g h H) (hp : H p = none) (rv : RVs c g.fz H xs us) :
    Stp g H (g.frz p) (upd H p (.lst us)) ∧ RH c (g.frz p) h (upd H p (.lst us)) ∧ RT c (g.frz p) (upd H p (.lst us)) (.lst xs) (.ref p) := by
  refine ⟨.new rh hp, rh.new hp, ?_⟩
  show RV _ _ _ _ _
  rw [RV]
  exact ⟨p, us, rfl, .inr rfl, upd_same, (Stp.new rh hp).rvs rv⟩
/-- () + t -/
theorem op_catT0 : OpR X (binaryOp .Add) (fun x y H Q => ∃ a b ys, x = .ref a ∧ y = .ref b ∧ SqT X.K H a [] ∧ SqT X.K H b ys ∧ Q (.ref b) H) := by
  intro pins s σ H x y v u Q I rx ry h
  obtain ⟨a, b, ys, e1, e2, ha, hb, q⟩ := h
  subst e1; subst e2
  cases rx
  cases ry
  obtain ⟨its, r, ht, hz⟩ := I.tuple ha
  obtain ⟨its2, r2, ht2, hz2⟩ := I.tuple hb
  have e0 : its = [] := by cases r; rfl
  subst e0
  obtain ⟨⟨cls, dd, data, sl⟩, ho, hc, n, hd⟩ := id ht
  obtain ⟨⟨cls2, dd2, data2, sl2⟩, ho2, hc2, n2, hd2⟩ := id ht2
  simp only at hc hd hc2 hd2
  subst hc hd hc2 hd2
  exact PySem.concat_meets ⟨_, ho, rfl⟩ ⟨_, ho2, rfl⟩ noFill_tuple_add seq_tuple_add PySem.F.slot_tuple_add PySem.F.entry_tuple_add (PySem.F.args_tuple_add_2 _ _)
      (PyProof.Rows.tuple_addW0 a b (([] : List Value).toArray) its2.toArray n n2 dd dd2 sl sl2 (by simp)) ⟨ho, ho2, ⟨.ref b, H, I, rfl, q⟩⟩
theorem or_add : OpR X (binaryOp .Add) (Rd2 (ct X) opAdd) :=
  OpR.imp (OpR.or op_add (OpR.or op_add_str (OpR.or op_catT (OpR.or op_cat op_catT0)))) fun x y H Q ⟨g, h, v, w, r, rh, rv, rw', e, k⟩ => by
    unfold opAdd at e
    split at e
    · cases e
      exact .inl ⟨_, _, int_get rv, int_get rw', k g H _ .refl rh rt_int⟩
    · split at e
      · rename_i hl
        cases e
        exact .inr (.inl ⟨_, _, str_get rv, str_get rw', SZ_le hl, k g H _ .refl rh rt_str⟩)
      · cases e
    · split at e
      · rename_i xs ys hl
        cases e
        obtain ⟨p, us, ep, sp, rp⟩ := tup_get rv
        obtain ⟨q, ws, eq, sq, rq⟩ := tup_get rw'
        by_cases hx : us = []
        · subst hx
          have hx' : xs = [] := List.length_eq_zero_iff.mp rp.len
          subst hx'
          exact .inr (.inr (.inr (.inr ⟨p, q, ws, ep, eq, sp.sq, sq.sq, by rw [← eq]; exact k g H y .refl rh (by rw [List.nil_append]; exact rw')⟩)))
        · refine .inr (.inr (.inl ⟨p, q, us, ws, ep, eq, sp.sq, sq.sq, hx, by rw [← rp.len, ← rq.len]; exact SZ_le hl, fun z => ?_, fun _ p hp => ?_⟩))
          · subst z
            have hy' : ys = [] := List.length_eq_zero_iff.mp rq.len
            subst hy'
            rw [← ep]
            exact k g H x .refl rh (by rw [List.append_nil]; exact rv)
          · obtain ⟨s1, s2, s3⟩ := pair_new rh hp (RVs.app rp rq)
            exact k _ _ _ s1 s2 s3
      · cases e
    · split at e
      · rename_i hl
        cases e
        obtain ⟨p, us, ep, sp, rp⟩ := lstOf'_get rh rv rfl
        obtain ⟨q, ws, eq, sq, rq⟩ := lstOf'_get rh rw' rfl
        refine .inr (.inr (.inr (.inl ⟨p, q, us, ws, ep, eq, sp, sq, by rw [← rp.len, ← rq.len]; exact SZ_le hl, fun p hp => ?_⟩)))
        obtain ⟨s1, s2, s3⟩ := new_lst rh hp (RVs.app rp rq)
        exact k _ _ _ s1 s2 s3
      · cases e
    · cases e
theorem RVs.rep {c : Ct} {z : Addr → Prop} {H : Hp} {xs : List VV} {us : List V} (r : RVs c z H xs us) : ∀ n : Nat, RVs c z H (List.replicate n xs).flatten (List.replicate n us).flatten
  | 0 => RVs.nil
  | n + 1 => by
    rw [List.replicate_succ, List.replicate_succ, List.flatten_cons, List.flatten_cons]
    exact RVs.app r (RVs.rep r n)
theorem mulOk_ok {i j : Int} (h : mulOk i j = true) : IntMulOk i j := by
  unfold mulOk at h
  rw [Bool.or_eq_true, Bool.or_eq_true] at h
  rcases h with (h | h) | h
  · have := of_decide_eq_true h
    exact IntMulOk.of_left (intBits_le_64 (by omega) (by omega))
  · have := of_decide_eq_true h
    exact IntMulOk.of_right (intBits_le_64 (by omega) (by omega))
  · exact CMulW.ok (show CMulW i j from of_decide_eq_true (p := i.natAbs.log2 + j.natAbs.log2 < 1000000) h)
theorem or_mul : OpR X (binaryOp .Mult) (Rd2 (ct X) opMul) :=
  OpR.imp (OpR.or (opI (C := fun i j => mulOk i j = true) (g := fun i j => i * j) fun _ _ _ _ _ _ _ hc q => PyProof.Rows.mul_int q (mulOk_ok hc)) op_rep) fun x y H Q ⟨g, h, v, w, r, rh, rv, rw', e, k⟩ => by
    unfold opMul at e
    split at e
    · split at e
      · rename_i hm
        cases e
        exact .inl ⟨_, _, int_get rv, int_get rw', hm, k g H _ .refl rh rt_int⟩
      · cases e
    · split at e
      · rename_i hl
        cases e
        obtain ⟨p, us, ep, sp, rp⟩ := lstOf'_get rh rv rfl
        refine .inr ⟨p, _, us, ep, int_get rw', sp, hl.1, hl.2.1, by rw [← rp.len]; exact SZ_le hl.2.2, fun p hp => ?_⟩
        obtain ⟨s1, s2, s3⟩ := new_lst rh hp (RVs.rep rp _)
        exact k _ _ _ s1 s2 s3
      · cases e
    · cases e

/-! places -/
def opIx : Op2 := fun h v w => match v, w with
  | .tup xs, .int i => atI xs i
  | .str z, .int i => if z.length ≤ SZ then (atI z.cps.toList i).map fun c => .str ⟨#[c]⟩ else none
  | v, .int i => (lstOf h v).bind fun xs => atI xs i
  | _, _ => none
theorem atI_rv {c : Ct} {z : Addr → Prop} {H : Hp} {xs : List VV} {us : List V} {i : Int} {v : VV} (r : RVs c z H xs us) (e : atI xs i = some v) : ∃ u, atI us i = some u ∧ RV c z H v u := by
  unfold atI at e ⊢
  rw [← r.len]
  cases q : ixN xs.length i with
  | none => rw [q] at e; cases e
  | some j => rw [q] at e; exact r.get e
theorem ir_ix : IxR X (Rd2 (ct X) opIx) :=
  IxR.imp ix_seq fun x y H Q ⟨g, h, v, w, r, rh, rv, rw', e, k⟩ => by
    unfold opIx at e
    split at e
    · rename_i xs i
      obtain ⟨p, us, ep, sp, rp⟩ := tup_get rv
      obtain ⟨u, eu, ru⟩ := atI_rv rp e
      exact .inr (.inl ⟨p, us, i, u, ep, int_get rw', sp.sq, eu, k g H u .refl rh (RT.of_rv ru)⟩)
    · rename_i z i
      split at e
      · rename_i hz
        cases q : atI z.cps.toList i with
        | none => rw [q] at e; cases e
        | some cc =>
          rw [q] at e
          cases e
          exact .inr (.inr ⟨z, i, cc, str_get rv, int_get rw', SZ_le hz, q, k g H _ .refl rh rt_str⟩)
      · cases e
    · rename_i v i _ _
      obtain ⟨xs, e1, e2⟩ := Option.bind_eq_some_iff.mp e
      obtain ⟨p, us, ep, sp, rp⟩ := lstOf_get rh rv e1
      obtain ⟨u, eu, ru⟩ := atI_rv rp e2
      exact .inl ⟨p, us, i, u, ep, int_get rw', sp, eu, k g H u .refl rh (RT.of_rv ru)⟩
    · cases e

/-! slices: data -/
abbrev POF := VSt → VH → Res (Option Int)
def RO_ (_ : Gh) (_ : Hp) (a b : Option Int) : Prop := b = a
abbrev tO (c : Ct) (W : WX) (f : POF) : TO := tG c W RO_ f
def oNone : POF := fun _ h => .ok none h
def oSome (a : EF) : POF := fun ρ h => (a ρ h).bind fun v h1 => match v with
  | .int i => .ok (some i) h1
  | _ => .no
theorem PO.mono {e : Option Expr} {t t' : TO} (h : PO X e t) (m : ∀ σ H Q, t' σ H Q → t σ H Q) : PO X e t' := ⟨fun pins s σ H Q I q => h.run pins s σ H Q I (m σ H Q q)⟩
theorem jo_none : PO X none (tO (ct X) W oNone) := PO.mono po_none fun σ H Q ⟨g, ρ, h, rh, rs, p⟩ => p g H none .refl rh rfl
theorem jo_some {e : Expr} {f : EF} (h : PE X e (tE (ct X) W f)) : PO X (some e) (tO (ct X) W (oSome f)) :=
  PO.mono (po_some h) fun σ H Q ⟨g, ρ, h0, rh, rs, p⟩ => by
    refine ⟨g, ρ, h0, rh, rs, (Pst.bind (R := RT (ct X)) p).imp fun u H1 ⟨g1, v, h1, st, rh1, rv1, p1⟩ => ?_⟩
    cases v with
    | int i => exact ⟨i, int_get rv1, p1 g1 H1 _ .refl rh1 rfl⟩
    | _ => exact p1.elim
def cut (xs : List VV) (lo hi : Option Int) : List VV := (xs.drop (HT.sIx xs.length 0 lo)).take (HT.sIx xs.length xs.length hi - HT.sIx xs.length 0 lo)
theorem RVs.cut {c : Ct} {z : Addr → Prop} {H : Hp} {xs : List VV} {us : List V} (r : RVs c z H xs us) (lo hi : Option Int) : RVs c z H (J.cut xs lo hi) (cutV us lo hi) := by
  unfold J.cut cutV
  rw [r.len]
  exact RVs.take _ (RVs.drop _ r)
abbrev OpS := VH → VV → Option Int → Option Int → Option VV
def opSl : OpS := fun h v lo hi => match v with
  | .tup xs => if HT.sIx xs.length 0 lo = 0 ∧ HT.sIx xs.length xs.length hi = xs.length then none else some (.tup (cut xs lo hi))
  | .str z => if z.length ≤ SZ then some (.str (cutS z lo hi)) else none
  | v => (lstOf h v).map fun xs => .lst (cut xs lo hi)
def eSl (op : OpS) (a : EF) (lo hi : POF) : EF := fun ρ h => (a ρ h).bind fun v h1 => (lo ρ h1).bind fun l h2 => (hi ρ h2).bind fun u h3 => lift (op h3 v l u) h3
theorem j_sl {e : Expr} {lo hi : Option Expr} {p2 pos : Pos} {fe : EF} {fl fh : POF} (he : PE X e (tE (ct X) W fe)) (hl : PO X lo (tO (ct X) W fl)) (hu : PO X hi (tO (ct X) W fh)) : PE X (.Subscript e (.Slice lo hi none p2) pos) (tE (ct X) W (eSl opSl fe fl fh)) :=
  PE.mono (pe_slice (SlR.or sl_list (SlR.or sl_tup sl_str)) he hl hu) fun σ H Q ⟨g, ρ, h0, rh, rs, p⟩ => by
    refine ⟨g, ρ, h0, rh, rs, (Pst.bind (R := RT (ct X)) p).imp fun u H1 ⟨g1, v, h1, st, rh1, rv1, p1⟩ => ?_⟩
    refine ⟨g1, ρ, h1, rh1, rs.stp st, (Pst.bind (R := RO_) p1).imp fun l H2 ⟨g2, l', h2, st2, rh2, el, p2⟩ => ?_⟩
    cases el
    refine ⟨g2, ρ, h2, rh2, (rs.stp st).stp st2, (Pst.bind (R := RO_) p2).imp fun l2 H3 ⟨g3, l2', h3, st3, rh3, el2, p3⟩ => ?_⟩
    cases el2
    have rv3 := (rv1.stp st2).stp st3
    unfold lift at p3
    cases er : opSl h3 v l l2 with
    | none => rw [er] at p3; exact p3.elim
    | some r =>
      rw [er] at p3
      unfold opSl at er
      split at er
      · split at er
        · cases er
        · rename_i hne
          cases er
          obtain ⟨p, us, ep, sp, rp⟩ := tup_get rv3
          refine .inr (.inl ⟨p, us, ep, sp.sq, by rw [← rp.len]; exact hne, fun p hp => ?_⟩)
          obtain ⟨s1, s2, s3⟩ := pair_new rh3 hp (RVs.cut rp l l2)
          exact p3 _ _ _ s1 s2 s3
      · split at er
        · rename_i hz
          cases er
          exact .inr (.inr ⟨_, str_get rv3, SZ_le hz, p3 g3 H3 _ .refl rh3 rt_str⟩)
        · cases er
      · obtain ⟨xs, e1, e2⟩ := Option.map_eq_some_iff.mp er
        cases e2
        obtain ⟨p, us, ep, sp, rp⟩ := lstOf_get rh3 rv3 e1
        refine .inl ⟨p, us, ep, sp, fun p hp => ?_⟩
        obtain ⟨s1, s2, s3⟩ := new_lst rh3 hp (RVs.cut rp l l2)
        exact p3 _ _ _ s1 s2 s3

/-! == of data -/
mutual
def toD : VV → PyData
  | .non => .none
  | .bl b => .bool b
  | .int i => .int i
  | .str x => .str x
  | .tup xs => .tuple (toDs xs)
  | .lst xs => .list (toDs xs)
  | _ => .none
def toDs : List VV → List PyData
  | [] => []
  | x :: xs => toD x :: toDs xs
end
mutual
def isD : VV → Bool
  | .non => true
  | .bl _ => true
  | .int _ => true
  | .str _ => true
  | .tup xs => isDs xs
  | .lst xs => isDs xs
  | _ => false
def isDs : List VV → Bool
  | [] => true
  | x :: xs => isD x && isDs xs
end
mutual
theorem dp_of {c : Ct} {z : Addr → Prop} {H : Hp} : ∀ (v : VV) (u : V), RV c z H v u → isD v = true → Dp c.K H u (toD v)
  | .non, u, r, _ => by rw [RV] at r; subst r; rw [toD]; exact .non
  | .bl b, u, r, _ => by rw [RV] at r; subst r; rw [toD]; exact .bl b
  | .int b, u, r, _ => by rw [RV] at r; subst r; rw [toD]; exact .int b
  | .str b, u, r, _ => by rw [RV] at r; subst r; rw [toD]; exact .str b
  | .tup xs, u, r, d => by
    rw [RV] at r
    obtain ⟨p, us, e, t, q⟩ := r
    subst e
    rw [toD]
    rw [isD] at d
    exact .tup t.sq (dps_of xs us q d)
  | .lst xs, u, r, d => by
    rw [RV] at r
    obtain ⟨p, us, e, _, t, q⟩ := r
    subst e
    rw [toD]
    rw [isD] at d
    exact .lst (SqL.of t) (dps_of xs us q d)
  | .scr _, _, _, d => by rw [isD] at d <;> first | exact (Bool.false_ne_true d).elim | simp
  | .dT _ _, _, _, d => by rw [isD] at d <;> first | exact (Bool.false_ne_true d).elim | simp
  | .dK _ _, _, _, d => by rw [isD] at d <;> first | exact (Bool.false_ne_true d).elim | simp
  | .ins _ _ _, _, _, d => by rw [isD] at d <;> first | exact (Bool.false_ne_true d).elim | simp
  | .obj _, _, _, d => by rw [isD] at d <;> first | exact (Bool.false_ne_true d).elim | simp
  | .glb _, _, _, d => by rw [isD] at d <;> first | exact (Bool.false_ne_true d).elim | simp
  | .ty _, _, _, d => by rw [isD] at d <;> first | exact (Bool.false_ne_true d).elim | simp
theorem dps_of {c : Ct} {z : Addr → Prop} {H : Hp} : ∀ (vs : List VV) (us : List V), RVs c z H vs us → isDs vs = true → DpAll c.K H us (toDs vs)
  | [], us, r, _ => by rw [RVs] at r; subst r; rw [toDs]; exact .nil
  | x :: xs, us, r, d => by
    rw [RVs] at r
    obtain ⟨u, q, e, a, b⟩ := r
    subst e
    rw [isDs, Bool.and_eq_true] at d
    rw [toDs]
    exact .cons (dp_of x u a d.1) (dps_of xs q b d.2)
end
theorem noObj {v : VV} (h : isD v = true) : v.isObj = false := by
  cases v with
  | obj n => simp [isD] at h
  | _ => rfl
/-- == : scalars of one kind, else data -/
def eqD (v w : VV) : Option Bool := match v, w with
  | .int i, .int j => some (decide (i = j))
  | .str i, .str j => some (decide (i = j))
  | .bl i, .bl j => some (decide (i = j))
  | v, w => if isD v = true ∧ isD w = true ∧ SeqAt.shaped (toD v) = true ∧ SeqAt.shaped (toD w) = true then some (PyData.eqv (toD v) (toD w)) else none
def opEq : Op2 := fun _ v w => (eqD v w).map .bl
def opNe : Op2 := fun _ v w => (eqD v w).map fun b => .bl (!b)
theorem eqD_cases {c : Ct} {g : Gh} {H : Hp} {v w : VV} {x y : V} {b : Bool} (rv : RT c g H v x) (rw' : RT c g H w y) (e : eqD v w = some b) :
    (scal x y = true ∧ decide (x = y) = b) ∨ ∃ d e, Dp c.K H x d ∧ Dp c.K H y e ∧ SeqAt.shaped d = true ∧ SeqAt.shaped e = true ∧ PyData.eqv d e = b := by
  unfold eqD at e
  split at e
  · cases e
    rw [int_get rv, int_get rw']
    exact .inl ⟨rfl, by rw [dec_int, Bool.beq_eq_decide_eq]⟩
  · cases e
    rw [str_get rv, str_get rw']
    exact .inl ⟨rfl, by rw [dec_str, Bool.beq_eq_decide_eq]⟩
  · cases e
    rw [bl_get rv, bl_get rw']
    exact .inl ⟨rfl, by rw [dec_bl, Bool.beq_eq_decide_eq]⟩
  · split at e
    · rename_i hd
      cases e
      have n1 : v.isObj = false := noObj hd.1
      have n2 : w.isObj = false := noObj hd.2.1
      exact .inr ⟨_, _, dp_of _ _ (rv.rv n1) hd.1, dp_of _ _ (rw'.rv n2) hd.2.1, hd.2.2.1, hd.2.2.2, rfl⟩
    · cases e
theorem or_eq {k : Nat} (hr : Room k X.A) : OpR X (compareOp .Eq) (Rd2 (ct X) opEq) :=
  OpR.imp (OpR.or op_eq (op_eqD hr.units)) fun x y H Q ⟨g, h, v, w, r, rh, rv, rw', e, kk⟩ => by
    obtain ⟨b, e1, e2⟩ := Option.map_eq_some_iff.mp e
    cases e2
    rcases eqD_cases rv rw' e1 with ⟨q1, q2⟩ | ⟨d, e, q1, q2, q3, q4, q5⟩
    · exact .inl ⟨q1, by rw [q2]; exact kk g H _ .refl rh rt_bl⟩
    · exact .inr ⟨d, e, q1, q2, q3, q4, by rw [q5]; exact kk g H _ .refl rh rt_bl⟩
theorem or_ne {k : Nat} (hr : Room k X.A) : OpR X (compareOp .NotEq) (Rd2 (ct X) opNe) :=
  OpR.imp (OpR.or op_ne (op_neD hr.units)) fun x y H Q ⟨g, h, v, w, r, rh, rv, rw', e, kk⟩ => by
    obtain ⟨b, e1, e2⟩ := Option.map_eq_some_iff.mp e
    cases e2
    rcases eqD_cases rv rw' e1 with ⟨q1, q2⟩ | ⟨d, e, q1, q2, q3, q4, q5⟩
    · exact .inl ⟨q1, by rw [q2]; exact kk g H _ .refl rh rt_bl⟩
    · exact .inr ⟨d, e, q1, q2, q3, q4, by rw [q5]; exact kk g H _ .refl rh rt_bl⟩
/-- is None -/
def opIsN : Op2 := fun _ v w => match v, w with
  | .non, .non => some (.bl true)
  | v, .non => if v.isObj = true then none else some (.bl false)
  | _, _ => none
def opNotN : Op2 := fun _ v w => match v, w with
  | .non, .non => some (.bl false)
  | v, .non => if v.isObj = true then none else some (.bl true)
  | _, _ => none
theorem non_dec {c : Ct} {g : Gh} {H : Hp} {v : VV} {u : V} (rv : RT c g H v u) (no : v.isObj = false) (nn : v ≠ .non) : decide (u = V.non) = false := by
  have r := rv.rv no
  refine decide_eq_false fun z => ?_
  subst z
  cases v with
  | non => exact nn rfl
  | bl b => rw [RV] at r; cases r
  | int b => rw [RV] at r; cases r
  | str b => rw [RV] at r; cases r
  | tup xs => rw [RV] at r; obtain ⟨p, us, e, _⟩ := r; cases e
  | lst xs => rw [RV] at r; obtain ⟨p, us, e, _⟩ := r; cases e
  | scr xs => rw [RV] at r; obtain ⟨p, us, e, _⟩ := r; cases e
  | dT ks xs => rw [RV] at r; obtain ⟨p, us, e, _⟩ := r; cases e
  | dK ks xs => rw [RV] at r; obtain ⟨p, us, e, _⟩ := r; cases e
  | ins a ks xs => rw [RV] at r; obtain ⟨p, C, dx, us, e, _⟩ := r; cases e
  | obj n => cases no
  | glb x => rw [RV] at r; obtain ⟨a, _, e⟩ := r; cases e
  | ty n => rw [RV] at r; cases r
theorem or_isN : OpR X (compareOp .Is) (Rd2 (ct X) opIsN) :=
  OpR.imp op_isN fun x y H Q ⟨g, h, v, w, r, rh, rv, rw', e, kk⟩ => by
    unfold opIsN at e
    split at e
    · cases e
      refine ⟨non_get rw', ?_⟩
      rw [non_get rv]
      exact kk g H _ .refl rh rt_bl
    · split at e
      · cases e
      · rename_i nv no
        cases e
        refine ⟨non_get rw', ?_⟩
        rw [non_dec rv (by simpa using no) (fun z => nv z)]
        exact kk g H _ .refl rh rt_bl
    · cases e
theorem or_notN : OpR X (compareOp .IsNot) (Rd2 (ct X) opNotN) :=
  OpR.imp op_notN fun x y H Q ⟨g, h, v, w, r, rh, rv, rw', e, kk⟩ => by
    unfold opNotN at e
    split at e
    · cases e
      refine ⟨non_get rw', ?_⟩
      rw [non_get rv]
      exact kk g H _ .refl rh rt_bl
    · split at e
      · cases e
      · rename_i nv no
        cases e
        refine ⟨non_get rw', ?_⟩
        rw [non_dec rv (by simpa using no) (fun z => nv z)]
        exact kk g H _ .refl rh rt_bl
    · cases e

/-! calls of built-ins -/
def cLen : OpN := fun h vs => match vs with
  | [.tup xs] => some (.int xs.length)
  | [.str z] => if z.length ≤ SZ then some (.int z.length) else none
  | [v] => (lstOf h v).map fun xs => .int xs.length
  | _ => none
theorem cr_len : CallR X (.builtin "len") (RdN (ct X) cLen) :=
  CallR.imp (CallR.or call_len_seq call_len_str) fun xs H Q ⟨g, h, vs, r, rh, rv, e, kk⟩ => by
    unfold cLen at e
    split at e
    · cases e
      obtain ⟨u, q, rfl, a, rfl⟩ := rv
      obtain ⟨p, us, ep, sp, rp⟩ := tup_get a
      exact .inl ⟨p, us, by rw [ep], .inr sp.sq, by rw [← rp.len]; exact kk g H _ .refl rh rt_int⟩
    · split at e
      · rename_i hz
        cases e
        obtain ⟨u, q, rfl, a, rfl⟩ := rv
        exact .inr ⟨_, by rw [str_get a], SZ_le hz, kk g H _ .refl rh rt_int⟩
      · cases e
    · obtain ⟨ys, e1, e2⟩ := Option.map_eq_some_iff.mp e
      cases e2
      obtain ⟨u, q, rfl, a, rfl⟩ := rv
      obtain ⟨p, us, ep, sp, rp⟩ := lstOf_get rh a e1
      exact .inl ⟨p, us, by rw [ep], .inl sp, by rw [← rp.len]; exact kk g H _ .refl rh rt_int⟩
    · cases e
def intsOf : List VV → Option (List Int)
  | [] => some []
  | .int i :: xs => (intsOf xs).map fun l => i :: l
  | _ => none
def blsOf : List VV → Option (List Bool)
  | [] => some []
  | .bl i :: xs => (blsOf xs).map fun l => i :: l
  | _ => none
def strsOf : List VV → Option (List Str)
  | [] => some []
  | .str i :: xs => (strsOf xs).map fun l => i :: l
  | _ => none
theorem intsOf_rv {c : Ct} {z : Addr → Prop} {H : Hp} : ∀ {vs : List VV} {us : List V} {ns : List Int}, RVs c z H vs us → intsOf vs = some ns → us = ns.map V.int
  | [], us, ns, r, e => by cases e; rw [RVs] at r; exact r
  | x :: xs, us, ns, r, e => by
    rw [RVs] at r
    obtain ⟨u, q, rfl, a, b⟩ := r
    cases x with
    | int i =>
      rw [intsOf] at e
      obtain ⟨l, e1, rfl⟩ := Option.map_eq_some_iff.mp e
      rw [RV] at a
      rw [a, intsOf_rv b e1]; rfl
    | _ => simp [intsOf] at e
theorem blsOf_rv {c : Ct} {z : Addr → Prop} {H : Hp} : ∀ {vs : List VV} {us : List V} {ns : List Bool}, RVs c z H vs us → blsOf vs = some ns → us = ns.map V.bl
  | [], us, ns, r, e => by cases e; rw [RVs] at r; exact r
  | x :: xs, us, ns, r, e => by
    rw [RVs] at r
    obtain ⟨u, q, rfl, a, b⟩ := r
    cases x with
    | bl i =>
      rw [blsOf] at e
      obtain ⟨l, e1, rfl⟩ := Option.map_eq_some_iff.mp e
      rw [RV] at a
      rw [a, blsOf_rv b e1]; rfl
    | _ => simp [blsOf] at e
theorem strsOf_rv {c : Ct} {z : Addr → Prop} {H : Hp} : ∀ {vs : List VV} {us : List V} {ns : List Str}, RVs c z H vs us → strsOf vs = some ns → us = ns.map V.str
  | [], us, ns, r, e => by cases e; rw [RVs] at r; exact r
  | x :: xs, us, ns, r, e => by
    rw [RVs] at r
    obtain ⟨u, q, rfl, a, b⟩ := r
    cases x with
    | str i =>
      rw [strsOf] at e
      obtain ⟨l, e1, rfl⟩ := Option.map_eq_some_iff.mp e
      rw [RV] at a
      rw [a, strsOf_rv b e1]; rfl
    | _ => simp [strsOf] at e
def cSum : OpN := fun h vs => match vs with
  | [v] => (lstOf h v).bind fun xs => (intsOf xs).map fun ns => .int ns.sum
  | _ => none
def cAny : OpN := fun h vs => match vs with
  | [v] => (lstOf h v).bind fun xs => (blsOf xs).map fun ns => .bl (ns.any id)
  | _ => none
def cAll : OpN := fun h vs => match vs with
  | [v] => (lstOf h v).bind fun xs => (blsOf xs).map fun ns => .bl (ns.all id)
  | _ => none
theorem cr_sumJ (hc : X.calm = true) : CallR X (.builtin "sum") (RdN (ct X) cSum) :=
  CallR.imp (cr_sum hc) fun xs H Q ⟨g, h, vs, r, rh, rv, e, kk⟩ => by
    unfold cSum at e
    split at e
    · obtain ⟨ys, e1, e2⟩ := Option.bind_eq_some_iff.mp e
      obtain ⟨ns, e3, e4⟩ := Option.map_eq_some_iff.mp e2
      cases e4
      obtain ⟨u, q, rfl, a, rfl⟩ := rv
      obtain ⟨p, us, ep, sp, rp⟩ := lstOf_get rh a e1
      exact ⟨p, ns, by rw [ep], by rw [← intsOf_rv rp e3]; exact sp, kk g H _ .refl rh rt_int⟩
    · cases e
theorem cr_anyJ (hc : X.calm = true) : CallR X (.builtin "any") (RdN (ct X) cAny) :=
  CallR.imp (cr_any hc) fun xs H Q ⟨g, h, vs, r, rh, rv, e, kk⟩ => by
    unfold cAny at e
    split at e
    · obtain ⟨ys, e1, e2⟩ := Option.bind_eq_some_iff.mp e
      obtain ⟨ns, e3, e4⟩ := Option.map_eq_some_iff.mp e2
      cases e4
      obtain ⟨u, q, rfl, a, rfl⟩ := rv
      obtain ⟨p, us, ep, sp, rp⟩ := lstOf_get rh a e1
      exact ⟨p, ns, by rw [ep], by rw [← blsOf_rv rp e3]; exact sp, kk g H _ .refl rh rt_bl⟩
    · cases e
theorem cr_allJ (hc : X.calm = true) : CallR X (.builtin "all") (RdN (ct X) cAll) :=
  CallR.imp (cr_all hc) fun xs H Q ⟨g, h, vs, r, rh, rv, e, kk⟩ => by
    unfold cAll at e
    split at e
    · obtain ⟨ys, e1, e2⟩ := Option.bind_eq_some_iff.mp e
      obtain ⟨ns, e3, e4⟩ := Option.map_eq_some_iff.mp e2
      cases e4
      obtain ⟨u, q, rfl, a, rfl⟩ := rv
      obtain ⟨p, us, ep, sp, rp⟩ := lstOf_get rh a e1
      exact ⟨p, ns, by rw [ep], by rw [← blsOf_rv rp e3]; exact sp, kk g H _ .refl rh rt_bl⟩
    · cases e
def cAbs : OpN := fun _ vs => match vs with
  | [.int i] => some (.int (if i < 0 then -i else i))
  | _ => none
theorem cr_absJ : CallR X (.builtin "abs") (RdN (ct X) cAbs) :=
  CallR.imp call_abs fun xs H Q ⟨g, h, vs, r, rh, rv, e, kk⟩ => by
    unfold cAbs at e
    split at e
    · cases e
      obtain ⟨u, q, rfl, a, rfl⟩ := rv
      exact ⟨_, by rw [int_get a], kk g H _ .refl rh rt_int⟩
    · cases e
/-- list(..), tuple(..): data -/
def cList : OpN := fun h vs => match vs with
  | [.tup xs] => some (.lst xs)
  | [v] => (lstOf h v).map fun xs => .lst xs
  | _ => none
theorem cr_listJ : CallR X (.type "list") (RdN (ct X) cList) :=
  CallR.imp call_list_of fun xs H Q ⟨g, h, vs, r, rh, rv, e, kk⟩ => by
    unfold cList at e
    split at e
    · cases e
      obtain ⟨u, q, rfl, a, rfl⟩ := rv
      obtain ⟨p, us, ep, sp, rp⟩ := tup_get a
      refine ⟨p, us, by rw [ep], .inr sp.sq, fun l hl => ?_⟩
      obtain ⟨s1, s2, s3⟩ := new_lst rh hl rp
      exact kk _ _ _ s1 s2 s3
    · obtain ⟨ys, e1, e2⟩ := Option.map_eq_some_iff.mp e
      cases e2
      obtain ⟨u, q, rfl, a, rfl⟩ := rv
      obtain ⟨p, us, ep, sp, rp⟩ := lstOf_get rh a e1
      refine ⟨p, us, by rw [ep], .inl sp, fun l hl => ?_⟩
      obtain ⟨s1, s2, s3⟩ := new_lst rh hl rp
      exact kk _ _ _ s1 s2 s3
    · cases e
def cTuple : OpN := fun h vs => match vs with
  | [.tup xs] => some (.tup xs)
  | [v] => (lstOf h v).map fun xs => .tup xs
  | _ => none
theorem cr_tupleJ : CallR X (.type "tuple") (RdN (ct X) cTuple) :=
  CallR.imp call_tuple_of fun xs H Q ⟨g, h, vs, r, rh, rv, e, kk⟩ => by
    unfold cTuple at e
    split at e
    · cases e
      obtain ⟨u, q, rfl, a, rfl⟩ := rv
      obtain ⟨p, us, ep, sp, rp⟩ := tup_get a
      exact ⟨p, us, by rw [ep], .inr ⟨sp.sq, by rw [← ep]; exact kk g H u .refl rh a⟩⟩
    · obtain ⟨ys, e1, e2⟩ := Option.map_eq_some_iff.mp e
      cases e2
      obtain ⟨u, q, rfl, a, rfl⟩ := rv
      obtain ⟨p, us, ep, sp, rp⟩ := lstOf_get rh a e1
      refine ⟨p, us, by rw [ep], .inl ⟨sp, fun l hl => ?_⟩⟩
      obtain ⟨s1, s2, s3⟩ := pair_new rh hl rp
      exact kk _ _ _ s1 s2 s3
    · cases e
/-- isinstance(x, T), T a built-in type, x data -/
def tyN (h : VH) : VV → Option String
  | .non => some "NoneType"
  | .bl _ => some "bool"
  | .int _ => some "int"
  | .str _ => some "str"
  | .tup _ => some "tuple"
  | .lst _ => some "list"
  | .obj n => match h[n]? with
    | some (.fl _) => some "list"
    | some (.fzn (.lst _)) => some "list"
    | _ => none
  | _ => none
theorem tyX_of {c : Ct} {g : Gh} {h : VH} {H : Hp} {v : VV} {u : V} {n : String} (rh : RH c g h H) (rv : RT c g H v u) (e : tyN h v = some n) : TyX c.K H u (.type n) := by
  cases v with
  | non => cases e; rw [non_get rv]; exact .base .non
  | bl b => cases e; rw [bl_get rv]; exact .base (.bl b)
  | int b => cases e; rw [int_get rv]; exact .base (.int b)
  | str b => cases e; rw [str_get rv]; exact .base (.str b)
  | tup xs =>
    cases e
    obtain ⟨p, us, ep, sp, rp⟩ := tup_get rv
    rw [ep]
    rcases sp with sp | ⟨o, its, m, q1, q2, _⟩
    · exact .base (.tup sp.2)
    · exact .kTuple q1 q2
  | lst xs =>
    cases e
    obtain ⟨p, us, ep, sp, rp⟩ := lstOf'_get (xs := xs) rh rv rfl
    rw [ep]
    exact .base (.lst sp)
  | obj m =>
    unfold tyN at e
    simp only at e
    split at e
    · rename_i xs en
      cases e
      obtain ⟨p, us, ep, sp, rp⟩ := lstOf'_get (xs := xs) rh rv (by unfold lstOf'; simp only [en])
      rw [ep]
      exact .base (.lst sp)
    · rename_i xs en
      cases e
      obtain ⟨p, us, ep, sp, rp⟩ := lstOf'_get (xs := xs) rh rv (by unfold lstOf'; simp only [en])
      rw [ep]
      exact .base (.lst sp)
    · cases e
  | _ => cases e
def cIsi : OpN := fun h vs => match vs with
  | [v, .ty b] => (tyN h v).bind fun a => (kitB a b).map .bl
  | _ => none
theorem cr_isi : CallR X (.builtin "isinstance") (RdN (ct X) cIsi) :=
  CallR.imp call_isi fun xs H Q ⟨g, h, vs, r, rh, rv, e, kk⟩ => by
    unfold cIsi at e
    split at e
    · obtain ⟨n, e1, e2⟩ := Option.bind_eq_some_iff.mp e
      obtain ⟨b, e3, e4⟩ := Option.map_eq_some_iff.mp e2
      cases e4
      obtain ⟨u, q, rfl, a, u2, q2, rfl, a2, rfl⟩ := rv
      exact ⟨u, u2, _, _, b, rfl, by rw [ty_get a2]; exact .ty _, tyX_of rh a e1, kit_ty e3, kk g H _ .refl rh rt_bl⟩
    · cases e
end
end J

namespace J
open PySem L2

theorem fn_no {P : Program} {w : World} {K : PySem.W.Frag} {mg : Str → Option Value} {base : Heap} {CX : CXT} {k n : Nat} {f : Addr} {fd : FuncData} {ps : List Str} {c : Ct} (hn : ps.length = n) : FnOk P w K mg base CX k f fd ps (spF c n (fun _ _ => .no)) :=
  ⟨fun vs H Q E h => by obtain ⟨_, _, _, _, _, _, p⟩ := h; exact p.elim, fun A outer s H args us vs Q E hr e0 hb r hsp => by obtain ⟨_, _, _, _, _, _, p⟩ := hsp; exact p.elim⟩

/-- a law's end: its own function gives True at every script -/
theorem law_sp {K : PySem.W.Frag} {mg : Str → Option Value} {F : FF} {H : Hp} {a : Addr} {ns : List Int} (hS : SqL K H a (ns.map V.int)) (hF : ∃ h', F [.scr (ns.map VV.int)] [] = .ok (.bl true) h') :
    spF ⟨K, mg⟩ 1 F [.ref a] H (fun v _ => v = .bl true) fun _ _ _ => False := by
  obtain ⟨h', e⟩ := hF
  have rvs : ∀ (z : Addr → Prop) (l : List Int), RVs ⟨K, mg⟩ z H (l.map VV.int) (l.map V.int) := by
    intro z l
    induction l with
    | nil => exact RVs.nil
    | cons x xs ih => exact RVs.cons (rv_int _ _ _ _) ih
  have fin : ∀ g : Gh, RH ⟨K, mg⟩ g [] H → RT ⟨K, mg⟩ g H (.scr (ns.map VV.int)) (.ref a) → spF ⟨K, mg⟩ 1 F [.ref a] H (fun v _ => v = .bl true) fun _ _ _ => False := by
    intro g rh rt
    refine ⟨g, [.scr (ns.map VV.int)], [], rh, ⟨.ref a, [], rfl, rt, rfl⟩, rfl, ?_⟩
    rw [e]
    exact fun g' H' u st rh' rv => bl_get rv
  rcases hS with hS | hS
  · refine fin ⟨[], fun q => q = a, fun _ => False⟩ ⟨rfl, List.nodup_nil, fun n o a h => by simp at h, fun q z => ?_, fun q z => z.elim, fun q z => z.elim⟩ ?_
    · have z' : q = a := z
      subst z'
      rcases hS with hS | ⟨o, hS⟩
      · exact ⟨_, hS⟩
      · exact ⟨_, hS⟩
    · show RV _ _ _ _ _
      rw [RV]
      exact ⟨a, _, rfl, .inl ⟨rfl, hS⟩, rvs _ _⟩
  · refine fin ⟨[], fun _ => False, fun _ => False⟩ ⟨rfl, List.nodup_nil, fun n o a h => by simp at h, fun q z => z.elim, fun q z => z.elim, fun q z => z.elim⟩ ?_
    show RV _ _ _ _ _
    rw [RV]
    exact ⟨a, _, rfl, .inr hS, rvs _ _⟩
theorem cx_no {P : Program} {w : World} {l : List Env} {H : Hp} {s : Shared} {e : Value} {s' : Shared} (h : L2.CX P w l H s (fun _ _ _ => False) e s') : False := by
  obtain ⟨_, _, _, _, _, _, _, _, _, _, _, _, z⟩ := h
  exact z.elim
theorem walk_J {l : PySem.W.OpenLaw} {n k : Nat} {q : Program} {loose : List Str} {XP : (Str → Option Value) → Heap → Prop} {YP : World → Heap → Prop} {d : DefRec} {K : Params → PySem.W.Frag} {x : Str} {Fm : FF}
    (hn : l.most = some n) (hn2 : n ≤ sizeLine) (hdf : d.params.defaults = []) (hr : Room k PySem.callerA)
    (hY : ∀ (w : World) (h : Heap), YP w h → (K w.params).In h)
    (F : ∀ (w : World) (mg : Str → Option Value) (fa : Addr) (h : Heap), (K w.params).In h → h.Ns mainGlobals mg → mg d.name = some (.ref fa) →
      ∃ fd : FuncData, (∀ (s : Shared) (u : Value), BindsTo s fd ⟨[u], []⟩ [(x, u)]) ∧
        ∀ base : Heap, (K w.params).In base → base.Ns mainGlobals mg → FnOk l.prog w (K w.params) mg base (L2.CX l.prog w) k fa fd [x] (spF ⟨K w.params, mg⟩ 1 Fm))
    (hF : ∀ ns : List Int, ns.length ≤ n → (∀ z ∈ ns, Builtin.Int.intBits z ≤ 1048576) → ∃ h', Fm [.scr (ns.map VV.int)] [] = .ok (.bl true) h') :
    PySem.W.WalkO q loose XP YP l.row.toRowW d [] (fun f vs => PySem.call f vs) := by
  refine Att.attach_callB hn hdf fun w s₀ s₁ mg mb fa o pm cd doc a vs ns G Y ho hd hcd hmg hobj hints hlen hbits hg => ?_
  have KX := hY w _ Y
  obtain ⟨fd, hb, hF'⟩ := F w mg fa _ KX G.T.g hmg
  exact law_call KX G.T.g G.T.b G.T.builtins G.T.nolimit hg hobj hints (Nat.le_trans hlen hn2) hr hF' hb (fun H hO hS => law_sp hS (hF ns hlen hbits)) fun H e s' => cx_no
section
variable {X : Cx} {W : WX}
theorem j_globI {x : Str} {i : Int} {pos : Pos} (hg : Gl X x) (h : ∃ t, X.mg x = some (.int i t)) (hd : (x == ("__debug__" : Str)) = false := by decide) : PE X (.Name x pos) (tE (ct X) W (eC (.int i))) := by
  obtain ⟨t, h⟩ := h
  exact j_c (pe_glob (v := .int i) hg h ⟨t, rfl⟩ hd) fun _ _ => rt_int
theorem j_globS {x : Str} {i : Str} {pos : Pos} (hg : Gl X x) (h : ∃ t, X.mg x = some (.str i t)) (hd : (x == ("__debug__" : Str)) = false := by decide) : PE X (.Name x pos) (tE (ct X) W (eC (.str i))) := by
  obtain ⟨t, h⟩ := h
  exact j_c (pe_glob (v := .str i) hg h ⟨t, rfl⟩ hd) fun _ _ => rt_str
theorem j_ty {x : Str} {n : String} {pos : Pos} (hg : Gl X x) (hm : X.mg x = none) (hv : bootBuiltins x = some (.type n)) (hn : x ≠ "__name__" := by decide) (hd : (x == ("__debug__" : Str)) = false := by decide) : PE X (.Name x pos) (tE (ct X) W (eC (.ty n))) :=
  j_c (pe_bltn (v := .ty n) hg hm hv rfl hn hd) fun _ _ => rt_ty
theorem jt_chain {o o' : Op2} {op op' : CmpOp} {a b c : Expr} {fa fb fc : EF} {pos : Pos} (ho : OpR X (compareOp op) (Rd2 (ct X) o)) (ho' : OpR X (compareOp op') (Rd2 (ct X) o')) (ha : PE X a (tE (ct X) W fa)) (hb : PE X b (tE (ct X) W fb)) (hc : PE X c (tE (ct X) W fc))
    (hm : lastMarks [op, op'] [b, c] = false := by with_unfolding_all rfl) : PT X (.Compare a [op, op'] [b, c] pos) (tT (ct X) W (tVal (eChain o o' fa fb fc))) :=
  PT.mono (pt_chain ho ho' ha hb hc hm) fun σ H Q h => by
    have := tChain_of (tVal_of h)
    exact this
end

open PyProof.Rows (envOfC)
/-- a def of the text -/
structure Dn (K : PySem.W.Frag) (mg : Str → Option Value) (x : Str) (st : Stmt) (dvs : List V) (kws : List (Str × V)) (f : Addr) (fd : FuncData) : Prop where
  F : FunD K x x (defArgs st) (defBody st) (defScope st) dvs kws f fd
  m : mg x = some (.ref f)
/-- a def that may be called with the last arguments left out (dws in their place) -/
structure Ok1 (P : Program) (w : World) (K : PySem.W.Frag) (mg : Str → Option Value) (base : Heap) (k : Nat) (x : Str) (n : Nat) (dws : List VV) (Fm : FF) : Prop where
  ex : ∃ (f : Addr) (fd : FuncData) (ps : List Str) (dvs : List V) (ds : List Value), mg x = some (.ref f) ∧ PySem.W.keepIn K (.ref f) = true ∧ FnOk P w K mg base (L2.CX P w) k f fd ps (spF ⟨K, mg⟩ n Fm) ∧ Binds K fd ps ds ∧ Vals dvs ds ∧ ∀ g H, RTs ⟨K, mg⟩ g H dws dvs
section
variable {X : Cx} {W : WX}
theorem j_callO {k n : Nat} {Fm : FF} {dws : List VV} {x : Str} {p pos : Pos} {e : Expr} {es : List Expr} {fa : AF} (O : Ok1 X.prog X.w X.K X.mg X.base k x n dws Fm) (hr : Room k X.A) (hg : Gl X x) (tk : Takes X W)
    (ha : PA X (e :: es) (tA (ct X) W fa)) (hdb : (x == ("__debug__" : Str)) = false := by decide) (he : starEach (e :: es) X.env = (false, eval e X.env) :: starEach es X.env := by rfl) (hpl : (backTo pos (starEach es X.env)).any (·.1) = false := by rfl) :
    PE X (.Call (.Name x p) (e :: es) [] pos) (tE (ct X) W (eFn n Fm dws fa)) := by
  obtain ⟨f, fd, ps, dvs, ds, h1, h2, h3, h4, h5, h6⟩ := O.ex
  exact j_call h3 hr hg h1 h2 h4 h5 h6 tk ha hdb he hpl
end
section
variable {P : Program} {w : World} {K : PySem.W.Frag} {mg : Str → Option Value} {base : Heap}
theorem fnok_of {x : Str} {st : Stmt} {dvs : List V} {kws : List (Str × V)} {f : Addr} {fd : FuncData} {N ps : List Str} {k n m : Nat} {B : SF} (D : Dn K mg x st dvs kws f fd) (S : FnScope N ps (defScope st)) (hn : n = N.length) (hp : ps.length ≤ n) (hm : m = ps.length)
    (hbody : ∀ (cdv : Value) (A : Around) (outer : List Env) (s : Shared) (H : Hp) (E : XK), Room k (A.deeper (envOfC x (defScope st) s.heap.objs.size f cdv)) →
      PSs (cxOf (L2.CX P w) P w K mg base N x (defScope st) f cdv A outer s H E) (defBody st) (tS ⟨K, mg⟩ (fun a d _ H' => E a d H') B)) :
    FnOk P w K mg base (L2.CX P w) (k + 1) f fd ps (spF ⟨K, mg⟩ m (fnF n B)) := by
  subst hm
  exact fn_ok D.F S hn hp hbody
/-- every parameter is given -/
theorem ok_of {x : Str} {st : Stmt} {f : Addr} {fd : FuncData} {ps : List Str} {k m : Nat} {Fm : FF} (D : Dn K mg x st [] [] f fd) (hF : FnOk P w K mg base (L2.CX P w) k f fd ps (spF ⟨K, mg⟩ m Fm))
    (hb : ∀ (kV doc pm : Value) (an : Option Addr) (cdv ct : Value) (us : List Value), us.length = ps.length → bindArgs (PySem.W.fnOf x x (defArgs st) (defBody st) (defScope st) .none kV doc pm an cdv ct) ⟨us, []⟩ = pure (ps.zip us)) :
    Ok1 P w K mg base k x m [] Fm := by
  refine ⟨f, fd, ps, [], [], D.m, D.F.kp, hF, ?_, .nil, fun _ _ => rfl⟩
  obtain ⟨oc, od, dV, kV, doc, pm, an, cdv, ct, osl, e, lk, hcd, hD, _⟩ := D.F.ex
  subst e
  rcases hD with ⟨_, rfl⟩ | ⟨h, _⟩
  · exact .all (hb kV doc pm an cdv ct)
  · exact absurd rfl h
/-- some defaults fill up -/
theorem okD_of {x : Str} {st : Stmt} {dvs : List V} {f : Addr} {fd : FuncData} {ps : List Str} {k m : Nat} {Fm : FF} {dws : List VV} (D : Dn K mg x st dvs [] f fd) (hF : FnOk P w K mg base (L2.CX P w) k f fd ps (spF ⟨K, mg⟩ m Fm)) (n j : Nat) (hd : dvs ≠ []) (hn : n + (dvs.length - j) = ps.length)
    (h : ∀ (T : Addr) (kV doc pm : Value) (an : Option Addr) (cdv ct : Value) (us its : List Value), us.length = n → its.length = dvs.length →
      ∃ k, bindArgs (PySem.W.fnOf x x (defArgs st) (defBody st) (defScope st) (.ref T) kV doc pm an cdv ct) ⟨us, []⟩ = seqItems? (.ref T) >>= k ∧ k (some its.toArray) = pure (ps.zip (us ++ its.drop j)))
    (hr : ∀ g H, RTs ⟨K, mg⟩ g H dws (dvs.drop j)) : Ok1 P w K mg base k x m dws Fm := by
  obtain ⟨ds, h1, h2⟩ := D.F.binds1 n j hd hn h
  exact ⟨f, fd, ps, dvs.drop j, ds, D.m, D.F.kp, hF, h2, h1, hr⟩
end
/-- a def's facts from the written part -/
theorem dn_mk {K : PySem.W.Frag} {mg : Str → Option Value} {x : Str} {st : Stmt} {f : Addr} {oc : Value} {od an : Option Addr} {osl : Array (Option Value)} {kV doc pm cdv ct : Value} (m : mg x = some (.ref f))
    (l : K.lookup f = some ⟨oc, od, .func (PySem.W.fnOf x x (defArgs st) (defBody st) (defScope st) .none kV doc pm an cdv ct), osl⟩) (c : PySem.W.codeIn K cdv x = true) (k : PySem.W.keepIn K (.ref f) = true) :
    Dn K mg x st [] [] f (PySem.W.fnOf x x (defArgs st) (defBody st) (defScope st) .none kV doc pm an cdv ct) :=
  ⟨⟨⟨oc, od, .none, kV, doc, pm, an, cdv, ct, osl, rfl, l, c, .inl ⟨rfl, rfl⟩, .inl rfl⟩, k⟩, m⟩
theorem dn_mkD {K : PySem.W.Frag} {mg : Str → Option Value} {x : Str} {st : Stmt} {dvs : List V} {f T : Addr} {o : Obj} {its : List Value} {n : Nat} {oc : Value} {od an : Option Addr} {osl : Array (Option Value)} {kV doc pm cdv ct : Value} (m : mg x = some (.ref f))
    (l : K.lookup f = some ⟨oc, od, .func (PySem.W.fnOf x x (defArgs st) (defBody st) (defScope st) (.ref T) kV doc pm an cdv ct), osl⟩) (c : PySem.W.codeIn K cdv x = true) (k : PySem.W.keepIn K (.ref f) = true)
    (hd : dvs ≠ []) (lT : K.lookup T = some o) (dT : o.data = .seq its.toArray n) (rv : Vals dvs its) :
    Dn K mg x st dvs [] f (PySem.W.fnOf x x (defArgs st) (defBody st) (defScope st) (.ref T) kV doc pm an cdv ct) :=
  ⟨⟨⟨oc, od, .ref T, kV, doc, pm, an, cdv, ct, osl, rfl, l, c, .inr ⟨hd, T, o, its, n, rfl, lT, dT, rv⟩, .inl rfl⟩, k⟩, m⟩
end J

namespace J
open PySem L2
/-! evaluation -/
/-- a mark by which simp leaves a continuation alone -/
def Tg {γ : Type} (_ : γ) : Type := Unit
def tg {γ : Type} (k : γ) : Tg k := ()
section
variable {α β : Type}
def bnd (r : Res α) (k : α → VH → Res β) (_ : Tg k) : Res β := r.bind k
def sbd (r : Res α) (ρ : VSt) (k : α → VH → SR) (_ : Tg k) : SR := r.st ρ k
theorem bind_ok {a : α} {h : VH} {k : α → VH → Res β} : (Res.ok a h).bind k = k a h := rfl
theorem bnd_ok {a : α} {h : VH} {k : α → VH → Res β} {u : Tg k} : bnd (Res.ok a h) k u = k a h := rfl
theorem bnd_no {k : α → VH → Res β} {u : Tg k} : bnd (Res.no : Res α) k u = .no := rfl
theorem bnd_exc {x ns vs h} {k : α → VH → Res β} {u : Tg k} : bnd (Res.exc x ns vs h : Res α) k u = .exc x ns vs h := rfl
theorem st_ok {a : α} {h : VH} {ρ : VSt} {k : α → VH → SR} : (Res.ok a h).st ρ k = k a h := rfl
theorem sbd_ok {a : α} {h : VH} {ρ : VSt} {k : α → VH → SR} {u : Tg k} : sbd (Res.ok a h) ρ k u = k a h := rfl
theorem sbd_no {ρ : VSt} {k : α → VH → SR} {u : Tg k} : sbd (Res.no : Res α) ρ k u = .no := rfl
theorem sbd_exc {x ns vs h} {ρ : VSt} {k : α → VH → SR} {u : Tg k} : sbd (Res.exc x ns vs h : Res α) ρ k u = .exc x ns vs ρ h := rfl
end
def getV (o : Option (Option VV)) (h : VH) : Res VV := match o with
  | some (some v) => .ok v h
  | _ => .no
theorem getV_some {v : VV} {h : VH} : getV (some (some v)) h = .ok v h := rfl
section
variable {ρ : VSt} {h : VH}
theorem a_var {i : Nat} : eVar i ρ h = getV (ρ[i]?) h := rfl
theorem a_c {v : VV} : eC v ρ h = .ok v h := rfl
theorem a_bin {op a b} : eBin op a b ρ h = bnd (a ρ h) (fun v h1 => bnd (b ρ h1) (fun w h2 => lift (op h2 v w) h2) (tg _)) (tg _) := rfl
theorem a_un {op a} : eUn op a ρ h = bnd (a ρ h) (fun v h1 => lift (op h1 v) h1) (tg _) := rfl
theorem a_call {op a} : eCall op a ρ h = bnd (a ρ h) (fun v h1 => lift (op h1 v) h1) (tg _) := rfl
theorem a_nil : aNil ρ h = .ok [] h := rfl
theorem a_cons {a b} : aCons a b ρ h = bnd (a ρ h) (fun v h1 => bnd (b ρ h1) (fun w h2 => .ok (v :: w) h2) (tg _)) (tg _) := rfl
theorem a_tup {a} : eTup a ρ h = bnd (a ρ h) (fun vs h1 => if vs.any VV.isObj = true ∨ vs.length > SZ then .no else .ok (.tup vs) h1) (tg _) := rfl
theorem a_lst {a} : eLst a ρ h = bnd (a ρ h) (fun vs h1 => if vs.any VV.isObj = true ∨ vs.length > SZ then .no else .ok (.lst vs) h1) (tg _) := rfl
theorem a_lstO {a} : eLstO a ρ h = bnd (a ρ h) (fun vs h1 => if vs.any VV.isObj = true ∨ vs.length > SZ then .no else .ok (.obj h1.length) (h1 ++ [.fl vs])) (tg _) := rfl
def toB (v : VV) (h : VH) : Res Bool := match v with
  | .bl b => .ok b h
  | _ => .no
theorem toB_bl {b : Bool} : toB (.bl b) h = .ok b h := rfl
theorem a_val {a} : tVal a ρ h = bnd (a ρ h) toB (tg _) := rfl
theorem a_tand {a b} : tAnd a b ρ h = bnd (a ρ h) (fun v h1 => if v = true then b ρ h1 else .ok false h1) (tg _) := rfl
theorem a_tor {a b} : tOr a b ρ h = bnd (a ρ h) (fun v h1 => if v = true then .ok true h1 else b ρ h1) (tg _) := rfl
theorem a_tnot {a} : tNot a ρ h = bnd (a ρ h) (fun v h1 => .ok (!v) h1) (tg _) := rfl
theorem a_if {c a b} : eIf c a b ρ h = bnd (c ρ h) (fun v h1 => if v = true then a ρ h1 else b ρ h1) (tg _) := rfl
theorem a_and {a b} : eAnd a b ρ h = bnd (bnd (a ρ h) toB (tg _)) (fun v h1 => if v = true then b ρ h1 else .ok (.bl false) h1) (tg _) := by
  unfold eAnd
  cases a ρ h with
  | no => rfl
  | exc => rfl
  | ok v h1 =>
    simp only [bind_ok]
    cases v with
    | bl b => cases b <;> rfl
    | _ => rfl
theorem a_or {a b} : eOr a b ρ h = bnd (bnd (a ρ h) toB (tg _)) (fun v h1 => if v = true then .ok (.bl true) h1 else b ρ h1) (tg _) := by
  unfold eOr
  cases a ρ h with
  | no => rfl
  | exc => rfl
  | ok v h1 =>
    simp only [bind_ok]
    cases v with
    | bl b => cases b <;> rfl
    | _ => rfl
theorem a_not {a} : eNot a ρ h = bnd (bnd (a ρ h) toB (tg _)) (fun v h1 => .ok (.bl (!v)) h1) (tg _) := by
  unfold eNot
  cases a ρ h with
  | no => rfl
  | exc => rfl
  | ok v h1 =>
    simp only [bind_ok]
    cases v <;> rfl
theorem a_chain {o o' a b c} : eChain o o' a b c ρ h = bnd (a ρ h) (fun v h1 => bnd (b ρ h1) (fun w h2 => bnd (bnd (lift (o h2 v w) h2) toB (tg _)) (fun k h3 => if k = true then bnd (c ρ h3) (fun z h4 => lift (o' h4 w z) h4) (tg _) else .ok (.bl false) h3) (tg _)) (tg _)) (tg _) := by
  unfold eChain
  congr 1; funext v h1; congr 1; funext w h2
  cases lift (o h2 v w) h2 with
  | no => rfl
  | exc => rfl
  | ok v h1 =>
    simp only [bind_ok]
    cases v with
    | bl b => cases b <;> rfl
    | _ => rfl
theorem a_fn {n F dws a} : eFn n F dws a ρ h = bnd (a ρ h) (fun vs h1 => if (vs ++ dws).length = n then F (vs ++ dws) h1 else .no) (tg _) := rfl
theorem a_lc {own it b t e} : eLc own it b t e ρ h = (it ρ h).bind fun xs h1 => if xs.length > SZ then .no else match lcGo b t e (wp ρ own) xs h1 with
  | .ok vs h2 => .ok (.lst vs) h2
  | _ => .no := rfl
def afterL (r : Res (List VV)) : Res VV := match r with
  | .ok vs h2 => .ok (.lst vs) h2
  | _ => .no
theorem afterL_ok {vs : List VV} : afterL (.ok vs h) = .ok (.lst vs) h := rfl
theorem a_lc' {own it b t e} : eLc own it b t e ρ h = bnd (it ρ h) (fun xs h1 => if xs.length > SZ then .no else afterL (lcGo b t e (wp ρ own) xs h1)) (tg _) := rfl
def seqItems (v : VV) (h : VH) : Res (List VV) := match v with
  | .lst xs => .ok xs h
  | .scr xs => .ok xs h
  | .tup xs => .ok xs h
  | .str s => .ok (signs s) h
  | _ => .no
theorem seqI_lst {xs} : seqItems (.lst xs) h = .ok xs h := rfl
theorem seqI_scr {xs} : seqItems (.scr xs) h = .ok xs h := rfl
theorem seqI_tup {xs} : seqItems (.tup xs) h = .ok xs h := rfl
theorem seqI_str {s} : seqItems (.str s) h = .ok (signs s) h := rfl
theorem a_seq {f} : iSeq f ρ h = bnd (f ρ h) seqItems (tg _) := rfl
def rng1 (v : VV) (h : VH) : Res (List VV) := match v with
  | .int n => if -(2 ^ 62) ≤ n ∧ n < 2 ^ 62 then .ok (rngV 0 n.toNat) h else .no
  | _ => .no
theorem rng1_int {n : Int} : rng1 (.int n) h = if -(2 ^ 62) ≤ n ∧ n < 2 ^ 62 then .ok (rngV 0 n.toNat) h else .no := rfl
theorem a_range1 {f} : iRange1 f ρ h = bnd (f ρ h) rng1 (tg _) := rfl
def zipI (v : List VV) (h : VH) : Res (List VV) := match v with
  | [.lst xs, .lst ys] => .ok (prs xs ys) h
  | [.tup xs, .tup ys] => .ok (prs xs ys) h
  | _ => .no
theorem zip_lst {xs ys} : zipI [.lst xs, .lst ys] h = .ok (prs xs ys) h := rfl
theorem zip_tup {xs ys} : zipI [.tup xs, .tup ys] h = .ok (prs xs ys) h := rfl
theorem a_zip {f} : iZip f ρ h = bnd (f ρ h) zipI (tg _) := rfl
theorem a_sl {op a lo hi} : eSl op a lo hi ρ h = bnd (a ρ h) (fun v h1 => bnd (lo ρ h1) (fun l h2 => bnd (hi ρ h2) (fun u h3 => lift (op h3 v l u) h3) (tg _)) (tg _)) (tg _) := rfl
theorem a_onone : oNone ρ h = .ok none h := rfl
def toO (v : VV) (h : VH) : Res (Option Int) := match v with
  | .int i => .ok (some i) h
  | _ => .no
theorem toO_int {i : Int} : toO (.int i) h = .ok (some i) h := rfl
theorem a_osome {a} : oSome a ρ h = bnd (a ρ h) toO (tg _) := rfl
theorem lift_some {v : VV} : lift (some v) h = .ok v h := rfl
theorem lift_none : lift none h = .no := rfl
/-! statements -/
def SR.thn (r : SR) (b : SF) (_ : Tg b) : SR := match r with
  | .nx ρ' h' => b ρ' h'
  | r => r
theorem thn_nx {b : SF} {u : Tg b} : (SR.nx ρ h).thn b u = b ρ h := rfl
theorem thn_ret {v} {b : SF} {u : Tg b} : (SR.ret v h).thn b u = .ret v h := rfl
theorem thn_no {b : SF} {u : Tg b} : (SR.no).thn b u = .no := rfl
theorem thn_brk {b : SF} {u : Tg b} : (SR.brk ρ h).thn b u = .brk ρ h := rfl
theorem thn_cnt {b : SF} {u : Tg b} : (SR.cnt ρ h).thn b u = .cnt ρ h := rfl
theorem thn_exc {x ns vs} {b : SF} {u : Tg b} : (SR.exc x ns vs ρ h).thn b u = .exc x ns vs ρ h := rfl
theorem s_skip : sSkip ρ h = .nx ρ h := rfl
theorem s_seq {a b} : sSeq a b ρ h = (a ρ h).thn b (tg _) := rfl
theorem s_set {i e} : sSet i e ρ h = sbd (e ρ h) ρ (fun v h1 => .nx (ρ.set i (some v)) h1) (tg _) := rfl
def onx (o : Option VSt) (h : VH) : SR := match o with
  | some ρ' => .nx ρ' h
  | none => .no
theorem onx_some {ρ' : VSt} : onx (some ρ') h = .nx ρ' h := rfl
theorem s_asg {e b} : sAsg e b ρ h = sbd (e ρ h) ρ (fun v h1 => onx (b v ρ) h1) (tg _) := rfl
theorem s_if {c a b} : sIf c a b ρ h = sbd (c ρ h) ρ (fun k h1 => if k = true then a ρ h1 else b ρ h1) (tg _) := rfl
theorem s_ret {e} : sRet e ρ h = sbd (e ρ h) ρ (fun v h1 => .ret v h1) (tg _) := rfl
theorem s_expr {e} : sExpr e ρ h = sbd (e ρ h) ρ (fun v h1 => .nx ρ h1) (tg _) := rfl
theorem s_for {it b body} : sFor it b body ρ h = sbd (it ρ h) ρ (fun xs h1 => forGo b body xs ρ h1) (tg _) := rfl
theorem for_nil {b body} : forGo b body [] ρ h = .nx ρ h := by rw [forGo]
def SR.trn (r : SR) (k : VSt → VH → SR) (_ : Tg k) : SR := match r with
  | .nx ρ2 h2 => k ρ2 h2
  | .cnt ρ2 h2 => k ρ2 h2
  | .brk ρ2 h2 => .nx ρ2 h2
  | r => r
theorem trn_nx {k} {u : Tg k} : (SR.nx ρ h).trn k u = k ρ h := rfl
theorem trn_cnt {k} {u : Tg k} : (SR.cnt ρ h).trn k u = k ρ h := rfl
theorem trn_brk {k} {u : Tg k} : (SR.brk ρ h).trn k u = .nx ρ h := rfl
theorem trn_ret {v k} {u : Tg k} : (SR.ret v h).trn k u = .ret v h := rfl
theorem trn_no {k} {u : Tg k} : (SR.no).trn k u = .no := rfl
def obd (o : Option VSt) (k : VSt → SR) (_ : Tg k) : SR := match o with
  | none => .no
  | some ρ' => k ρ'
theorem obd_some {ρ' : VSt} {k} {u : Tg k} : obd (some ρ') k u = k ρ' := rfl
theorem for_cons {b body x xs} : forGo b body (x :: xs) ρ h = obd (b x ρ) (fun ρ' => (body ρ' h).trn (fun ρ2 h2 => forGo b body xs ρ2 h2) (tg _)) (tg _) := by
  rw [forGo]
  cases b x ρ with
  | none => rfl
  | some ρ' => simp only [obd]; cases body ρ' h <;> rfl
theorem wh_succ {c body n} : whGo c body (n + 1) ρ h = sbd (c ρ h) ρ (fun k h1 => if k = true then (body ρ h1).trn (fun ρ2 h2 => whGo c body n ρ2 h2) (tg _) else .nx ρ h1) (tg _) := by
  rw [whGo]
  congr 1
theorem bNm_ap {i v} : bNm i v ρ = some (ρ.set i (some v)) := rfl
theorem bTup_ap {n r xs} : bTup n r (.tup xs) ρ = if xs.length = n then r xs ρ else none := rfl
theorem bCons_ap {a r v vs} : bCons a r (v :: vs) ρ = (a v ρ).bind fun ρ' => r vs ρ' := rfl
theorem bNil_ap : bNil [] ρ = some ρ := rfl
theorem s_par {i j a} : sPar i j a ρ h = sbd (a ρ h) ρ (fun vs h1 => match vs with
  | [v, w] => .nx ((ρ.set i (some v)).set j (some w)) h1
  | _ => .no) (tg _) := rfl
theorem s_par3 {i j l a} : sPar3 i j l a ρ h = sbd (a ρ h) ρ (fun vs h1 => match vs with
  | [u, v, w] => .nx (((ρ.set i (some u)).set j (some v)).set l (some w)) h1
  | _ => .no) (tg _) := rfl
def onh (o : Option VH) (ρ : VSt) : SR := match o with
  | some h4 => .nx ρ h4
  | none => .no
theorem onh_some {h' : VH} : onh (some h') ρ = .nx ρ h' := rfl
theorem s_setI {o i e} : sSetI o i e ρ h = sbd (e ρ h) ρ (fun v h1 => sbd (o ρ h1) ρ (fun ov h2 => sbd (i ρ h2) ρ (fun iv h3 => onh (setI h3 ov iv v) ρ) (tg _)) (tg _)) (tg _) := rfl
def SR.fin (r : SR) (n : Nat) : Res VV := match r with
  | .nx _ h' => .ok .non (trim n .non h')
  | .ret v h' => .ok v (trim n v h')
  | .exc x ns vs _ h' => .exc x ns vs h'
  | _ => .no
theorem fn_ap {k B vs} : fnF k B vs h = (B (vs.map some ++ List.replicate (k - vs.length) none) h).fin h.length := by
  unfold fnF
  cases B (vs.map some ++ List.replicate (k - vs.length) none) h <;> rfl
theorem fin_ret {v n} (hl : h.length = n) : (SR.ret v h).fin n = .ok v h := by
  show Res.ok v (trim n v h) = _
  unfold trim
  rw [if_pos hl]
theorem fin_nx {n} (hl : h.length = n) : (SR.nx ρ h).fin n = .ok .non h := by
  show Res.ok VV.non (trim n .non h) = _
  unfold trim
  rw [if_pos hl]
theorem app_def {o e} : eApp o e ρ h = (o ρ h).bind fun ov h1 => match lstOf h1 ov with
  | none => .no
  | some _ => (e ρ h1).bind fun v h2 => match ov with
    | .obj n => match h2[n]? with
      | some (.fl xs) => if v.isObj = true ∨ xs.length ≥ SZ then .no else .ok .non (h2.set n (.fl (xs ++ [v])))
      | _ => .no
    | _ => .no := rfl
/-! operations -/
theorem o_sub {i j : Int} : opSub h (.int i) (.int j) = some (.int (i - j)) := rfl
theorem o_add {i j : Int} : opAdd h (.int i) (.int j) = some (.int (i + j)) := rfl
theorem o_lt {i j : Int} : opLt h (.int i) (.int j) = some (.bl (decide (i < j))) := rfl
theorem o_le {i j : Int} : opLe h (.int i) (.int j) = some (.bl (decide (i ≤ j))) := rfl
theorem o_gt {i j : Int} : opGt h (.int i) (.int j) = some (.bl (decide (j < i))) := rfl
theorem o_ge {i j : Int} : opGe h (.int i) (.int j) = some (.bl (decide (j ≤ i))) := rfl
theorem o_neg {i : Int} : opNeg h (.int i) = some (.int (-i)) := rfl
theorem o_eqI {i j : Int} : opEq h (.int i) (.int j) = some (.bl (decide (i = j))) := rfl
theorem o_neI {i j : Int} : opNe h (.int i) (.int j) = some (.bl (!decide (i = j))) := rfl
theorem o_eqB {i j : Bool} : opEq h (.bl i) (.bl j) = some (.bl (decide (i = j))) := rfl
theorem o_neB {i j : Bool} : opNe h (.bl i) (.bl j) = some (.bl (!decide (i = j))) := rfl
theorem o_eqS {i j : Str} : opEq h (.str i) (.str j) = some (.bl (decide (i = j))) := rfl
theorem o_fdiv {i j : Int} (h0 : j ≠ 0) (h1 : j.natAbs.log2 < 9000) : opFdiv h (.int i) (.int j) = some (.int (i.fdiv j)) := by
  show (if _ then _ else _) = _; rw [if_pos ⟨h0, h1⟩]
theorem o_mod {i j : Int} (h0 : j ≠ 0) : opMod h (.int i) (.int j) = some (.int (i.fmod j)) := by
  show (if _ then _ else _) = _; rw [if_pos h0]
theorem o_mul {i j : Int} (h0 : mulOk i j = true) : opMul h (.int i) (.int j) = some (.int (i * j)) := by
  show (if _ then _ else _) = _; rw [if_pos h0]
theorem o_pow {i j : Int} (h0 : 0 ≤ j ∧ j ≤ 1000000 ∧ i.natAbs < 2 ^ 64) : opPow h (.int i) (.int j) = some (.int (i ^ j.toNat)) := by
  show (if _ then _ else _) = _; rw [if_pos h0]
theorem o_mul_r {i j : Int} (h0 : j.natAbs < 18446744073709551616) : opMul h (.int i) (.int j) = some (.int (i * j)) := by
  refine o_mul ?_
  unfold mulOk
  rw [decide_eq_true (p := j.natAbs < 2 ^ 64) (by omega)]; simp
theorem o_mul_l {i j : Int} (h0 : i.natAbs < 18446744073709551616) : opMul h (.int i) (.int j) = some (.int (i * j)) := by
  refine o_mul ?_
  unfold mulOk
  rw [decide_eq_true (p := i.natAbs < 2 ^ 64) (by omega)]; simp
theorem mulOk_r {i j : Int} (h0 : j.natAbs < 2 ^ 64) : mulOk i j = true := by
  unfold mulOk; rw [decide_eq_true h0]; simp
theorem mulOk_l {i j : Int} (h0 : i.natAbs < 2 ^ 64) : mulOk i j = true := by
  unfold mulOk; rw [decide_eq_true h0]; simp
end

/-! loops by what holds -/
theorem lc_pure {b : VV → VSt → Option VSt} {t : TF} {e : EF} {ρ : VSt} {h : VH} (f : VV → VV) : ∀ {xs : List VV}, (∀ x ∈ xs, ∃ ρ', b x ρ = some ρ' ∧ t ρ' h = .ok true h ∧ e ρ' h = .ok (f x) h ∧ (f x).isObj = false) → lcGo b t e ρ xs h = .ok (xs.map f) h
  | [], _ => rfl
  | x :: xs, hx => by
    obtain ⟨ρ', h1, h2, h3, h4⟩ := hx x List.mem_cons_self
    rw [lcGo, h1]
    simp only [h2, bind_ok, h3, h4, Bool.false_eq_true, if_false, if_true, lc_pure f fun y hy => hx y (List.mem_cons_of_mem _ hy), List.map_cons]
/-- with a filter -/
theorem lc_filt {b : VV → VSt → Option VSt} {t : TF} {e : EF} {ρ : VSt} {h : VH} (p : VV → Bool) (f : VV → VV) : ∀ {xs : List VV}, (∀ x ∈ xs, ∃ ρ', b x ρ = some ρ' ∧ t ρ' h = .ok (p x) h ∧ (p x = true → e ρ' h = .ok (f x) h ∧ (f x).isObj = false)) → lcGo b t e ρ xs h = .ok ((xs.filter p).map f) h
  | [], _ => rfl
  | x :: xs, hx => by
    obtain ⟨ρ', h1, h2, h3⟩ := hx x List.mem_cons_self
    rw [lcGo, h1]
    have ih := lc_filt p f fun y hy => hx y (List.mem_cons_of_mem _ hy)
    cases hp : p x with
    | false => simp only [h2, hp, bind_ok, Bool.false_eq_true, if_false, ih, List.filter_cons]
    | true =>
      obtain ⟨h4, h5⟩ := h3 hp
      simp only [h2, hp, bind_ok, h4, h5, Bool.false_eq_true, if_false, if_true, ih, List.filter_cons, List.map_cons]
inductive F2 {α β : Type} (P : α → β → Prop) : List α → List β → Prop
  | nil : F2 P [] []
  | cons {a b as bs} : P a b → F2 P as bs → F2 P (a :: as) (b :: bs)
theorem F2.len {α β : Type} {P : α → β → Prop} {as : List α} {bs : List β} (h : F2 P as bs) : as.length = bs.length := by
  induction h with
  | nil => rfl
  | cons _ _ ih => simp [ih]
/-- elements that draw -/
theorem lc_inv {b : VV → VSt → Option VSt} {t : TF} {e : EF} {ρ : VSt} (I : VH → Prop) (P : VV → VV → Prop) : ∀ {xs : List VV} {h : VH}, I h → (∀ x ∈ xs, ∀ h, I h → ∃ ρ' v h', b x ρ = some ρ' ∧ t ρ' h = .ok true h ∧ e ρ' h = .ok v h' ∧ v.isObj = false ∧ I h' ∧ P x v) →
    ∃ vs h', lcGo b t e ρ xs h = .ok vs h' ∧ I h' ∧ F2 P xs vs
  | [], h, hi, _ => ⟨[], h, rfl, hi, .nil⟩
  | x :: xs, h, hi, hx => by
    obtain ⟨ρ', v, h1, e1, e2, e3, e4, hi1, hp⟩ := hx x List.mem_cons_self h hi
    obtain ⟨vs, h2, e5, hi2, hps⟩ := lc_inv I P (xs := xs) hi1 fun y hy => hx y (List.mem_cons_of_mem _ hy)
    refine ⟨v :: vs, h2, ?_, hi2, .cons hp hps⟩
    rw [lcGo, e1]
    simp only [e2, bind_ok, e3, e4, Bool.false_eq_true, if_false, if_true, e5]
theorem for_inv {b : VV → VSt → Option VSt} {body : SF} (I : VSt → VH → Prop) : ∀ {xs : List VV} {ρ : VSt} {h : VH}, I ρ h → (∀ x ∈ xs, ∀ ρ h, I ρ h → ∃ ρ' ρ2 h2, b x ρ = some ρ' ∧ body ρ' h = .nx ρ2 h2 ∧ I ρ2 h2) → ∃ ρ2 h2, forGo b body xs ρ h = .nx ρ2 h2 ∧ I ρ2 h2
  | [], ρ, h, hi, _ => ⟨ρ, h, rfl, hi⟩
  | x :: xs, ρ, h, hi, hx => by
    obtain ⟨ρ', ρ2, h2, e1, e2, hi2⟩ := hx x List.mem_cons_self ρ h hi
    obtain ⟨ρ3, h3, e3, hi3⟩ := for_inv I (xs := xs) hi2 fun y hy => hx y (List.mem_cons_of_mem _ hy)
    refine ⟨ρ3, h3, ?_, hi3⟩
    rw [for_cons, e1, obd_some, e2, trn_nx, e3]
end J
namespace J
open PySem L2
theorem ix_root {h : VH} {n : Nat} {xs : List VV} {k : Int} (e : h[n]? = some (.fl xs)) : opIx h (.obj n) (.int k) = atI xs k := by
  unfold opIx
  simp only [lstOf, e, Option.bind_some]
theorem set_root {h : VH} {n : Nat} {xs : List VV} {k : Int} {j : Nat} {v : VV} (e : h[n]? = some (.fl xs)) (ej : ixN xs.length k = some j) (hv : v.isObj = false) : setI h (.obj n) (.int k) v = some (h.set n (.fl (xs.set j v))) := by
  unfold setI
  simp only [e, ej, hv, Bool.false_eq_true, if_false]
theorem get_set {h : VH} {n : Nat} {v : VO} (hn : n < h.length) : (h.set n v)[n]? = some v := List.getElem?_set_self hn
theorem lt_of_get {α : Type} {h : List α} {n : Nat} {v : α} (e : h[n]? = some v) : n < h.length := (List.getElem?_eq_some_iff.mp e).1
section
variable {a b c d e : VV}
theorem at5_0 : atI [a, b, c, d, e] 0 = some a := rfl
theorem at5_1 : atI [a, b, c, d, e] 1 = some b := rfl
theorem at5_2 : atI [a, b, c, d, e] 2 = some c := rfl
theorem at5_3 : atI [a, b, c, d, e] 3 = some d := rfl
theorem at5_4 : atI [a, b, c, d, e] 4 = some e := rfl
end
theorem x_lst {h : VH} {xs : List VV} {k : Int} : opIx h (.lst xs) (.int k) = atI xs k := rfl
theorem x_tup {h : VH} {xs : List VV} {k : Int} : opIx h (.tup xs) (.int k) = atI xs k := rfl
theorem len_lst {h : VH} {xs : List VV} : cLen h [.lst xs] = some (.int xs.length) := rfl
theorem len_tup {h : VH} {xs : List VV} : cLen h [.tup xs] = some (.int xs.length) := rfl
theorem list_lst {h : VH} {xs : List VV} : cList h [.lst xs] = some (.lst xs) := rfl
theorem list_tup {h : VH} {xs : List VV} : cList h [.tup xs] = some (.lst xs) := rfl
theorem tuple_lst {h : VH} {xs : List VV} : cTuple h [.lst xs] = some (.tup xs) := rfl
theorem atI_in {xs : List VV} {k : Nat} {v : VV} (e : xs[k]? = some v) : atI xs (k : Int) = some v := atI_nat e
end J

namespace J
open PySem L2
theorem kit_NoneType_list : kitB "NoneType" "list" = some false := by decide +kernel
theorem isi_NoneType_list {h : VH} : cIsi h [.non, .ty "list"] = some (.bl false) := by show ((kitB "NoneType" "list").map VV.bl) = _; rw [kit_NoneType_list]; rfl
theorem kit_NoneType_tuple : kitB "NoneType" "tuple" = some false := by decide +kernel
theorem isi_NoneType_tuple {h : VH} : cIsi h [.non, .ty "tuple"] = some (.bl false) := by show ((kitB "NoneType" "tuple").map VV.bl) = _; rw [kit_NoneType_tuple]; rfl
theorem kit_NoneType_bool : kitB "NoneType" "bool" = some false := by decide +kernel
theorem isi_NoneType_bool {h : VH} : cIsi h [.non, .ty "bool"] = some (.bl false) := by show ((kitB "NoneType" "bool").map VV.bl) = _; rw [kit_NoneType_bool]; rfl
theorem kit_NoneType_int : kitB "NoneType" "int" = some false := by decide +kernel
theorem isi_NoneType_int {h : VH} : cIsi h [.non, .ty "int"] = some (.bl false) := by show ((kitB "NoneType" "int").map VV.bl) = _; rw [kit_NoneType_int]; rfl
theorem kit_NoneType_str : kitB "NoneType" "str" = some false := by decide +kernel
theorem isi_NoneType_str {h : VH} : cIsi h [.non, .ty "str"] = some (.bl false) := by show ((kitB "NoneType" "str").map VV.bl) = _; rw [kit_NoneType_str]; rfl
theorem kit_bool_list : kitB "bool" "list" = some false := by decide +kernel
theorem isi_bool_list {h : VH} {b : Bool} : cIsi h [(.bl b), .ty "list"] = some (.bl false) := by show ((kitB "bool" "list").map VV.bl) = _; rw [kit_bool_list]; rfl
theorem kit_bool_tuple : kitB "bool" "tuple" = some false := by decide +kernel
theorem isi_bool_tuple {h : VH} {b : Bool} : cIsi h [(.bl b), .ty "tuple"] = some (.bl false) := by show ((kitB "bool" "tuple").map VV.bl) = _; rw [kit_bool_tuple]; rfl
theorem kit_bool_bool : kitB "bool" "bool" = some true := by decide +kernel
theorem isi_bool_bool {h : VH} {b : Bool} : cIsi h [(.bl b), .ty "bool"] = some (.bl true) := by show ((kitB "bool" "bool").map VV.bl) = _; rw [kit_bool_bool]; rfl
theorem kit_bool_int : kitB "bool" "int" = some true := by decide +kernel
theorem isi_bool_int {h : VH} {b : Bool} : cIsi h [(.bl b), .ty "int"] = some (.bl true) := by show ((kitB "bool" "int").map VV.bl) = _; rw [kit_bool_int]; rfl
theorem kit_bool_str : kitB "bool" "str" = some false := by decide +kernel
theorem isi_bool_str {h : VH} {b : Bool} : cIsi h [(.bl b), .ty "str"] = some (.bl false) := by show ((kitB "bool" "str").map VV.bl) = _; rw [kit_bool_str]; rfl
theorem kit_int_list : kitB "int" "list" = some false := by decide +kernel
theorem isi_int_list {h : VH} {i : Int} : cIsi h [(.int i), .ty "list"] = some (.bl false) := by show ((kitB "int" "list").map VV.bl) = _; rw [kit_int_list]; rfl
theorem kit_int_tuple : kitB "int" "tuple" = some false := by decide +kernel
theorem isi_int_tuple {h : VH} {i : Int} : cIsi h [(.int i), .ty "tuple"] = some (.bl false) := by show ((kitB "int" "tuple").map VV.bl) = _; rw [kit_int_tuple]; rfl
theorem kit_int_bool : kitB "int" "bool" = some false := by decide +kernel
theorem isi_int_bool {h : VH} {i : Int} : cIsi h [(.int i), .ty "bool"] = some (.bl false) := by show ((kitB "int" "bool").map VV.bl) = _; rw [kit_int_bool]; rfl
theorem kit_int_int : kitB "int" "int" = some true := by decide +kernel
theorem isi_int_int {h : VH} {i : Int} : cIsi h [(.int i), .ty "int"] = some (.bl true) := by show ((kitB "int" "int").map VV.bl) = _; rw [kit_int_int]; rfl
theorem kit_int_str : kitB "int" "str" = some false := by decide +kernel
theorem isi_int_str {h : VH} {i : Int} : cIsi h [(.int i), .ty "str"] = some (.bl false) := by show ((kitB "int" "str").map VV.bl) = _; rw [kit_int_str]; rfl
theorem kit_str_list : kitB "str" "list" = some false := by decide +kernel
theorem isi_str_list {h : VH} {x : Str} : cIsi h [(.str x), .ty "list"] = some (.bl false) := by show ((kitB "str" "list").map VV.bl) = _; rw [kit_str_list]; rfl
theorem kit_str_tuple : kitB "str" "tuple" = some false := by decide +kernel
theorem isi_str_tuple {h : VH} {x : Str} : cIsi h [(.str x), .ty "tuple"] = some (.bl false) := by show ((kitB "str" "tuple").map VV.bl) = _; rw [kit_str_tuple]; rfl
theorem kit_str_bool : kitB "str" "bool" = some false := by decide +kernel
theorem isi_str_bool {h : VH} {x : Str} : cIsi h [(.str x), .ty "bool"] = some (.bl false) := by show ((kitB "str" "bool").map VV.bl) = _; rw [kit_str_bool]; rfl
theorem kit_str_int : kitB "str" "int" = some false := by decide +kernel
theorem isi_str_int {h : VH} {x : Str} : cIsi h [(.str x), .ty "int"] = some (.bl false) := by show ((kitB "str" "int").map VV.bl) = _; rw [kit_str_int]; rfl
theorem kit_str_str : kitB "str" "str" = some true := by decide +kernel
theorem isi_str_str {h : VH} {x : Str} : cIsi h [(.str x), .ty "str"] = some (.bl true) := by show ((kitB "str" "str").map VV.bl) = _; rw [kit_str_str]; rfl
theorem kit_tuple_list : kitB "tuple" "list" = some false := by decide +kernel
theorem isi_tuple_list {h : VH} {xs : List VV} : cIsi h [(.tup xs), .ty "list"] = some (.bl false) := by show ((kitB "tuple" "list").map VV.bl) = _; rw [kit_tuple_list]; rfl
theorem kit_tuple_tuple : kitB "tuple" "tuple" = some true := by decide +kernel
theorem isi_tuple_tuple {h : VH} {xs : List VV} : cIsi h [(.tup xs), .ty "tuple"] = some (.bl true) := by show ((kitB "tuple" "tuple").map VV.bl) = _; rw [kit_tuple_tuple]; rfl
theorem kit_tuple_bool : kitB "tuple" "bool" = some false := by decide +kernel
theorem isi_tuple_bool {h : VH} {xs : List VV} : cIsi h [(.tup xs), .ty "bool"] = some (.bl false) := by show ((kitB "tuple" "bool").map VV.bl) = _; rw [kit_tuple_bool]; rfl
theorem kit_tuple_int : kitB "tuple" "int" = some false := by decide +kernel
theorem isi_tuple_int {h : VH} {xs : List VV} : cIsi h [(.tup xs), .ty "int"] = some (.bl false) := by show ((kitB "tuple" "int").map VV.bl) = _; rw [kit_tuple_int]; rfl
theorem kit_tuple_str : kitB "tuple" "str" = some false := by decide +kernel
theorem isi_tuple_str {h : VH} {xs : List VV} : cIsi h [(.tup xs), .ty "str"] = some (.bl false) := by show ((kitB "tuple" "str").map VV.bl) = _; rw [kit_tuple_str]; rfl
theorem kit_list_list : kitB "list" "list" = some true := by decide +kernel
theorem isi_list_list {h : VH} {xs : List VV} : cIsi h [(.lst xs), .ty "list"] = some (.bl true) := by show ((kitB "list" "list").map VV.bl) = _; rw [kit_list_list]; rfl
theorem kit_list_tuple : kitB "list" "tuple" = some false := by decide +kernel
theorem isi_list_tuple {h : VH} {xs : List VV} : cIsi h [(.lst xs), .ty "tuple"] = some (.bl false) := by show ((kitB "list" "tuple").map VV.bl) = _; rw [kit_list_tuple]; rfl
theorem kit_list_bool : kitB "list" "bool" = some false := by decide +kernel
theorem isi_list_bool {h : VH} {xs : List VV} : cIsi h [(.lst xs), .ty "bool"] = some (.bl false) := by show ((kitB "list" "bool").map VV.bl) = _; rw [kit_list_bool]; rfl
theorem kit_list_int : kitB "list" "int" = some false := by decide +kernel
theorem isi_list_int {h : VH} {xs : List VV} : cIsi h [(.lst xs), .ty "int"] = some (.bl false) := by show ((kitB "list" "int").map VV.bl) = _; rw [kit_list_int]; rfl
theorem kit_list_str : kitB "list" "str" = some false := by decide +kernel
theorem isi_list_str {h : VH} {xs : List VV} : cIsi h [(.lst xs), .ty "str"] = some (.bl false) := by show ((kitB "list" "str").map VV.bl) = _; rw [kit_list_str]; rfl
theorem all_true {h : VH} {n : Nat} : cAll h [.lst (List.replicate n (.bl true))] = some (.bl true) := by
  have : ∀ n, blsOf (List.replicate n (.bl true)) = some (List.replicate n true) := by
    intro n
    induction n with
    | zero => rfl
    | succ n ih => rw [List.replicate_succ, blsOf, ih]; rfl
  show ((blsOf (List.replicate n (.bl true))).map fun ns => VV.bl (ns.all id)) = _
  rw [this]
  simp
theorem lc_const {b : VV → VSt → Option VSt} {t : TF} {e : EF} {ρ : VSt} {h : VH} {v : VV} (hv : v.isObj = false) : ∀ {xs : List VV}, (∀ x ∈ xs, ∃ ρ', b x ρ = some ρ' ∧ t ρ' h = .ok true h ∧ e ρ' h = .ok v h) → lcGo b t e ρ xs h = .ok (List.replicate xs.length v) h
  | [], _ => rfl
  | x :: xs, hx => by
    obtain ⟨ρ', h1, h2, h3⟩ := hx x List.mem_cons_self
    rw [lcGo, h1]
    simp only [h2, bind_ok, h3, hv, Bool.false_eq_true, if_false, if_true, lc_const hv fun y hy => hx y (List.mem_cons_of_mem _ hy), List.length_cons, List.replicate_succ]
theorem prs_same : ∀ xs : List VV, prs xs xs = xs.map fun x => .tup [x, x]
  | [] => rfl
  | x :: xs => by rw [prs, prs_same xs]; rfl
mutual
def dep : VV → Nat
  | .tup xs => deps xs + 1
  | .lst xs => deps xs + 1
  | _ => 0
def deps : List VV → Nat
  | [] => 0
  | x :: xs => max (dep x) (deps xs)
end
mutual
def wide : VV → Nat
  | .tup xs => max xs.length (wides xs)
  | .lst xs => max xs.length (wides xs)
  | _ => 0
def wides : List VV → Nat
  | [] => 0
  | x :: xs => max (wide x) (wides xs)
end
theorem mem_deps : ∀ {xs : List VV} {x : VV}, x ∈ xs → dep x ≤ deps xs ∧ wide x ≤ wides xs
  | [], _, h => by simp at h
  | y :: ys, x, h => by
    rw [deps, wides]
    rcases List.mem_cons.mp h with rfl | h
    · omega
    · have := mem_deps h; omega
theorem mem_isDs : ∀ {xs : List VV} {x : VV}, isDs xs = true → x ∈ xs → isD x = true
  | [], _, _, h => by simp at h
  | y :: ys, x, d, h => by
    rw [isDs, Bool.and_eq_true] at d
    rcases List.mem_cons.mp h with rfl | h
    · exact d.1
    · exact mem_isDs d.2 h
end J
namespace J
open PySem L2
theorem intsOf_map : ∀ l : List Int, intsOf (l.map VV.int) = some l
  | [] => rfl
  | x :: xs => by rw [List.map_cons, intsOf, intsOf_map xs]; rfl
theorem sum_ints {h : VH} {l : List Int} : cSum h [.lst (l.map VV.int)] = some (.int l.sum) := by
  show (intsOf (l.map VV.int)).map (fun ns => VV.int ns.sum) = _
  rw [intsOf_map]; rfl
theorem blsOf_map : ∀ l : List Bool, blsOf (l.map VV.bl) = some l
  | [] => rfl
  | x :: xs => by rw [List.map_cons, blsOf, blsOf_map xs]; rfl
theorem all_bls {h : VH} {l : List Bool} : cAll h [.lst (l.map VV.bl)] = some (.bl (l.all id)) := by
  show (blsOf (l.map VV.bl)).map (fun ns => VV.bl (ns.all id)) = _
  rw [blsOf_map]; rfl
theorem any_bls {h : VH} {l : List Bool} : cAny h [.lst (l.map VV.bl)] = some (.bl (l.any id)) := by
  show (blsOf (l.map VV.bl)).map (fun ns => VV.bl (ns.any id)) = _
  rw [blsOf_map]; rfl
theorem prs_ints : ∀ xs ys : List Int, prs (xs.map VV.int) (ys.map VV.int) = (xs.zip ys).map fun p => .tup [.int p.1, .int p.2]
  | [], ys => by simp [prs]
  | x :: xs, [] => by simp [prs]
  | x :: xs, y :: ys => by simp [prs, prs_ints xs ys]
theorem isDs_ints : ∀ l : List Int, isDs (l.map VV.int) = true
  | [] => by simp [isDs]
  | x :: xs => by simp [isDs, isD, isDs_ints xs]
theorem deps_ints : ∀ l : List Int, deps (l.map VV.int) = 0 ∧ wides (l.map VV.int) = 0
  | [] => by simp [deps, wides]
  | x :: xs => by have := deps_ints xs; simp [deps, dep, wides, wide, this.1, this.2]
theorem any_ints : ∀ l : List Int, (l.map VV.int).any VV.isObj = false
  | [] => rfl
  | x :: xs => by simp [VV.isObj]
/-- == of lists of ints -/
theorem toDs_ints : ∀ l : List Int, toDs (l.map VV.int) = l.map PyData.int
  | [] => by simp [toDs]
  | x :: xs => by simp [toDs, toD, toDs_ints xs]
theorem eqvAll_ints : ∀ l m : List Int, PyData.eqvAll (l.map PyData.int) (m.map PyData.int) = decide (l = m)
  | [], [] => by simp [PyData.eqvAll]
  | [], y :: ys => by simp [PyData.eqvAll]
  | x :: xs, [] => by simp [PyData.eqvAll]
  | x :: xs, y :: ys => by
    simp only [List.map_cons, PyData.eqvAll, PyData.eqv, eqvAll_ints xs ys]
    by_cases h1 : x = y <;> by_cases h2 : xs = ys <;> simp [h1, h2]
theorem canLay_ints : ∀ l : List Int, PyData.canLayAll0 (l.map PyData.int) = true
  | [] => by simp [PyData.canLayAll0]
  | x :: xs => by simp [PyData.canLayAll0, PyData.canLay0, canLay_ints xs]
end J
namespace J
open PySem L2
theorem depth_ints : ∀ l : List Int, PyData.depthAll (l.map PyData.int) = 0
  | [] => by simp [PyData.depthAll]
  | x :: xs => by simp [PyData.depthAll, PyData.depth, depth_ints xs]
theorem eq_ints {h : VH} {l m : List Int} : opEq h (.lst (l.map VV.int)) (.lst (m.map VV.int)) = some (.bl (decide (l = m))) := by
  show (eqD _ _).map VV.bl = _
  unfold eqD
  have sh : ∀ l : List Int, SeqAt.shaped (toD (.lst (l.map VV.int))) = true := fun l => by
    rw [toD, toDs_ints]
    unfold SeqAt.shaped
    rw [PyData.canLay0, canLay_ints, PyData.depth, depth_ints]; rfl
  simp only [isD, isDs_ints, sh, and_self, if_true]
  rw [toD, toD, toDs_ints, toDs_ints, PyData.eqv, eqvAll_ints]; rfl
end J
namespace J
open PySem L2
theorem fin1 {v : VV} {o : VO} : (SR.ret v [o]).fin 1 = .ok v [o] := rfl
end J

namespace L
open PySem L2 J
def B_rest : SF :=
    (sRet (eIf (tVal (eBin opEq (eVar 1) (eC (.int 0)))) (eVar 0) (eBin opMod (eVar 0) (eVar 1))))
def F_rest : FF := fnF 2 B_rest
abbrev le_rested_1 : EF :=
    (eFn 2 F_rest [] (aCons (eVar 2) (aCons (eVar 1) aNil)))
def B_rested : SF :=
    (sRet (eLc [2] (iSeq (eVar 0)) (bNm 2) tTrue le_rested_1))
def F_rested : FF := fnF 3 B_rested
abbrev lc_share_1 : TF :=
    (tVal (eBin opNe (eVar 5) (eC (.int 0))))
abbrev lb_share_1 : SF :=
    (sSeq (sSet 8 (eBin opFdiv (eVar 2) (eVar 5)))
    (sSeq (sPar 2 5 (aCons (eVar 5) (aCons (eBin opSub (eVar 2) (eBin opMul (eVar 8) (eVar 5))) aNil)))
    (sSeq (sPar 3 6 (aCons (eVar 6) (aCons (eBin opSub (eVar 3) (eBin opMul (eVar 8) (eVar 6))) aNil)))
    (sPar 4 7 (aCons (eVar 7) (aCons (eBin opSub (eVar 4) (eBin opMul (eVar 8) (eVar 7))) aNil))))))
def B_share : SF :=
    (sSeq (sPar3 2 3 4 (aCons (eVar 0) (aCons (eC (.int 1)) (aCons (eC (.int 0)) aNil))))
    (sSeq (sPar3 5 6 7 (aCons (eVar 1) (aCons (eC (.int 0)) (aCons (eC (.int 1)) aNil))))
    (sSeq (whGo lc_share_1 lb_share_1 10000000000000000000000000000000000000000)
    (sSeq (sIf (tVal (eBin opLt (eVar 2) (eC (.int 0)))) (sPar3 2 3 4 (aCons (eUn opNeg (eVar 2)) (aCons (eUn opNeg (eVar 3)) (aCons (eUn opNeg (eVar 4)) aNil)))) sSkip)
    (sRet (eTup (aCons (eVar 2) (aCons (eVar 3) (aCons (eVar 4) aNil)))))))))
def F_share : FF := fnF 9 B_share
abbrev le_paired_1 : EF :=
    (eBin opMul (eVar 2) (eVar 3))
def B_paired : SF :=
    (sRet (eCall cSum (aCons (eLc [2, 3] (iZip (aCons (eVar 0) (aCons (eVar 1) aNil))) (bTup 2 (bCons (bNm 2) (bCons (bNm 3) bNil))) tTrue le_paired_1) aNil)))
def F_paired : FF := fnF 4 B_paired
abbrev le_timed_1 : EF :=
    (eFn 2 F_paired [] (aCons (eVar 2) (aCons (eVar 1) aNil)))
def B_timed : SF :=
    (sRet (eLc [2] (iSeq (eVar 0)) (bNm 2) tTrue le_timed_1))
def F_timed : FF := fnF 3 B_timed
abbrev lb_law_box_1 : SF :=
    (sSet 1 (eBin opMod (eBin opAdd (eBin opAdd (eBin opMul (eVar 1) (eC (.int 31))) (eVar 2)) (eC (.int 17))) (eC (.int 2147483647))))
def B_law_box : SF :=
    (sSeq (sSet 1 (eC (.int 0)))
    (sSeq (sFor (iSeq (eSl opSl (eVar 0) oNone (oSome (eC (.int 63))))) (bNm 2) lb_law_box_1)
    (sRet (eLstO (aCons (eCall cList (aCons (eSl opSl (eVar 0) oNone (oSome (eC (.int 63)))) aNil)) (aCons (eC (.int 0)) (aCons (eC (.int 0)) (aCons (eC (.int 0)) (aCons (eVar 1) aNil)))))))))
def F_law_box : FF := fnF 3 B_law_box
def B_law_mixed : SF :=
    (sSeq (sSet 2 (eBin opMod (eBin opAdd (eBin opAdd (eBin opMul (eVar 0) (eC (.int 48271))) (eBin opMul (eVar 1) (eC (.int 69621)))) (eC (.int 12345))) (eC (.int 2147483647))))
    (sSeq (sSet 3 (eBin opMod (eBin opAdd (eBin opAdd (eBin opMul (eVar 2) (eBin opAdd (eBin opMod (eVar 2) (eC (.int 65521))) (eC (.int 7)))) (eBin opMul (eVar 1) (eC (.int 40692)))) (eBin opMod (eVar 0) (eC (.int 104729)))) (eC (.int 998244353))))
    (sRet (eBin opFdiv (eVar 3) (eC (.int 7))))))
def F_law_mixed : FF := fnF 4 B_law_mixed
def B_law_take : SF :=
    (sSeq (sSetI (eVar 0) (eC (.int 3)) (eBin opAdd (eBin opIx (eVar 0) (eC (.int 3))) (eC (.int 1))))
    (sSeq (sIf (tVal (eBin opGt (eBin opIx (eVar 0) (eC (.int 2))) (eC (.int 0)))) (sSeq (sSet 3 (eBin opIx (eVar 0) (eC (.int 2))))
    (sSeq (sSetI (eVar 0) (eC (.int 2)) (eBin opFdiv (eVar 3) (eVar 1)))
    (sRet (eBin opMod (eVar 3) (eVar 1))))) sSkip)
    (sSeq (sIf (tVal (eBin opGe (eBin opIx (eVar 0) (eC (.int 1))) (eCall cLen (aCons (eBin opIx (eVar 0) (eC (.int 0))) aNil)))) (sRet (eBin opMod (eFn 2 F_law_mixed [] (aCons (eBin opIx (eVar 0) (eC (.int 4))) (aCons (eBin opIx (eVar 0) (eC (.int 3))) aNil))) (eVar 1))) sSkip)
    (sSeq (sSet 2 (eBin opIx (eBin opIx (eVar 0) (eC (.int 0))) (eBin opIx (eVar 0) (eC (.int 1)))))
    (sSeq (sSetI (eVar 0) (eC (.int 1)) (eBin opAdd (eBin opIx (eVar 0) (eC (.int 1))) (eC (.int 1))))
    (sSeq (sIf (tVal (eBin opLt (eVar 2) (eBin opPow (eC (.int 10)) (eC (.int 18))))) (sRet (eBin opMod (eFn 2 F_law_mixed [] (aCons (eVar 2) (aCons (eBin opIx (eVar 0) (eC (.int 3))) aNil))) (eVar 1))) sSkip)
    (sSeq (sSetI (eVar 0) (eC (.int 2)) (eBin opFdiv (eVar 2) (eVar 1)))
    (sRet (eBin opMod (eVar 2) (eVar 1))))))))))
def F_law_take : FF := fnF 4 B_law_take
abbrev le_law_alike_1 (Fr : FF) : EF :=
    (eFn 2 Fr [] (aCons (eVar 2) (aCons (eVar 3) aNil)))
def B_law_alike (Fr : FF) : SF :=
    (sSeq (sIf (tOr (tVal (eCall cIsi (aCons (eVar 1) (aCons (eC (.ty "list")) aNil)))) (tVal (eCall cIsi (aCons (eVar 1) (aCons (eC (.ty "tuple")) aNil))))) (sSeq (sIf (tOr (tVal (eBin opNe (eCall cIsi (aCons (eVar 0) (aCons (eC (.ty "list")) aNil))) (eCall cIsi (aCons (eVar 1) (aCons (eC (.ty "list")) aNil))))) (tVal (eBin opNe (eCall cIsi (aCons (eVar 0) (aCons (eC (.ty "tuple")) aNil))) (eCall cIsi (aCons (eVar 1) (aCons (eC (.ty "tuple")) aNil)))))) (sRet (eC (.bl false))) sSkip)
    (sRet (eAnd (eBin opEq (eCall cLen (aCons (eVar 0) aNil)) (eCall cLen (aCons (eVar 1) aNil))) (eCall cAll (aCons (eLc [2, 3] (iZip (aCons (eVar 0) (aCons (eVar 1) aNil))) (bTup 2 (bCons (bNm 2) (bCons (bNm 3) bNil))) tTrue (le_law_alike_1 Fr)) aNil))))) sSkip)
    (sSeq (sIf (tOr (tVal (eBin opIsN (eVar 1) (eC .non))) (tVal (eBin opIsN (eVar 0) (eC .non)))) (sRet (eAnd (eBin opIsN (eVar 0) (eC .non)) (eBin opIsN (eVar 1) (eC .non)))) sSkip)
    (sSeq (sIf (tOr (tVal (eBin opNe (eCall cIsi (aCons (eVar 0) (aCons (eC (.ty "bool")) aNil))) (eCall cIsi (aCons (eVar 1) (aCons (eC (.ty "bool")) aNil))))) (tVal (eBin opNe (eCall cIsi (aCons (eVar 0) (aCons (eC (.ty "int")) aNil))) (eCall cIsi (aCons (eVar 1) (aCons (eC (.ty "int")) aNil)))))) (sRet (eC (.bl false))) sSkip)
    (sRet (eAnd (eBin opEq (eCall cIsi (aCons (eVar 0) (aCons (eC (.ty "str")) aNil))) (eCall cIsi (aCons (eVar 1) (aCons (eC (.ty "str")) aNil)))) (eBin opEq (eVar 0) (eVar 1)))))))
def F_law_alike : Nat → FF
  | 0 => fun _ _ => .no
  | d + 1 => fnF 4 (B_law_alike (F_law_alike d))
def B_law_number : SF :=
    (sSeq (sSet 1 (eFn 2 F_law_take [] (aCons (eVar 0) (aCons (eC (.int 8)) aNil))))
    (sSeq (sIf (tVal (eBin opLt (eVar 1) (eC (.int 5)))) (sRet (eBin opSub (eFn 2 F_law_take [] (aCons (eVar 0) (aCons (eC (.int 9)) aNil))) (eC (.int 4)))) sSkip)
    (sSeq (sIf (tVal (eBin opLt (eVar 1) (eC (.int 7)))) (sRet (eBin opSub (eFn 2 F_law_take [] (aCons (eVar 0) (aCons (eC (.int 2001)) aNil))) (eC (.int 1000)))) sSkip)
    (sRet (eBin opMul (eBin opSub (eFn 2 F_law_take [] (aCons (eVar 0) (aCons (eC (.int 3)) aNil))) (eC (.int 1))) (eBin opAdd (eBin opPow (eC (.int 10)) (eC (.int 24))) (eFn 2 F_law_take [] (aCons (eVar 0) (aCons (eBin opPow (eC (.int 10)) (eC (.int 20))) aNil)))))))))
def F_law_number : FF := fnF 2 B_law_number
abbrev le_law_numbers_1 : EF :=
    (eFn 1 F_law_number [] (aCons (eVar 0) aNil))
def B_law_numbers : SF :=
    (sRet (eLc [2] (iRange1 (eVar 1)) (bNm 2) tTrue le_law_numbers_1))
def F_law_numbers : FF := fnF 3 B_law_numbers
def B_law_drawn_rests : SF :=
    (sSeq (sSet 1 (eFn 2 F_law_take [] (aCons (eVar 0) (aCons (eC (.int 5)) aNil))))
    (sSeq (sIf (tVal (eBin opLt (eVar 1) (eC (.int 2)))) (sRet (eC (.int 0))) sSkip)
    (sRet (eBin opIx (eLst (aCons (eC (.int 2)) (aCons (eC (.int 3)) (aCons (eBin opAdd (eC (.int 2)) (eFn 2 F_law_take [] (aCons (eVar 0) (aCons (eC (.int 59)) aNil)))) aNil)))) (eBin opSub (eVar 1) (eC (.int 2)))))))
def F_law_drawn_rests : FF := fnF 2 B_law_drawn_rests
def B_law_rest : SF :=
    (sRet (eIf (tVal (eBin opEq (eVar 1) (eC (.int 0)))) (eVar 0) (eBin opMod (eVar 0) (eVar 1))))
def F_law_rest : FF := fnF 2 B_law_rest
abbrev le_law_rested_1 : EF :=
    (eFn 2 F_law_rest [] (aCons (eVar 2) (aCons (eVar 1) aNil)))
def B_law_rested : SF :=
    (sRet (eLc [2] (iSeq (eVar 0)) (bNm 2) tTrue le_law_rested_1))
def F_law_rested : FF := fnF 3 B_law_rested
abbrev le_law_sum_1 : EF :=
    (eBin opMul (eVar 2) (eVar 3))
def B_law_sum : SF :=
    (sRet (eCall cSum (aCons (eLc [2, 3] (iZip (aCons (eVar 0) (aCons (eVar 1) aNil))) (bTup 2 (bCons (bNm 2) (bCons (bNm 3) bNil))) tTrue le_law_sum_1) aNil)))
def F_law_sum : FF := fnF 4 B_law_sum
abbrev le_law_whole_list_1 : EF :=
    (eAnd (eCall cIsi (aCons (eVar 2) (aCons (eC (.ty "int")) aNil))) (eNot (eCall cIsi (aCons (eVar 2) (aCons (eC (.ty "bool")) aNil)))))
def B_law_whole_list : SF :=
    (sSeq (sIf (tOr (tNot (tVal (eCall cIsi (aCons (eVar 0) (aCons (eC (.ty "list")) aNil))))) (tVal (eBin opNe (eCall cLen (aCons (eVar 0) aNil)) (eVar 1)))) (sRet (eC (.bl false))) sSkip)
    (sRet (eCall cAll (aCons (eLc [2] (iSeq (eVar 0)) (bNm 2) tTrue le_law_whole_list_1) aNil))))
def F_law_whole_list : FF := fnF 3 B_law_whole_list
abbrev lb_law_1 : SF :=
    (sSeq (sSet 8 (eFn 1 F_law_number [] (aCons (eVar 1) aNil)))
    (sSeq (sSet 9 (eBin opIx (eLst (aCons (eFn 1 F_law_number [] (aCons (eVar 1) aNil)) (aCons (eBin opMul (eVar 8) (eBin opSub (eFn 2 F_law_take [] (aCons (eVar 1) (aCons (eC (.int 9)) aNil))) (eC (.int 4)))) (aCons (eC (.int 0)) aNil)))) (eFn 2 F_law_take [] (aCons (eVar 1) (aCons (eC (.int 3)) aNil)))))
    (sSeq (sSet 10 (eFn 2 F_share [] (aCons (eVar 8) (aCons (eVar 9) aNil))))
    (sSeq (sIf (tOr (tNot (tVal (eCall cIsi (aCons (eVar 10) (aCons (eC (.ty "tuple")) aNil))))) (tNot (tVal (eFn 2 F_law_whole_list [] (aCons (eCall cList (aCons (eVar 10) aNil)) (aCons (eC (.int 3)) aNil)))))) (sRet (eC (.bl false))) sSkip)
    (sSeq (sAsg (eVar 10) (bTup 3 (bCons (bNm 11) (bCons (bNm 12) (bCons (bNm 13) bNil)))))
    (sSeq (sIf (tOr (tVal (eBin opLt (eVar 11) (eC (.int 0)))) (tOr (tVal (eBin opNe (eBin opAdd (eBin opMul (eVar 12) (eVar 8)) (eBin opMul (eVar 13) (eVar 9))) (eVar 11))) (tVal (eBin opNe (eBin opEq (eVar 11) (eC (.int 0))) (eAnd (eBin opEq (eVar 8) (eC (.int 0))) (eBin opEq (eVar 9) (eC (.int 0)))))))) (sRet (eC (.bl false))) sSkip)
    (sIf (tAnd (tVal (eBin opGt (eVar 11) (eC (.int 0)))) (tOr (tVal (eBin opNe (eBin opMod (eVar 8) (eVar 11)) (eC (.int 0)))) (tVal (eBin opNe (eBin opMod (eVar 9) (eVar 11)) (eC (.int 0)))))) (sRet (eC (.bl false))) sSkip)))))))
abbrev le_law_1 : EF :=
    (eFn 2 F_law_numbers [] (aCons (eVar 1) (aCons (eVar 3) aNil)))
abbrev le_law_2 : EF :=
    (eFn 2 F_rest [] (aCons (eVar 8) (aCons (eVar 7) aNil)))
abbrev le_law_3 : EF :=
    (eFn 2 F_law_sum [] (aCons (eVar 14) (aCons (eVar 4) aNil)))
abbrev le_law_4 : EF :=
    (eCall cList (aCons (eVar 14) aNil))
abbrev le_law_5 : EF :=
    (eFn 2 F_rest [.int 0] (aCons (eVar 8) aNil))
def B_law : SF :=
    (sSeq (sSet 1 (eFn 1 F_law_box [] (aCons (eVar 0) aNil)))
    (sSeq (sFor (iRange1 (eC (.int 4))) (bNm 2) lb_law_1)
    (sSeq (sSet 3 (eFn 2 F_law_take [] (aCons (eVar 1) (aCons (eC (.int 10)) aNil))))
    (sSeq (sSet 4 (eFn 2 F_law_numbers [] (aCons (eVar 1) (aCons (eVar 3) aNil))))
    (sSeq (sSet 5 (eLc [2] (iRange1 (eFn 2 F_law_take [] (aCons (eVar 1) (aCons (eC (.int 4)) aNil)))) (bNm 2) tTrue le_law_1))
    (sSeq (sSet 6 (eCall cList (aCons (eVar 4) aNil)))
    (sSeq (sSet 7 (eFn 1 F_law_drawn_rests [] (aCons (eVar 1) aNil)))
    (sSeq (sIf (tNot (tVal (eFn 2 (F_law_alike 4) [] (aCons (eLc [8] (iSeq (eVar 6)) (bNm 8) tTrue le_law_2) (aCons (eFn 2 F_law_rested [] (aCons (eVar 4) (aCons (eVar 7) aNil))) aNil))))) (sRet (eC (.bl false))) sSkip)
    (sSeq (sIf (tOr (tNot (tVal (eFn 2 (F_law_alike 4) [] (aCons (eFn 2 F_rested [] (aCons (eVar 6) (aCons (eVar 7) aNil))) (aCons (eFn 2 F_law_rested [] (aCons (eVar 4) (aCons (eVar 7) aNil))) aNil))))) (tNot (tVal (eFn 2 (F_law_alike 4) [] (aCons (eFn 2 F_rested [.int 0] (aCons (eVar 6) aNil)) (aCons (eVar 4) aNil)))))) (sRet (eC (.bl false))) sSkip)
    (sSeq (sIf (tNot (tVal (eFn 2 (F_law_alike 4) [] (aCons (eFn 2 F_timed [] (aCons (eLc [14] (iSeq (eVar 5)) (bNm 14) tTrue le_law_4) (aCons (eVar 6) aNil))) (aCons (eLc [14] (iSeq (eVar 5)) (bNm 14) tTrue le_law_3) aNil))))) (sRet (eC (.bl false))) sSkip)
    (sSeq (sIf (tOr (tNot (tVal (eFn 2 (F_law_alike 4) [] (aCons (eLc [8] (iSeq (eVar 6)) (bNm 8) tTrue le_law_5) (aCons (eVar 4) aNil))))) (tNot (tVal (eFn 2 (F_law_alike 4) [] (aCons (eC (.int 0)) (aCons (eC (.int 0)) aNil)))))) (sRet (eC (.bl false))) sSkip)
    (sRet (eAnd (eFn 2 (F_law_alike 4) [] (aCons (eFn 2 F_paired [] (aCons (eVar 6) (aCons (eCall cList (aCons (eVar 4) aNil)) aNil))) (aCons (eFn 2 F_law_sum [] (aCons (eVar 4) (aCons (eVar 4) aNil))) aNil))) (eBin opEq (eVar 6) (eVar 4)))))))))))))))
def F_law : FF := fnF 15 B_law
end L

namespace L
open PySem L2 J
local macro_rules | `(tactic| walk_at "ev") => `(tactic| try simp only [fn_ap, List.map_cons, List.map_nil, List.length_cons, List.length_nil, List.cons_append, List.nil_append, List.append_nil, Nat.reduceAdd, Nat.reduceSub, Nat.zero_add, List.replicate_succ, List.replicate_zero, s_seq, s_set, s_asg, s_if, s_ret, s_expr, s_for, s_skip, s_par, s_par3, s_setI, thn_nx, thn_ret, thn_no, thn_brk, thn_cnt, thn_exc, a_var, a_c, a_bin, a_un, a_call, a_nil, a_cons, a_tup, a_lst, a_lstO, a_val, a_tand, a_tor, a_tnot, a_if, a_and, a_or, a_not, a_chain, a_fn, a_lc', a_seq, a_range1, a_zip, a_sl, a_onone, a_osome, bnd_ok, bnd_no, bnd_exc, sbd_ok, sbd_no, sbd_exc, getV_some, toB_bl, toO_int, lift_some, lift_none, seqI_lst, seqI_scr, seqI_tup, seqI_str, rng1_int, zip_lst, zip_tup, onx_some, onh_some, List.getElem?_cons_zero, List.getElem?_cons_succ, List.set_cons_zero, List.set_cons_succ, o_sub, o_add, o_lt, o_le, o_gt, o_ge, o_neg, o_eqI, o_neI, o_eqB, o_neB, o_eqS, if_true, if_false, ite_true, ite_false, decide_true, decide_false, Bool.false_eq_true, Bool.true_eq_false, reduceIte, Bool.not_true, Bool.not_false])
local macro_rules | `(tactic| walk_at "evd") => `(tactic| try simp (disch := first | decide | omega) only [o_mod, o_fdiv, o_pow, o_mul_r, o_mul_l, fn_ap, List.map_cons, List.map_nil, List.length_cons, List.length_nil, List.cons_append, List.nil_append, List.append_nil, Nat.reduceAdd, Nat.reduceSub, Nat.zero_add, List.replicate_succ, List.replicate_zero, s_seq, s_set, s_asg, s_if, s_ret, s_expr, s_for, s_skip, s_par, s_par3, s_setI, thn_nx, thn_ret, thn_no, thn_brk, thn_cnt, thn_exc, a_var, a_c, a_bin, a_un, a_call, a_nil, a_cons, a_tup, a_lst, a_lstO, a_val, a_tand, a_tor, a_tnot, a_if, a_and, a_or, a_not, a_chain, a_fn, a_lc', a_seq, a_range1, a_zip, a_sl, a_onone, a_osome, bnd_ok, bnd_no, bnd_exc, sbd_ok, sbd_no, sbd_exc, getV_some, toB_bl, toO_int, lift_some, lift_none, seqI_lst, seqI_scr, seqI_tup, seqI_str, rng1_int, zip_lst, zip_tup, onx_some, onh_some, List.getElem?_cons_zero, List.getElem?_cons_succ, List.set_cons_zero, List.set_cons_succ, o_sub, o_add, o_lt, o_le, o_gt, o_ge, o_neg, o_eqI, o_neI, o_eqB, o_neB, o_eqS, if_true, if_false, ite_true, ite_false, decide_true, decide_false, Bool.false_eq_true, Bool.true_eq_false, reduceIte, Bool.not_true, Bool.not_false])
local macro_rules | `(tactic| walk_at "eva") => `(tactic| try simp only [fn_ap, List.map_cons, List.map_nil, List.length_cons, List.length_nil, List.cons_append, List.nil_append, List.append_nil, Nat.reduceAdd, Nat.reduceSub, Nat.zero_add, List.replicate_succ, List.replicate_zero, s_seq, s_set, s_asg, s_if, s_ret, s_expr, s_for, s_skip, s_par, s_par3, s_setI, thn_nx, thn_ret, thn_no, thn_brk, thn_cnt, thn_exc, a_var, a_c, a_bin, a_un, a_call, a_nil, a_cons, a_tup, a_lst, a_lstO, a_val, a_tand, a_tor, a_tnot, a_if, a_and, a_or, a_not, a_chain, a_fn, a_lc', a_seq, a_range1, a_zip, a_sl, a_onone, a_osome, bnd_ok, bnd_no, bnd_exc, sbd_ok, sbd_no, sbd_exc, getV_some, toB_bl, toO_int, lift_some, lift_none, seqI_lst, seqI_scr, seqI_tup, seqI_str, rng1_int, zip_lst, zip_tup, onx_some, onh_some, List.getElem?_cons_zero, List.getElem?_cons_succ, List.set_cons_zero, List.set_cons_succ, o_sub, o_add, o_lt, o_le, o_gt, o_ge, o_neg, o_eqI, o_neI, o_eqB, o_neB, o_eqS, if_true, if_false, ite_true, ite_false, decide_true, decide_false, Bool.false_eq_true, Bool.true_eq_false, reduceIte, Bool.not_true, Bool.not_false, isi_NoneType_list, isi_NoneType_tuple, isi_NoneType_bool, isi_NoneType_int, isi_NoneType_str, isi_bool_list, isi_bool_tuple, isi_bool_bool, isi_bool_int, isi_bool_str, isi_int_list, isi_int_tuple, isi_int_bool, isi_int_int, isi_int_str, isi_str_list, isi_str_tuple, isi_str_bool, isi_str_int, isi_str_str, isi_tuple_list, isi_tuple_tuple, isi_tuple_bool, isi_tuple_int, isi_tuple_str, isi_list_list, isi_list_tuple, isi_list_bool, isi_list_int, isi_list_str, opIsN, opNotN, VV.isObj, len_lst, len_tup, list_lst, list_tup, tuple_lst, x_lst, x_tup])
local macro_rules | `(tactic| walk_at "evad") => `(tactic| try simp (disch := first | decide | omega) only [o_mod, o_fdiv, o_pow, o_mul_r, o_mul_l, fn_ap, List.map_cons, List.map_nil, List.length_cons, List.length_nil, List.cons_append, List.nil_append, List.append_nil, Nat.reduceAdd, Nat.reduceSub, Nat.zero_add, List.replicate_succ, List.replicate_zero, s_seq, s_set, s_asg, s_if, s_ret, s_expr, s_for, s_skip, s_par, s_par3, s_setI, thn_nx, thn_ret, thn_no, thn_brk, thn_cnt, thn_exc, a_var, a_c, a_bin, a_un, a_call, a_nil, a_cons, a_tup, a_lst, a_lstO, a_val, a_tand, a_tor, a_tnot, a_if, a_and, a_or, a_not, a_chain, a_fn, a_lc', a_seq, a_range1, a_zip, a_sl, a_onone, a_osome, bnd_ok, bnd_no, bnd_exc, sbd_ok, sbd_no, sbd_exc, getV_some, toB_bl, toO_int, lift_some, lift_none, seqI_lst, seqI_scr, seqI_tup, seqI_str, rng1_int, zip_lst, zip_tup, onx_some, onh_some, List.getElem?_cons_zero, List.getElem?_cons_succ, List.set_cons_zero, List.set_cons_succ, o_sub, o_add, o_lt, o_le, o_gt, o_ge, o_neg, o_eqI, o_neI, o_eqB, o_neB, o_eqS, if_true, if_false, ite_true, ite_false, decide_true, decide_false, Bool.false_eq_true, Bool.true_eq_false, reduceIte, Bool.not_true, Bool.not_false, isi_NoneType_list, isi_NoneType_tuple, isi_NoneType_bool, isi_NoneType_int, isi_NoneType_str, isi_bool_list, isi_bool_tuple, isi_bool_bool, isi_bool_int, isi_bool_str, isi_int_list, isi_int_tuple, isi_int_bool, isi_int_int, isi_int_str, isi_str_list, isi_str_tuple, isi_str_bool, isi_str_int, isi_str_str, isi_tuple_list, isi_tuple_tuple, isi_tuple_bool, isi_tuple_int, isi_tuple_str, isi_list_list, isi_list_tuple, isi_list_bool, isi_list_int, isi_list_str, opIsN, opNotN, VV.isObj, len_lst, len_tup, list_lst, list_tup, tuple_lst, x_lst, x_tup])
/-! the drawing box -/
structure Bx where
  xs : List Int
  pos : Nat
  left : Int
  cnt : Int
  seed : Int
def Bx.v (b : Bx) : VO := .fl [.lst (b.xs.map VV.int), .int b.pos, .int b.left, .int b.cnt, .int b.seed]
theorem fmod_rng (a : Int) {m : Int} (h : 0 < m) : 0 ≤ a.fmod m ∧ a.fmod m < m := by
  rw [Int.fmod_eq_emod_of_nonneg _ (by omega)]
  exact ⟨Int.emod_nonneg _ (by omega), Int.emod_lt_of_pos _ h⟩
theorem mixed_eq (a t : Int) (h : VH) : ∃ r, F_law_mixed [.int a, .int t] h = .ok (.int r) h ∧ 0 ≤ r := by
  unfold F_law_mixed B_law_mixed
  have h1 := fmod_rng (a * 48271 + t * 69621 + 12345) (m := 2147483647) (by decide)
  walk_at "evd"
  rw [fin_ret rfl]
  refine ⟨_, rfl, ?_⟩
  rw [Int.fdiv_eq_ediv_of_nonneg _ (by decide)]
  exact Int.ediv_nonneg (fmod_rng _ (by decide)).1 (by decide)
theorem take_eq {n : Nat} {h : VH} {b : Bx} {m : Int} (hb : h[n]? = some b.v) (hm : 0 < m) (hl : m.natAbs.log2 < 9000) : ∃ r b', F_law_take [.obj n, .int m] h = .ok (.int r) (h.set n (Bx.v b')) ∧ 0 ≤ r ∧ r < m := by
  obtain ⟨xs, pos, left, cnt, seed⟩ := b
  have hn : n < h.length := lt_of_get hb
  unfold Bx.v at hb
  simp only at hb
  unfold F_law_take B_law_take
  -- count
  have hb1 : (h.set n (.fl [.lst (xs.map VV.int), .int pos, .int left, .int (cnt + 1), .int seed]))[n]? = some (.fl [.lst (xs.map VV.int), .int pos, .int left, .int (cnt + 1), .int seed]) := get_set hn
  have s1 : setI h (.obj n) (.int 3) (.int (cnt + 1)) = some (h.set n (.fl [.lst (xs.map VV.int), .int pos, .int left, .int (cnt + 1), .int seed])) := set_root (j := 3) hb rfl rfl
  walk_at "ev"
  simp only [ix_root hb, at5_3]
  walk_at "ev"
  simp only [s1]
  walk_at "ev"
  simp only [ix_root hb1, at5_2]
  walk_at "ev"
  generalize eh1 : h.set n (.fl [.lst (xs.map VV.int), .int pos, .int left, .int (cnt + 1), .int seed]) = h1 at hb1
  have hn1 : n < h1.length := by rw [← eh1, List.length_set]; exact hn
  have hl1 : h1.length = h.length := by rw [← eh1, List.length_set]
  by_cases c1 : 0 < left
  · simp only [decide_eq_true c1, reduceIte]
    walk_at "ev"
    simp only [ix_root hb1, at5_2]
    walk_at "ev"
    simp (disch := omega) only [o_fdiv (j := m) (by omega) hl, o_mod (j := m) (by omega)]
    walk_at "ev"
    have s2 : setI h1 (.obj n) (.int 2) (.int (left.fdiv m)) = some (h1.set n (.fl [.lst (xs.map VV.int), .int pos, .int (left.fdiv m), .int (cnt + 1), .int seed])) := set_root (j := 2) hb1 rfl rfl
    simp only [s2]
    walk_at "ev"
    simp (disch := omega) only [o_mod (j := m) (by omega)]
    walk_at "ev"
    rw [fin_ret (by rw [List.length_set]; exact hl1)]
    refine ⟨_, ⟨xs, pos, left.fdiv m, cnt + 1, seed⟩, ?_, fmod_rng left hm⟩
    rw [← eh1, List.set_set]; rfl
  · simp only [decide_eq_false c1, Bool.false_eq_true, reduceIte]
    walk_at "ev"
    simp only [ix_root hb1, at5_1, at5_0]
    walk_at "ev"
    simp only [ix_root hb1, at5_1, at5_0]
    walk_at "ev"
    simp only [len_lst, List.length_map]
    walk_at "ev"
    by_cases c2 : (xs.length : Int) ≤ pos
    · simp only [decide_eq_true c2, reduceIte]
      walk_at "ev"
      simp only [ix_root hb1, at5_4, at5_3]
      walk_at "ev"
      simp only [ix_root hb1, at5_4, at5_3]
      walk_at "ev"
      obtain ⟨r, er, hr⟩ := mixed_eq seed (cnt + 1) h1
      simp only [er]
      walk_at "ev"
      simp (disch := omega) only [o_mod (j := m) (by omega)]
      walk_at "ev"
      rw [fin_ret hl1]
      refine ⟨_, ⟨xs, pos, left, cnt + 1, seed⟩, ?_, fmod_rng r hm⟩
      rw [← eh1]; rfl
    · simp only [decide_eq_false c2, Bool.false_eq_true, reduceIte]
      have hp : pos < xs.length := by omega
      walk_at "ev"
      simp only [ix_root hb1, at5_1, at5_0]
      walk_at "ev"
      simp only [ix_root hb1, at5_1, at5_0]
      walk_at "ev"
      have ex : atI (xs.map VV.int) (pos : Int) = some (.int xs[pos]) := atI_in (by rw [List.getElem?_map, List.getElem?_eq_getElem hp]; rfl)
      simp only [x_lst, ex]
      walk_at "ev"
      simp only [ix_root hb1, at5_1, at5_0]
      walk_at "ev"
      have s3 : setI h1 (.obj n) (.int 1) (.int ((pos : Int) + 1)) = some (h1.set n (.fl [.lst (xs.map VV.int), .int ((pos : Int) + 1), .int left, .int (cnt + 1), .int seed])) := set_root (j := 1) hb1 rfl rfl
      simp only [s3]
      walk_at "ev"
      have hb2 : (h1.set n (.fl [.lst (xs.map VV.int), .int ((pos : Int) + 1), .int left, .int (cnt + 1), .int seed]))[n]? = some (.fl [.lst (xs.map VV.int), .int ((pos : Int) + 1), .int left, .int (cnt + 1), .int seed]) := get_set hn1
      generalize eh2 : h1.set n (.fl [.lst (xs.map VV.int), .int ((pos : Int) + 1), .int left, .int (cnt + 1), .int seed]) = h2 at hb2
      have hl2 : h2.length = h.length := by rw [← eh2, List.length_set]; exact hl1
      walk_at "evd"
      by_cases c3 : xs[pos] < 10 ^ Int.toNat 18
      · simp only [decide_eq_true c3, reduceIte]
        walk_at "ev"
        simp only [ix_root hb2, at5_3]
        walk_at "ev"
        obtain ⟨r, er, hr⟩ := mixed_eq xs[pos] (cnt + 1) h2
        simp only [er]
        walk_at "ev"
        simp (disch := omega) only [o_mod (j := m) (by omega)]
        walk_at "ev"
        rw [fin_ret hl2]
        refine ⟨_, ⟨xs, pos + 1, left, cnt + 1, seed⟩, ?_, fmod_rng r hm⟩
        rw [← eh2, ← eh1, List.set_set]; rfl
      · simp only [decide_eq_false c3, Bool.false_eq_true, reduceIte]
        walk_at "ev"
        simp (disch := omega) only [o_fdiv (j := m) (by omega) hl, o_mod (j := m) (by omega)]
        walk_at "ev"
        have s4 : setI h2 (.obj n) (.int 2) (.int (xs[pos].fdiv m)) = some (h2.set n (.fl [.lst (xs.map VV.int), .int ((pos : Int) + 1), .int (xs[pos].fdiv m), .int (cnt + 1), .int seed])) := set_root (j := 2) hb2 rfl rfl
        simp only [s4]
        walk_at "ev"
        simp (disch := omega) only [o_mod (j := m) (by omega)]
        walk_at "ev"
        rw [fin_ret (by rw [List.length_set]; exact hl2)]
        refine ⟨_, ⟨xs, pos + 1, xs[pos].fdiv m, cnt + 1, seed⟩, ?_, fmod_rng xs[pos] hm⟩
        rw [← eh2, ← eh1, List.set_set, List.set_set]; rfl
theorem cut_ints (ns : List Int) (lo hi : Option Int) : ∃ ms : List Int, cut (ns.map VV.int) lo hi = ms.map VV.int ∧ ms.length ≤ ns.length := by
  refine ⟨(ns.drop (HT.sIx ns.length 0 lo)).take (HT.sIx ns.length ns.length hi - HT.sIx ns.length 0 lo), ?_, ?_⟩
  · unfold cut
    rw [List.length_map, List.map_take, List.map_drop]
  · rw [List.length_take, List.length_drop]; omega
theorem sl_scr {h : VH} {xs : List VV} {lo hi : Option Int} : opSl h (.scr xs) lo hi = some (.lst (cut xs lo hi)) := rfl
theorem box_eq (ns : List Int) : ∃ b : Bx, F_law_box [.scr (ns.map VV.int)] [] = .ok (.obj 0) [b.v] := by
  obtain ⟨ms, em, hl⟩ := cut_ints ns none (some 63)
  unfold F_law_box B_law_box
  walk_at "ev"
  simp only [sl_scr, em]
  walk_at "ev"
  have lp := for_inv (b := bNm 2) (body := sSet 1 (eBin opMod (eBin opAdd (eBin opAdd (eBin opMul (eVar 1) (eC (.int 31))) (eVar 2)) (eC (.int 17))) (eC (.int 2147483647)))) (fun ρ h => h = [] ∧ ∃ s o, ρ = [some (.scr (ns.map VV.int)), some (.int s), o]) (xs := ms.map VV.int) (ρ := [some (.scr (ns.map VV.int)), some (.int 0), none]) (h := []) ⟨rfl, 0, none, rfl⟩ (by
    rintro x hx ρ h ⟨rfl, s, o, rfl⟩
    obtain ⟨c, _, rfl⟩ := List.mem_map.mp hx
    refine ⟨_, _, _, rfl, ?_, rfl, (s * 31 + c + 17).fmod 2147483647, some (.int c), rfl⟩
    walk_at "evd")
  obtain ⟨ρ2, h2, e2, rfl, s, o, rfl⟩ := lp
  simp only [e2]
  walk_at "ev"
  simp only [sl_scr, em]
  walk_at "eva"
  simp only [List.any_cons, List.any_nil, VV.isObj, Bool.or_false, Bool.false_eq_true, false_or, List.length_cons, List.length_nil]
  rw [if_neg (by decide)]
  walk_at "ev"
  exact ⟨⟨ms, 0, 0, 0, s⟩, rfl⟩
theorem alike_refl : ∀ (d : Nat) (v : VV) (h : VH), isD v = true → dep v < d → wide v ≤ SZ → F_law_alike d [v, v] h = .ok (.bl true) h
  | 0, v, h, _, hd, _ => by omega
  | d + 1, v, h, hv, hd, hw => by
    unfold F_law_alike B_law_alike
    have seq : ∀ xs : List VV, (∀ x ∈ xs, F_law_alike d [x, x] h = .ok (.bl true) h) → ∀ (ρ : VSt) (v : VV), lcGo (bTup 2 (bCons (bNm 2) (bCons (bNm 3) bNil))) tTrue (eFn 2 (F_law_alike d) [] (aCons (eVar 2) (aCons (eVar 3) aNil))) [some v, some v, none, none] (prs xs xs) h = .ok (List.replicate xs.length (.bl true)) h := by
      intro xs hx ρ v
      rw [prs_same]
      have := lc_const (b := bTup 2 (bCons (bNm 2) (bCons (bNm 3) bNil))) (t := tTrue) (e := eFn 2 (F_law_alike d) [] (aCons (eVar 2) (aCons (eVar 3) aNil))) (ρ := [some v, some v, none, none]) (h := h) (v := .bl true) rfl (xs := xs.map fun x => .tup [x, x]) ?_
      · rw [List.length_map] at this; exact this
      · intro x hx'
        obtain ⟨y, hy, rfl⟩ := List.mem_map.mp hx'
        refine ⟨[some v, some v, some y, some y], rfl, rfl, ?_⟩
        walk_at "ev"
        exact hx y hy
    cases v with
    | non => walk_at "eva"; rw [fin_ret rfl]
    | bl b => walk_at "eva"; rw [fin_ret rfl]
    | int b => walk_at "eva"; rw [fin_ret rfl]
    | str b => walk_at "eva"; rw [fin_ret rfl]
    | tup xs =>
      rw [isD] at hv
      rw [dep] at hd
      rw [wide] at hw
      have hx : ∀ x ∈ xs, F_law_alike d [x, x] h = .ok (.bl true) h := fun x hx => alike_refl d x h (mem_isDs hv hx) (by have := mem_deps hx; omega) (by have := mem_deps hx; omega)
      walk_at "eva"
      simp only [prs_len, if_neg (show ¬ min xs.length xs.length > SZ by omega)]
      simp only [wp, List.set_cons_zero, List.set_cons_succ, seq xs hx [] (.tup xs), afterL_ok]
      walk_at "ev"
      simp only [all_true]
      walk_at "ev"
      rw [fin_ret rfl]
    | lst xs =>
      rw [isD] at hv
      rw [dep] at hd
      rw [wide] at hw
      have hx : ∀ x ∈ xs, F_law_alike d [x, x] h = .ok (.bl true) h := fun x hx => alike_refl d x h (mem_isDs hv hx) (by have := mem_deps hx; omega) (by have := mem_deps hx; omega)
      walk_at "eva"
      simp only [prs_len, if_neg (show ¬ min xs.length xs.length > SZ by omega)]
      simp only [wp, List.set_cons_zero, List.set_cons_succ, seq xs hx [] (.lst xs), afterL_ok]
      walk_at "ev"
      simp only [all_true]
      walk_at "ev"
      rw [fin_ret rfl]
    | _ => simp [isD] at hv
theorem mulOk_big {i j : Int} (hi : i.natAbs < 2 ^ 400) (hj : j.natAbs < 2 ^ 400) : mulOk i j = true := by
  have l : ∀ n : Nat, n < 2 ^ 400 → n.log2 < 400 := fun n hn => by
    by_cases h0 : n = 0
    · subst h0; decide
    · exact (Nat.log2_lt h0).mpr hn
  unfold mulOk
  have h1 := l _ hi
  have h2 := l _ hj
  rw [decide_eq_true (p := i.natAbs.log2 + j.natAbs.log2 < 1000000) (by omega)]
  simp
theorem log_big {j : Int} (hj : j.natAbs < 2 ^ 400) : j.natAbs.log2 < 9000 := by
  by_cases h0 : j.natAbs = 0
  · rw [h0]; decide
  · exact Nat.lt_trans ((Nat.log2_lt h0).mpr hj) (by decide)
abbrev shC : TF := tVal (eBin opNe (eVar 5) (eC (.int 0)))
abbrev shB : SF := (sSeq (sSet 8 (eBin opFdiv (eVar 2) (eVar 5)))
    (sSeq (sPar 2 5 (aCons (eVar 5) (aCons (eBin opSub (eVar 2) (eBin opMul (eVar 8) (eVar 5))) aNil)))
    (sSeq (sPar 3 6 (aCons (eVar 6) (aCons (eBin opSub (eVar 3) (eBin opMul (eVar 8) (eVar 6))) aNil)))
    (sPar 4 7 (aCons (eVar 7) (aCons (eBin opSub (eVar 4) (eBin opMul (eVar 8) (eVar 7))) aNil))))))
def shS (a b both by' more left low high : Int) (tm : Option VV) : VSt := [some (.int a), some (.int b), some (.int both), some (.int by'), some (.int more), some (.int left), some (.int low), some (.int high), tm]
theorem sh_turn {a b both by' more left low high : Int} {tm : Option VV} {h : VH} (h0 : left ≠ 0) (hl : left.natAbs < 2 ^ 400) (ht : (both.fdiv left).natAbs < 2 ^ 400) (hlo : low.natAbs < 2 ^ 400) (hhi : high.natAbs < 2 ^ 400) :
    shB (shS a b both by' more left low high tm) h = .nx (shS a b left low high (both - both.fdiv left * left) (by' - both.fdiv left * low) (more - both.fdiv left * high) (some (.int (both.fdiv left)))) h := by
  unfold shB shS
  walk_at "ev"
  simp only [o_fdiv (i := both) h0 (log_big hl)]
  walk_at "ev"
  simp only [o_mul (mulOk_big ht hl)]
  walk_at "ev"
  simp only [o_mul (mulOk_big ht hlo)]
  walk_at "ev"
  simp only [o_mul (mulOk_big ht hhi)]
  walk_at "ev"
theorem sh_loop {a b : Int} {h : VH} {C : Nat} (hC : C < 2 ^ 400) : ∀ (n : Nat) (both by' more left low high : Int) (tm : Option VV), left.natAbs < n → both ≠ 0 → (0 ≤ both ∧ 0 ≤ left ∨ both ≤ 0 ∧ left ≤ 0) → by' * a + more * b = both → low * a + high * b = left →
    low.natAbs * both.natAbs + by'.natAbs * left.natAbs ≤ C → high.natAbs * both.natAbs + more.natAbs * left.natAbs ≤ C → by'.natAbs ≤ C → more.natAbs ≤ C → both.natAbs ≤ C → left.natAbs ≤ C →
    ∃ both1 by1 more1 low1 high1 tm1, whGo shC shB n (shS a b both by' more left low high tm) h = .nx (shS a b both1 by1 more1 0 low1 high1 tm1) h ∧ both1 ≠ 0 ∧ by1 * a + more1 * b = both1 ∧ both1 ∣ both ∧ both1 ∣ left ∧ by1.natAbs ≤ C ∧ more1.natAbs ≤ C ∧ both1.natAbs ≤ C
  | 0, _, _, _, _, _, _, _, h0, _, _, _, _, _, _, _, _, _, _ => by omega
  | n + 1, both, by', more, left, low, high, tm, hn, hb0, hs, e1, e2, p1, p2, q1, q2, q3, q4 => by
    rw [wh_succ]
    have hc : shC (shS a b both by' more left low high tm) h = .ok (!decide (left = 0)) h := by
      unfold shC shS; walk_at "ev"
    rw [hc, sbd_ok]
    by_cases hl0 : left = 0
    · subst hl0
      simp only [decide_true, Bool.not_true, Bool.false_eq_true, if_false]
      exact ⟨both, by', more, low, high, tm, rfl, hb0, e1, Int.dvd_refl _, Int.dvd_zero _, q1, q2, q3⟩
    · simp only [decide_eq_false hl0, Bool.not_false, if_true]
      have hbp : 0 < both.natAbs := by omega
      have hlp : 0 < left.natAbs := by omega
      have lowC : low.natAbs ≤ C := Nat.le_trans (Nat.le_mul_of_pos_right _ hbp) (Nat.le_trans (Nat.le_add_right _ _) p1)
      have highC : high.natAbs ≤ C := Nat.le_trans (Nat.le_mul_of_pos_right _ hbp) (Nat.le_trans (Nat.le_add_right _ _) p2)
      have er : both - both.fdiv left * left = both.fmod left := by
        have := Int.mul_fdiv_add_fmod both left
        rw [Int.mul_comm] at this
        omega
      -- signs
      have key : ∃ t r : Int, both.fdiv left = t ∧ both.fmod left = r ∧ 0 ≤ t ∧ both = t * left + r ∧ r.natAbs < left.natAbs ∧ (0 ≤ left ∧ 0 ≤ r ∨ left ≤ 0 ∧ r ≤ 0) := by
        refine ⟨_, _, rfl, rfl, ?_, ?_, ?_, ?_⟩
        · rcases hs with ⟨s1, s2⟩ | ⟨s1, s2⟩
          · exact Int.fdiv_nonneg s1 s2
          · rw [← Int.neg_fdiv_neg]; exact Int.fdiv_nonneg (by omega) (by omega)
        · have := Int.mul_fdiv_add_fmod both left
          rw [Int.mul_comm] at this
          omega
        · rcases hs with ⟨s1, s2⟩ | ⟨s1, s2⟩
          · have := fmod_rng both (m := left) (by omega)
            omega
          · have := fmod_rng (-both) (m := -left) (by omega)
            have e := Int.neg_fmod_neg both left
            omega
        · rcases hs with ⟨s1, s2⟩ | ⟨s1, s2⟩
          · have := fmod_rng both (m := left) (by omega)
            omega
          · have := fmod_rng (-both) (m := -left) (by omega)
            have e := Int.neg_fmod_neg both left
            omega
      obtain ⟨t, r, et, err, ht0, eb, hrl, hsr⟩ := key
      have eab : both.natAbs = t.natAbs * left.natAbs + r.natAbs := by
        rw [← Int.natAbs_mul]
        have : 0 ≤ t * left ∧ 0 ≤ r ∨ t * left ≤ 0 ∧ r ≤ 0 := by
          rcases hsr with ⟨s1, s2⟩ | ⟨s1, s2⟩
          · exact .inl ⟨Int.mul_nonneg ht0 s1, s2⟩
          · exact .inr ⟨Int.mul_nonpos_of_nonneg_of_nonpos ht0 s1, s2⟩
        omega
      have tC : t.natAbs ≤ C := Nat.le_trans (Nat.le_mul_of_pos_right _ hlp) (by omega)
      rw [sh_turn hl0 (by omega) (by rw [et]; omega) (by omega) (by omega), trn_nx, er, et, err]
      have bnd : ∀ u v : Int, v.natAbs * both.natAbs + u.natAbs * left.natAbs ≤ C → (u - t * v).natAbs * left.natAbs + v.natAbs * r.natAbs ≤ C := fun u v p => by
        have h1 : (u - t * v).natAbs ≤ u.natAbs + t.natAbs * v.natAbs := by
          rw [← Int.natAbs_mul]; omega
        have h2 : (u - t * v).natAbs * left.natAbs ≤ (u.natAbs + t.natAbs * v.natAbs) * left.natAbs := Nat.mul_le_mul_right _ h1
        have h3 : (u.natAbs + t.natAbs * v.natAbs) * left.natAbs + v.natAbs * r.natAbs = v.natAbs * both.natAbs + u.natAbs * left.natAbs := by
          rw [eab, Nat.add_mul, Nat.mul_add, Nat.mul_comm t.natAbs v.natAbs, Nat.mul_assoc]; omega
        omega
      have e3 : (by' - t * low) * a + (more - t * high) * b = r := by
        have : (by' - t * low) * a + (more - t * high) * b = (by' * a + more * b) - t * (low * a + high * b) := by
          rw [Int.sub_mul, Int.sub_mul, Int.mul_add, Int.mul_assoc, Int.mul_assoc]; omega
        rw [this, e1, e2]; omega
      obtain ⟨both1, by1, more1, low1, high1, tm1, r1, r2, r3, r4, r5, r6, r7, r8⟩ := sh_loop hC n left low high r (by' - t * low) (more - t * high) (some (.int t)) (by omega) hl0 hsr e2 e3 (bnd by' low p1) (bnd more high p2) lowC highC q4 (by omega)
      refine ⟨both1, by1, more1, low1, high1, tm1, r1, r2, r3, ?_, r4, r6, r7, r8⟩
      rw [eb]
      exact Int.dvd_add (Int.dvd_mul_of_dvd_right r4) r5
theorem share_eq {a b : Int} {h : VH} (ha : a.natAbs < 2 ^ 100) (hb : b.natAbs < 2 ^ 100) : ∃ d x y, F_share [.int a, .int b] h = .ok (.tup [.int d, .int x, .int y]) h ∧ 0 ≤ d ∧ x * a + y * b = d ∧ (d = 0 ↔ a = 0 ∧ b = 0) ∧ (0 < d → a.fmod d = 0 ∧ b.fmod d = 0) ∧ x.natAbs < 2 ^ 200 ∧ y.natAbs < 2 ^ 200 ∧ d.natAbs < 2 ^ 200 := by
  -- the loop
  have lp : ∃ both1 by1 more1 low1 high1 tm1, whGo shC shB 10000000000000000000000000000000000000000 (shS a b a 1 0 b 0 1 none) h = .nx (shS a b both1 by1 more1 0 low1 high1 tm1) h ∧ by1 * a + more1 * b = both1 ∧ (both1 = 0 ↔ a = 0 ∧ b = 0) ∧ both1 ∣ a ∧ both1 ∣ b ∧ by1.natAbs < 2 ^ 200 ∧ more1.natAbs < 2 ^ 200 ∧ both1.natAbs < 2 ^ 200 := by
    have e40 : (10000000000000000000000000000000000000000 : Nat) = 9999999999999999999999999999999999999999 + 1 := rfl
    rw [e40, wh_succ]
    have hc : shC (shS a b a 1 0 b 0 1 none) h = .ok (!decide (b = 0)) h := by
      unfold shC shS; walk_at "ev"
    rw [hc, sbd_ok]
    by_cases hb0 : b = 0
    · subst hb0
      simp only [decide_true, Bool.not_true, Bool.false_eq_true, if_false]
      exact ⟨a, 1, 0, 0, 1, none, rfl, by omega, by simp, Int.dvd_refl _, Int.dvd_zero _, by decide, by decide, by omega⟩
    · simp only [decide_eq_false hb0, Bool.not_false, if_true]
      have er : a - a.fdiv b * b = a.fmod b := by
        have := Int.mul_fdiv_add_fmod a b
        rw [Int.mul_comm] at this
        omega
      generalize et : a.fdiv b = t at er
      generalize err : a.fmod b = r at er
      have hr : r.natAbs < b.natAbs ∧ (0 ≤ b ∧ 0 ≤ r ∨ b ≤ 0 ∧ r ≤ 0) := by
        rcases Int.lt_or_lt_of_ne hb0 with s | s
        · have := fmod_rng (-a) (m := -b) (by omega)
          have e := Int.neg_fmod_neg a b
          omega
        · have := fmod_rng a (m := b) s
          omega
      have tb : t.natAbs * b.natAbs ≤ a.natAbs + b.natAbs := by
        rw [← Int.natAbs_mul]; omega
      have t1 : t.natAbs ≤ a.natAbs + b.natAbs := Nat.le_trans (Nat.le_mul_of_pos_right _ (by omega)) tb
      rw [sh_turn hb0 (by omega) (by rw [et]; omega) (by decide) (by decide), trn_nx, et, er]
      have e1 : (1 : Int) - t * 0 = 1 := by omega
      have e2 : (0 : Int) - t * 1 = -t := by omega
      rw [e1, e2]
      obtain ⟨both1, by1, more1, low1, high1, tm1, r1, r2, r3, r4, r5, r6, r7, r8⟩ := sh_loop (a := a) (b := b) (h := h) (C := 2 ^ 150) (by decide) 9999999999999999999999999999999999999999 b 0 1 r 1 (-t) (some (.int t)) (by omega) hb0 hr.2 (by omega) (by rw [Int.neg_mul]; omega) (by simp; omega) (by rw [Int.natAbs_neg]; simp; omega) (by simp) (by decide) (by omega) (by omega)
      refine ⟨both1, by1, more1, low1, high1, tm1, r1, r3, ⟨fun z => absurd z r2, fun z => absurd z.2 hb0⟩, ?_, r4, by omega, by omega, by omega⟩
      have ea : a = t * b + r := by omega
      rw [ea]
      exact Int.dvd_add (Int.dvd_mul_of_dvd_right r4) r5
  obtain ⟨both1, by1, more1, low1, high1, tm1, el, e1, e2, d1, d2, b1, b2, b3⟩ := lp
  unfold F_share B_share
  walk_at "ev"
  have el' := el
  unfold shS at el'
  simp only [el']
  walk_at "ev"
  have md : ∀ c d : Int, d ∣ c → 0 < d.natAbs → c.fmod (d.natAbs : Int) = 0 := fun c d hd hp => by
    rw [Int.fmod_eq_emod_of_nonneg _ (by omega)]
    exact Int.emod_eq_zero_of_dvd (Int.natAbs_dvd.mpr hd)
  by_cases hs : both1 < 0
  · simp only [decide_eq_true hs, reduceIte]
    walk_at "ev"
    simp only [List.any_cons, List.any_nil, VV.isObj, Bool.or_false, Bool.false_eq_true, false_or, List.length_cons, List.length_nil]
    rw [if_neg (by decide)]
    walk_at "ev"
    rw [fin_ret rfl]
    refine ⟨-both1, -by1, -more1, rfl, by omega, by rw [Int.neg_mul, Int.neg_mul]; omega, by omega, fun _ => ?_, by omega, by omega, by omega⟩
    have : -both1 = (both1.natAbs : Int) := by omega
    rw [this]
    exact ⟨md a both1 d1 (by omega), md b both1 d2 (by omega)⟩
  · simp only [decide_eq_false hs, Bool.false_eq_true, reduceIte]
    walk_at "ev"
    simp only [List.any_cons, List.any_nil, VV.isObj, Bool.or_false, Bool.false_eq_true, false_or, List.length_cons, List.length_nil]
    rw [if_neg (by decide)]
    walk_at "ev"
    rw [fin_ret rfl]
    refine ⟨both1, by1, more1, rfl, by omega, e1, e2, fun hp => ?_, b1, b2, b3⟩
    have : both1 = (both1.natAbs : Int) := by omega
    rw [this]
    exact ⟨md a both1 d1 (by omega), md b both1 d2 (by omega)⟩
theorem take0 (b : Bx) {m : Int} (hm : 0 < m) (hl : m.natAbs.log2 < 9000) : ∃ r b', F_law_take [.obj 0, .int m] [b.v] = .ok (.int r) [Bx.v b'] ∧ 0 ≤ r ∧ r < m := by
  obtain ⟨r, b', e, h1, h2⟩ := take_eq (n := 0) (h := [b.v]) (b := b) rfl hm hl
  exact ⟨r, b', e, h1, h2⟩
theorem number_eq (b : Bx) : ∃ i b', F_law_number [.obj 0] [b.v] = .ok (.int i) [Bx.v b'] ∧ i.natAbs < 2 ^ 90 := by
  unfold F_law_number B_law_number
  obtain ⟨way, b1, e1, h1, h2⟩ := take0 b (m := 8) (by decide) (by decide)
  walk_at "ev"
  simp only [e1]
  walk_at "ev"
  by_cases c1 : way < 5
  · obtain ⟨r, b2, e2, h3, h4⟩ := take0 b1 (m := 9) (by decide) (by decide)
    simp only [decide_eq_true c1, reduceIte]
    walk_at "ev"
    simp only [e2]
    walk_at "ev"
    (first | rw [fin1] | rw [fin_ret rfl])
    exact ⟨_, b2, rfl, by omega⟩
  · simp only [decide_eq_false c1, Bool.false_eq_true, reduceIte]
    walk_at "ev"
    by_cases c2 : way < 7
    · obtain ⟨r, b2, e2, h3, h4⟩ := take0 b1 (m := 2001) (by decide) (by decide)
      simp only [decide_eq_true c2, reduceIte]
      walk_at "ev"
      simp only [e2]
      walk_at "ev"
      (first | rw [fin1] | rw [fin_ret rfl])
      exact ⟨_, b2, rfl, by omega⟩
    · simp only [decide_eq_false c2, Bool.false_eq_true, reduceIte]
      obtain ⟨r, b2, e2, h3, h4⟩ := take0 b1 (m := 3) (by decide) (by decide)
      obtain ⟨r2, b3, e3, h5, h6⟩ := take0 b2 (m := 10 ^ Int.toNat 20) (by decide) (by decide)
      walk_at "evd"
      simp only [e2]
      walk_at "evd"
      simp only [e3]
      walk_at "evd"
      (first | rw [fin1] | rw [fin_ret rfl])
      refine ⟨_, b3, rfl, ?_⟩
      have e10 : (10 : Int) ^ Int.toNat 20 = 100000000000000000000 := by decide
      have e24 : (10 : Int) ^ Int.toNat 24 = 1000000000000000000000000 := by decide
      rw [e10] at h6
      rw [e24]
      have : r = 0 ∨ r = 1 ∨ r = 2 := by omega
      rcases this with rfl | rfl | rfl <;> omega
theorem rngV_mem {lo : Int} {n : Nat} {x : VV} (h : x ∈ rngV lo n) : ∃ i : Nat, i < n ∧ x = .int (lo + i) := by
  unfold rngV at h
  obtain ⟨i, hi, rfl⟩ := List.mem_map.mp h
  exact ⟨i, List.mem_range.mp hi, rfl⟩
theorem rngV_len {lo : Int} {n : Nat} : (rngV lo n).length = n := by unfold rngV; simp
theorem f2_ints {xs vs : List VV} (h : F2 (fun _ v => ∃ i : Int, v = .int i ∧ i.natAbs < 2 ^ 90) xs vs) : ∃ l : List Int, vs = l.map VV.int ∧ l.length = xs.length ∧ ∀ i ∈ l, i.natAbs < 2 ^ 90 := by
  induction h with
  | nil => exact ⟨[], rfl, rfl, fun i hi => by simp at hi⟩
  | cons hp _ ih =>
    obtain ⟨i, rfl, hi⟩ := hp
    obtain ⟨l, rfl, hl, ha⟩ := ih
    refine ⟨i :: l, rfl, by simp [hl], fun j hj => ?_⟩
    rcases List.mem_cons.mp hj with rfl | hj
    · exact hi
    · exact ha j hj
theorem numbers_eq (b : Bx) {m : Int} (h0 : 0 ≤ m) (h1 : m < 100) : ∃ (l : List Int) (b' : Bx), F_law_numbers [.obj 0, .int m] [b.v] = .ok (.lst (l.map VV.int)) [b'.v] ∧ (l.length : Int) = m ∧ ∀ i ∈ l, i.natAbs < 2 ^ 90 := by
  unfold F_law_numbers B_law_numbers
  walk_at "ev"
  rw [if_pos ⟨by omega, by omega⟩]
  walk_at "ev"
  rw [if_neg (by rw [rngV_len]; show ¬ m.toNat > 16777216; omega)]
  obtain ⟨vs, h', e, ⟨b', rfl⟩, hp⟩ := lc_inv (b := bNm 2) (t := tTrue) (e := eFn 1 F_law_number [] (aCons (eVar 0) aNil)) (ρ := wp [some (.obj 0), some (.int m), none] [2]) (fun h => ∃ b : Bx, h = [b.v]) (fun _ v => ∃ i : Int, v = .int i ∧ i.natAbs < 2 ^ 90) (xs := rngV 0 m.toNat) (h := [b.v]) ⟨b, rfl⟩ (by
    rintro x hx h ⟨b, rfl⟩
    obtain ⟨i, b', e, hi⟩ := number_eq b
    refine ⟨_, .int i, [b'.v], rfl, rfl, ?_, rfl, ⟨b', rfl⟩, i, rfl, hi⟩
    simp only [wp]
    walk_at "ev"
    exact e)
  obtain ⟨l, rfl, hl, ha⟩ := f2_ints hp
  rw [e, afterL_ok]
  walk_at "ev"
  (first | rw [fin1] | rw [fin_ret rfl])
  exact ⟨l, b', rfl, by rw [hl, rngV_len]; omega, ha⟩
theorem drawn_rests_eq (b : Bx) : ∃ (r : Int) (b' : Bx), F_law_drawn_rests [.obj 0] [b.v] = .ok (.int r) [b'.v] ∧ 0 ≤ r ∧ r ≤ 60 := by
  unfold F_law_drawn_rests B_law_drawn_rests
  obtain ⟨way, b1, e1, h1, h2⟩ := take0 b (m := 5) (by decide) (by decide)
  walk_at "ev"
  simp only [e1]
  walk_at "ev"
  by_cases c1 : way < 2
  · simp only [decide_eq_true c1, reduceIte]
    walk_at "ev"
    (first | rw [fin1] | rw [fin_ret rfl])
    exact ⟨_, b1, rfl, by omega, by omega⟩
  · simp only [decide_eq_false c1, Bool.false_eq_true, reduceIte]
    obtain ⟨r, b2, e2, h3, h4⟩ := take0 b1 (m := 59) (by decide) (by decide)
    walk_at "ev"
    simp only [e2]
    walk_at "ev"
    simp only [List.any_cons, List.any_nil, VV.isObj, Bool.or_false, Bool.false_eq_true, false_or, List.length_cons, List.length_nil]
    rw [if_neg (by decide)]
    walk_at "eva"
    have : way = 2 ∨ way = 3 ∨ way = 4 := by omega
    rcases this with rfl | rfl | rfl
    · exact ⟨2, b2, rfl, by omega, by omega⟩
    · exact ⟨3, b2, rfl, by omega, by omega⟩
    · exact ⟨2 + r, b2, rfl, by omega, by omega⟩
def restI (r i : Int) : Int := if r = 0 then i else i.fmod r
theorem rest_eq {a b : Int} {h : VH} : F_rest [.int a, .int b] h = .ok (.int (restI b a)) h := by
  unfold F_rest B_rest restI
  by_cases e : b = 0
  · subst e
    walk_at "ev"
    (first | rw [fin1] | rw [fin_ret rfl])
  · walk_at "ev"
    simp only [decide_eq_false e, Bool.false_eq_true, if_neg e, reduceIte, o_mod e]
    walk_at "ev"
    (first | rw [fin1] | rw [fin_ret rfl])
theorem law_rest_eq {a b : Int} {h : VH} : F_law_rest [.int a, .int b] h = .ok (.int (restI b a)) h := by
  unfold F_law_rest B_law_rest restI
  by_cases e : b = 0
  · subst e
    walk_at "ev"
    (first | rw [fin1] | rw [fin_ret rfl])
  · walk_at "ev"
    simp only [decide_eq_false e, Bool.false_eq_true, if_neg e, reduceIte, o_mod e]
    walk_at "ev"
    (first | rw [fin1] | rw [fin_ret rfl])
def onI (f : Int → Int) : VV → VV
  | .int i => .int (f i)
  | v => v
theorem map_onI (f : Int → Int) (l : List Int) : (l.map VV.int).map (onI f) = (l.map f).map VV.int := by
  rw [List.map_map, List.map_map]; rfl
theorem mem_int {l : List Int} {x : VV} (h : x ∈ l.map VV.int) : ∃ i ∈ l, x = .int i := by
  obtain ⟨i, hi, rfl⟩ := List.mem_map.mp h
  exact ⟨i, hi, rfl⟩
theorem rested_eq {l : List Int} {r : Int} {h : VH} (hl : l.length ≤ SZ) : F_rested [.lst (l.map VV.int), .int r] h = .ok (.lst ((l.map (restI r)).map VV.int)) h := by
  unfold F_rested B_rested
  walk_at "ev"
  rw [if_neg (by rw [List.length_map]; omega), lc_pure (onI (restI r)) (fun x hx => ?_), afterL_ok, map_onI]
  · walk_at "ev"
    (first | rw [fin1] | rw [fin_ret rfl])
  · obtain ⟨i, _, rfl⟩ := mem_int hx
    refine ⟨_, rfl, rfl, ?_, rfl⟩
    simp only [wp]
    walk_at "ev"
    exact rest_eq
theorem law_rested_eq {l : List Int} {r : Int} {h : VH} (hl : l.length ≤ SZ) : F_law_rested [.lst (l.map VV.int), .int r] h = .ok (.lst ((l.map (restI r)).map VV.int)) h := by
  unfold F_law_rested B_law_rested
  walk_at "ev"
  rw [if_neg (by rw [List.length_map]; omega), lc_pure (onI (restI r)) (fun x hx => ?_), afterL_ok, map_onI]
  · walk_at "ev"
    (first | rw [fin1] | rw [fin_ret rfl])
  · obtain ⟨i, _, rfl⟩ := mem_int hx
    refine ⟨_, rfl, rfl, ?_, rfl⟩
    simp only [wp]
    walk_at "ev"
    exact law_rest_eq
def dot (l m : List Int) : Int := ((l.zip m).map fun p => p.1 * p.2).sum
def onP : VV → VV
  | .tup [.int i, .int j] => .int (i * j)
  | v => v
theorem lc_dot {l m : List Int} {h : VH} {ρ : VSt} {x0 x1 : Option VV} (hl : ∀ i ∈ l, i.natAbs < 2 ^ 90) (hm : ∀ i ∈ m, i.natAbs < 2 ^ 90) :
    lcGo (bTup 2 (bCons (bNm 2) (bCons (bNm 3) bNil))) tTrue (eBin opMul (eVar 2) (eVar 3)) [x0, x1, none, none] (prs (l.map VV.int) (m.map VV.int)) h = .ok (((l.zip m).map fun p => p.1 * p.2).map VV.int) h := by
  rw [prs_ints, lc_pure onP (fun x hx => ?_)]
  · rw [List.map_map, List.map_map]; rfl
  · obtain ⟨⟨i, j⟩, hp, rfl⟩ := List.mem_map.mp hx
    have h1 := hl i (List.of_mem_zip hp).1
    have h2 := hm j (List.of_mem_zip hp).2
    refine ⟨[x0, x1, some (.int i), some (.int j)], rfl, rfl, ?_, rfl⟩
    walk_at "ev"
    simp only [o_mul (mulOk_big (Nat.lt_trans h1 (by decide)) (Nat.lt_trans h2 (by decide)))]
    rfl
theorem paired_eq {l m : List Int} {h : VH} (hl : ∀ i ∈ l, i.natAbs < 2 ^ 90) (hm : ∀ i ∈ m, i.natAbs < 2 ^ 90) (hz : l.length ≤ SZ) : F_paired [.lst (l.map VV.int), .lst (m.map VV.int)] h = .ok (.int (dot l m)) h := by
  unfold F_paired B_paired
  walk_at "ev"
  rw [if_neg (by rw [prs_len, List.length_map]; omega)]
  simp only [wp, List.set_cons_zero, List.set_cons_succ]
  rw [lc_dot (ρ := []) hl hm, afterL_ok]
  walk_at "ev"
  simp only [sum_ints]
  walk_at "ev"
  (first | rw [fin1] | rw [fin_ret rfl]); rfl
theorem law_sum_eq {l m : List Int} {h : VH} (hl : ∀ i ∈ l, i.natAbs < 2 ^ 90) (hm : ∀ i ∈ m, i.natAbs < 2 ^ 90) (hz : l.length ≤ SZ) : F_law_sum [.lst (l.map VV.int), .lst (m.map VV.int)] h = .ok (.int (dot l m)) h := by
  unfold F_law_sum B_law_sum
  walk_at "ev"
  rw [if_neg (by rw [prs_len, List.length_map]; omega)]
  simp only [wp, List.set_cons_zero, List.set_cons_succ]
  rw [lc_dot (ρ := []) hl hm, afterL_ok]
  walk_at "ev"
  simp only [sum_ints]
  walk_at "ev"
  (first | rw [fin1] | rw [fin_ret rfl]); rfl
theorem whole_list_eq {l : List Int} {n : Int} {h : VH} (hn : (l.length : Int) = n) (hz : l.length ≤ SZ) : F_law_whole_list [.lst (l.map VV.int), .int n] h = .ok (.bl true) h := by
  unfold F_law_whole_list B_law_whole_list
  walk_at "eva"
  simp only [List.length_map, hn, decide_true, Bool.not_true, Bool.false_eq_true, reduceIte]
  walk_at "eva"
  rw [if_neg (by rw [List.length_map]; omega), lc_const (v := .bl true) rfl (fun x hx => ?_), afterL_ok]
  · walk_at "ev"
    simp only [all_true]
    walk_at "ev"
    (first | rw [fin1] | rw [fin_ret rfl])
  · obtain ⟨i, _, rfl⟩ := mem_int hx
    refine ⟨_, rfl, rfl, ?_⟩
    simp only [wp]
    walk_at "eva"
end L

namespace L
open PySem L2 J
local macro_rules | `(tactic| walk_at "ev") => `(tactic| try simp only [fn_ap, List.map_cons, List.map_nil, List.length_cons, List.length_nil, List.cons_append, List.nil_append, List.append_nil, Nat.reduceAdd, Nat.reduceSub, Nat.zero_add, List.replicate_succ, List.replicate_zero, s_seq, s_set, s_asg, s_if, s_ret, s_expr, s_for, s_skip, s_par, s_par3, s_setI, thn_nx, thn_ret, thn_no, thn_brk, thn_cnt, thn_exc, a_var, a_c, a_bin, a_un, a_call, a_nil, a_cons, a_tup, a_lst, a_lstO, a_val, a_tand, a_tor, a_tnot, a_if, a_and, a_or, a_not, a_chain, a_fn, a_lc', a_seq, a_range1, a_zip, a_sl, a_onone, a_osome, bnd_ok, bnd_no, bnd_exc, sbd_ok, sbd_no, sbd_exc, getV_some, toB_bl, toO_int, lift_some, lift_none, seqI_lst, seqI_scr, seqI_tup, seqI_str, rng1_int, zip_lst, zip_tup, onx_some, onh_some, List.getElem?_cons_zero, List.getElem?_cons_succ, List.set_cons_zero, List.set_cons_succ, o_sub, o_add, o_lt, o_le, o_gt, o_ge, o_neg, o_eqI, o_neI, o_eqB, o_neB, o_eqS, if_true, if_false, ite_true, ite_false, decide_true, decide_false, Bool.false_eq_true, Bool.true_eq_false, reduceIte, Bool.not_true, Bool.not_false])
local macro_rules | `(tactic| walk_at "evd") => `(tactic| try simp (disch := first | decide | omega) only [o_mod, o_fdiv, o_pow, o_mul_r, o_mul_l, fn_ap, List.map_cons, List.map_nil, List.length_cons, List.length_nil, List.cons_append, List.nil_append, List.append_nil, Nat.reduceAdd, Nat.reduceSub, Nat.zero_add, List.replicate_succ, List.replicate_zero, s_seq, s_set, s_asg, s_if, s_ret, s_expr, s_for, s_skip, s_par, s_par3, s_setI, thn_nx, thn_ret, thn_no, thn_brk, thn_cnt, thn_exc, a_var, a_c, a_bin, a_un, a_call, a_nil, a_cons, a_tup, a_lst, a_lstO, a_val, a_tand, a_tor, a_tnot, a_if, a_and, a_or, a_not, a_chain, a_fn, a_lc', a_seq, a_range1, a_zip, a_sl, a_onone, a_osome, bnd_ok, bnd_no, bnd_exc, sbd_ok, sbd_no, sbd_exc, getV_some, toB_bl, toO_int, lift_some, lift_none, seqI_lst, seqI_scr, seqI_tup, seqI_str, rng1_int, zip_lst, zip_tup, onx_some, onh_some, List.getElem?_cons_zero, List.getElem?_cons_succ, List.set_cons_zero, List.set_cons_succ, o_sub, o_add, o_lt, o_le, o_gt, o_ge, o_neg, o_eqI, o_neI, o_eqB, o_neB, o_eqS, if_true, if_false, ite_true, ite_false, decide_true, decide_false, Bool.false_eq_true, Bool.true_eq_false, reduceIte, Bool.not_true, Bool.not_false])
local macro_rules | `(tactic| walk_at "eva") => `(tactic| try simp only [fn_ap, List.map_cons, List.map_nil, List.length_cons, List.length_nil, List.cons_append, List.nil_append, List.append_nil, Nat.reduceAdd, Nat.reduceSub, Nat.zero_add, List.replicate_succ, List.replicate_zero, s_seq, s_set, s_asg, s_if, s_ret, s_expr, s_for, s_skip, s_par, s_par3, s_setI, thn_nx, thn_ret, thn_no, thn_brk, thn_cnt, thn_exc, a_var, a_c, a_bin, a_un, a_call, a_nil, a_cons, a_tup, a_lst, a_lstO, a_val, a_tand, a_tor, a_tnot, a_if, a_and, a_or, a_not, a_chain, a_fn, a_lc', a_seq, a_range1, a_zip, a_sl, a_onone, a_osome, bnd_ok, bnd_no, bnd_exc, sbd_ok, sbd_no, sbd_exc, getV_some, toB_bl, toO_int, lift_some, lift_none, seqI_lst, seqI_scr, seqI_tup, seqI_str, rng1_int, zip_lst, zip_tup, onx_some, onh_some, List.getElem?_cons_zero, List.getElem?_cons_succ, List.set_cons_zero, List.set_cons_succ, o_sub, o_add, o_lt, o_le, o_gt, o_ge, o_neg, o_eqI, o_neI, o_eqB, o_neB, o_eqS, if_true, if_false, ite_true, ite_false, decide_true, decide_false, Bool.false_eq_true, Bool.true_eq_false, reduceIte, Bool.not_true, Bool.not_false, isi_NoneType_list, isi_NoneType_tuple, isi_NoneType_bool, isi_NoneType_int, isi_NoneType_str, isi_bool_list, isi_bool_tuple, isi_bool_bool, isi_bool_int, isi_bool_str, isi_int_list, isi_int_tuple, isi_int_bool, isi_int_int, isi_int_str, isi_str_list, isi_str_tuple, isi_str_bool, isi_str_int, isi_str_str, isi_tuple_list, isi_tuple_tuple, isi_tuple_bool, isi_tuple_int, isi_tuple_str, isi_list_list, isi_list_tuple, isi_list_bool, isi_list_int, isi_list_str, opIsN, opNotN, VV.isObj, len_lst, len_tup, list_lst, list_tup, tuple_lst, x_lst, x_tup])
local macro_rules | `(tactic| walk_at "evad") => `(tactic| try simp (disch := first | decide | omega) only [o_mod, o_fdiv, o_pow, o_mul_r, o_mul_l, fn_ap, List.map_cons, List.map_nil, List.length_cons, List.length_nil, List.cons_append, List.nil_append, List.append_nil, Nat.reduceAdd, Nat.reduceSub, Nat.zero_add, List.replicate_succ, List.replicate_zero, s_seq, s_set, s_asg, s_if, s_ret, s_expr, s_for, s_skip, s_par, s_par3, s_setI, thn_nx, thn_ret, thn_no, thn_brk, thn_cnt, thn_exc, a_var, a_c, a_bin, a_un, a_call, a_nil, a_cons, a_tup, a_lst, a_lstO, a_val, a_tand, a_tor, a_tnot, a_if, a_and, a_or, a_not, a_chain, a_fn, a_lc', a_seq, a_range1, a_zip, a_sl, a_onone, a_osome, bnd_ok, bnd_no, bnd_exc, sbd_ok, sbd_no, sbd_exc, getV_some, toB_bl, toO_int, lift_some, lift_none, seqI_lst, seqI_scr, seqI_tup, seqI_str, rng1_int, zip_lst, zip_tup, onx_some, onh_some, List.getElem?_cons_zero, List.getElem?_cons_succ, List.set_cons_zero, List.set_cons_succ, o_sub, o_add, o_lt, o_le, o_gt, o_ge, o_neg, o_eqI, o_neI, o_eqB, o_neB, o_eqS, if_true, if_false, ite_true, ite_false, decide_true, decide_false, Bool.false_eq_true, Bool.true_eq_false, reduceIte, Bool.not_true, Bool.not_false, isi_NoneType_list, isi_NoneType_tuple, isi_NoneType_bool, isi_NoneType_int, isi_NoneType_str, isi_bool_list, isi_bool_tuple, isi_bool_bool, isi_bool_int, isi_bool_str, isi_int_list, isi_int_tuple, isi_int_bool, isi_int_int, isi_int_str, isi_str_list, isi_str_tuple, isi_str_bool, isi_str_int, isi_str_str, isi_tuple_list, isi_tuple_tuple, isi_tuple_bool, isi_tuple_int, isi_tuple_str, isi_list_list, isi_list_tuple, isi_list_bool, isi_list_int, isi_list_str, opIsN, opNotN, VV.isObj, len_lst, len_tup, list_lst, list_tup, tuple_lst, x_lst, x_tup])
theorem timed_eq {t : List (List Int)} {l : List Int} {h : VH} (ht : ∀ m ∈ t, (∀ i ∈ m, i.natAbs < 2 ^ 90) ∧ m.length ≤ SZ) (hl : ∀ i ∈ l, i.natAbs < 2 ^ 90) (hz : t.length ≤ SZ) :
    F_timed [.lst (t.map fun m => .lst (m.map VV.int)), .lst (l.map VV.int)] h = .ok (.lst ((t.map fun m => dot m l).map VV.int)) h := by
  unfold F_timed B_timed
  walk_at "ev"
  rw [if_neg (by rw [List.length_map]; omega)]
  have key : ∀ t : List (List Int), (∀ m ∈ t, (∀ i ∈ m, i.natAbs < 2 ^ 90) ∧ m.length ≤ SZ) → ∀ x0, lcGo (bNm 2) tTrue le_timed_1 [x0, some (.lst (l.map VV.int)), none] (t.map fun m => .lst (m.map VV.int)) h = .ok ((t.map fun m => dot m l).map VV.int) h := by
    intro t
    induction t with
    | nil => intro _ _; rfl
    | cons m t ih =>
      intro ht x0
      have hm := ht m List.mem_cons_self
      have e : le_timed_1 [x0, some (.lst (l.map VV.int)), some (.lst (m.map VV.int))] h = .ok (.int (dot m l)) h := by
        unfold le_timed_1
        walk_at "ev"
        exact paired_eq hm.1 hl hm.2
      rw [List.map_cons, lcGo]
      simp only [bNm_ap, List.set_cons_zero, List.set_cons_succ, tTrue, bnd_ok, bind_ok, if_true, e, VV.isObj, Bool.false_eq_true, if_false, ih (fun m hm => ht m (List.mem_cons_of_mem _ hm)) x0, List.map_cons]
  simp only [wp, List.set_cons_zero, List.set_cons_succ]
  rw [key t ht, afterL_ok]
  walk_at "ev"
  rw [fin_ret rfl]
theorem table_eq {l : List Int} {x : List (Option VV)} (xs : List VV) : ∀ (b : Bx) (m : Int), 0 ≤ m → m < 100 → ∀ ρ : VSt, ρ[1]? = some (some (.obj 0)) → ρ[3]? = some (some (.int m)) →
    ∃ (t : List (List Int)) (b' : Bx), lcGo (bNm 2) tTrue le_law_1 ρ xs [b.v] = .ok (t.map fun m => .lst (m.map VV.int)) [b'.v] ∧ t.length = xs.length ∧ ∀ r ∈ t, (∀ i ∈ r, i.natAbs < 2 ^ 90) ∧ r.length ≤ SZ := by
  induction xs with
  | nil => intro b m _ _ ρ _ _; exact ⟨[], b, rfl, rfl, fun r hr => by simp at hr⟩
  | cons y ys ih =>
    intro b m h0 h1 ρ e1 e2
    obtain ⟨r, b1, e3, hr1, hr2⟩ := numbers_eq b h0 h1
    obtain ⟨t, b2, e4, ht1, ht2⟩ := ih b1 m h0 h1 ρ e1 e2
    have e : le_law_1 (ρ.set 2 (some y)) [b.v] = .ok (.lst (r.map VV.int)) [b1.v] := by
      unfold le_law_1
      walk_at "ev"
      rw [List.getElem?_set_ne (by decide), List.getElem?_set_ne (by decide), e1, e2]
      walk_at "ev"
      exact e3
    refine ⟨r :: t, b2, ?_, by simp [ht1], fun q hq => ?_⟩
    · rw [lcGo]
      simp only [bNm_ap, tTrue, bnd_ok, bind_ok, if_true, e, VV.isObj, Bool.false_eq_true, if_false, e4, List.map_cons]
    · rcases List.mem_cons.mp hq with rfl | hq
      · exact ⟨hr2, by show q.length ≤ 16777216; omega⟩
      · exact ht2 q hq
theorem alike_ints {l : List Int} {h : VH} (hl : l.length ≤ SZ) : F_law_alike 4 [.lst (l.map VV.int), .lst (l.map VV.int)] h = .ok (.bl true) h :=
  alike_refl 4 _ h (by rw [isD]; exact isDs_ints l) (by rw [dep, (deps_ints l).1]; decide) (by rw [wide, (deps_ints l).2, List.length_map]; exact Nat.max_le.mpr ⟨hl, Nat.zero_le _⟩)
theorem alike_int {i : Int} {h : VH} : F_law_alike 4 [.int i, .int i] h = .ok (.bl true) h :=
  alike_refl 4 _ h (by rw [isD]) (by rw [dep] <;> first | decide | (intros; contradiction)) (by rw [wide] <;> first | decide | (intros; contradiction))
theorem at3 {a b c : VV} {i : Int} (h0 : 0 ≤ i) (h1 : i < 3) : ∃ v, atI [a, b, c] i = some v ∧ (v = a ∨ v = b ∨ v = c) := by
  have : i = 0 ∨ i = 1 ∨ i = 2 := by omega
  rcases this with rfl | rfl | rfl
  · exact ⟨a, rfl, .inl rfl⟩
  · exact ⟨b, rfl, .inr (.inl rfl)⟩
  · exact ⟨c, rfl, .inr (.inr rfl)⟩
theorem law_turn (s : VV) (k : VV) (o2 o8 o9 o10 o11 o12 o13 : Option VV) (b : Bx) : ∃ o8' o9' o10' o11' o12' o13' b', lb_law_1 [some s, some (.obj 0), some k, none, none, none, none, none, o8, o9, o10, o11, o12, o13, none] [b.v] = .nx [some s, some (.obj 0), some k, none, none, none, none, none, o8', o9', o10', o11', o12', o13', none] [Bx.v b'] := by
  obtain ⟨one, b1, e1, h1⟩ := number_eq b
  obtain ⟨num, b2, e2, h2⟩ := number_eq b1
  obtain ⟨r9, b3, e3, h3, h3'⟩ := take0 b2 (m := 9) (by decide) (by decide)
  obtain ⟨r3, b4, e4, h4, h4'⟩ := take0 b3 (m := 3) (by decide) (by decide)
  have m1 : mulOk one (r9 - 4) = true := by unfold mulOk; rw [decide_eq_true (p := (r9 - 4).natAbs < 2 ^ 64) (by omega)]; simp
  obtain ⟨v, ev, hv⟩ := at3 (a := .int num) (b := .int (one * (r9 - 4))) (c := .int 0) h4 h4'
  have hoth : ∃ other : Int, v = .int other ∧ other.natAbs < 2 ^ 100 := by
    rcases hv with rfl | rfl | rfl
    · exact ⟨num, rfl, by omega⟩
    · refine ⟨_, rfl, ?_⟩
      rw [Int.natAbs_mul]
      have q : (r9 - 4).natAbs ≤ 4 := by omega
      have := Nat.mul_le_mul (Nat.le_of_lt h1) q
      have h90 : (2 : Nat) ^ 90 * 4 < 2 ^ 100 := by decide
      omega
    · exact ⟨0, rfl, by decide⟩
  obtain ⟨other, rfl, ho⟩ := hoth
  obtain ⟨d, x, y, es, d0, dxy, dz, dm, bx, by', bd⟩ := share_eq (a := one) (b := other) (h := [b4.v]) (by omega) ho
  unfold lb_law_1
  walk_at "ev"
  simp only [e1]
  walk_at "ev"
  simp only [e2]
  walk_at "ev"
  simp only [e3]
  walk_at "ev"
  simp only [o_mul m1]
  walk_at "ev"
  simp only [List.any_cons, List.any_nil, VV.isObj, Bool.or_false, Bool.false_eq_true, false_or, List.length_cons, List.length_nil]
  rw [if_neg (by decide)]
  walk_at "ev"
  simp only [e4]
  walk_at "ev"
  simp only [x_lst, ev]
  walk_at "ev"
  simp only [es]
  walk_at "eva"
  have wl : F_law_whole_list [.lst [.int d, .int x, .int y], .int 3] [b4.v] = .ok (.bl true) [b4.v] := whole_list_eq (l := [d, x, y]) rfl (by show 3 ≤ 16777216; decide)
  simp only [wl]
  walk_at "eva"
  simp only [bTup_ap, List.length_cons, List.length_nil, bCons_ap, bNm_ap, Option.bind_some, bNil_ap]
  walk_at "eva"
  simp only [decide_eq_false (show ¬ d < 0 by omega), Bool.false_eq_true, reduceIte]
  walk_at "eva"
  have m2 : mulOk x one = true := mulOk_big (Nat.lt_trans bx (by decide)) (Nat.lt_trans h1 (by decide))
  have m3 : mulOk y other = true := mulOk_big (Nat.lt_trans by' (by decide)) (Nat.lt_trans ho (by decide))
  simp only [o_mul m2, o_mul m3]
  walk_at "eva"
  try simp only [o_mul m2, o_mul m3]
  walk_at "eva"
  simp only [dxy, decide_true, Bool.not_true, Bool.false_eq_true, reduceIte]
  walk_at "eva"
  have hand : (if decide (one = 0) = true then Res.ok (VV.bl (decide (other = 0))) [b4.v] else Res.ok (VV.bl false) [b4.v]) = Res.ok (VV.bl (decide (d = 0))) [b4.v] := by
    by_cases c0 : d = 0
    · obtain ⟨z1, z2⟩ := dz.mp c0
      rw [decide_eq_true z1, decide_eq_true z2, decide_eq_true c0, if_pos rfl]
    · rw [decide_eq_false c0]
      by_cases z1 : one = 0
      · have z2 : ¬ other = 0 := fun z2 => c0 (dz.mpr ⟨z1, z2⟩)
        rw [decide_eq_true z1, decide_eq_false z2, if_pos rfl]
      · rw [decide_eq_false z1, if_neg Bool.false_ne_true]
  simp only [hand]
  walk_at "eva"
  by_cases c1 : 0 < d
  · obtain ⟨f1, f2⟩ := dm c1
    simp only [decide_eq_true c1, reduceIte]
    walk_at "eva"
    simp only [o_mod (j := d) (by omega), f1, f2]
    walk_at "eva"
    try simp only [o_mod (j := d) (by omega), f1, f2]
    walk_at "eva"
    exact ⟨_, _, _, _, _, _, b4, rfl⟩
  · simp only [decide_eq_false c1, Bool.false_eq_true, reduceIte]
    walk_at "eva"
    exact ⟨_, _, _, _, _, _, b4, rfl⟩
theorem law_true : ∀ ns : List Int, ns.length ≤ 63 → (∀ z ∈ ns, Builtin.Int.intBits z ≤ 1048576) → ∃ h', F_law [.scr (ns.map VV.int)] [] = .ok (.bl true) h' := by
  intro ns _ _
  obtain ⟨b0, e0⟩ := box_eq ns
  unfold F_law B_law
  walk_at "ev"
  simp only [e0]
  walk_at "ev"
  rw [if_pos (by decide)]
  walk_at "ev"
  obtain ⟨ρ2, h2, e2, b1, o2, o8, o9, o10, o11, o12, o13, rfl, rfl⟩ := for_inv (b := bNm 2) (body := lb_law_1) (fun ρ h => ∃ (b : Bx) (o2 o8 o9 o10 o11 o12 o13 : Option VV), h = [b.v] ∧ ρ = [some (.scr (ns.map VV.int)), some (.obj 0), o2, none, none, none, none, none, o8, o9, o10, o11, o12, o13, none]) (xs := rngV 0 (Int.toNat 4)) (ρ := [some (.scr (ns.map VV.int)), some (.obj 0), none, none, none, none, none, none, none, none, none, none, none, none, none]) (h := [b0.v]) ⟨b0, none, none, none, none, none, none, none, rfl, rfl⟩ (by
    rintro x hx ρ h ⟨b, o2, o8, o9, o10, o11, o12, o13, rfl, rfl⟩
    obtain ⟨p8, p9, p10, p11, p12, p13, b', e⟩ := law_turn (.scr (ns.map VV.int)) x o2 o8 o9 o10 o11 o12 o13 b
    exact ⟨_, _, _, rfl, e, b', some x, p8, p9, p10, p11, p12, p13, rfl, rfl⟩)
  simp only [e2]
  walk_at "ev"
  obtain ⟨many, b2, e3, m0, m1⟩ := take0 b1 (m := 10) (by decide) (by decide)
  simp only [e3]
  walk_at "ev"
  obtain ⟨row, b3, e4, hr1, hr2⟩ := numbers_eq b2 (m := many) m0 (by omega)
  simp only [e4]
  walk_at "ev"
  obtain ⟨four, b4, e5, q0, q1⟩ := take0 b3 (m := 4) (by decide) (by decide)
  simp only [e5]
  walk_at "ev"
  rw [if_pos ⟨by omega, by omega⟩]
  walk_at "ev"
  rw [if_neg (by rw [rngV_len]; show ¬ four.toNat > 16777216; omega)]
  simp only [wp, List.set_cons_zero, List.set_cons_succ]
  obtain ⟨t, b5, e6, ht1, ht2⟩ := table_eq (l := []) (x := []) (rngV 0 four.toNat) b4 many m0 (by omega) [some (.scr (ns.map VV.int)), some (.obj 0), none, some (.int many), some (.lst (row.map VV.int)), none, none, none, o8, o9, o10, o11, o12, o13, none] rfl rfl
  have tz : t.length ≤ SZ := by rw [ht1, rngV_len]; show four.toNat ≤ 16777216; omega
  have rz : row.length ≤ SZ := by show row.length ≤ 16777216; omega
  simp only [e6, afterL_ok]
  walk_at "eva"
  obtain ⟨r, b6, e7, r0, r1⟩ := drawn_rests_eq b5
  simp only [e7]
  walk_at "eva"
  have nz : ¬ (row.map VV.int).length > SZ := by rw [List.length_map]; omega
  have nt : ¬ (t.map fun m => VV.lst (m.map VV.int)).length > SZ := by rw [List.length_map]; omega
  have l0 : ∀ l : List Int, l.map (restI 0) = l := fun l => by
    have : restI 0 = id := by funext i; unfold restI; rw [if_pos rfl]; rfl
    rw [this, List.map_id]
  -- rest by rest
  rw [if_neg nz, lc_pure (onI (restI r)) (fun x hx => by
    obtain ⟨i, _, rfl⟩ := mem_int hx
    refine ⟨_, rfl, rfl, ?_, rfl⟩
    simp only [wp]
    walk_at "ev"
    exact rest_eq), afterL_ok, map_onI]
  walk_at "eva"
  simp only [law_rested_eq rz]
  walk_at "eva"
  simp only [alike_ints (show (row.map (restI r)).length ≤ SZ by rw [List.length_map]; exact rz)]
  walk_at "eva"
  simp only [rested_eq rz]
  walk_at "eva"
  simp only [law_rested_eq rz]
  walk_at "eva"
  simp only [alike_ints (show (row.map (restI r)).length ≤ SZ by rw [List.length_map]; exact rz)]
  walk_at "eva"
  simp only [rested_eq rz, l0]
  walk_at "eva"
  simp only [alike_ints rz]
  walk_at "eva"
  -- the table
  rw [if_neg nt, lc_pure (fun v => v) (fun x hx => by
    obtain ⟨m, _, rfl⟩ := List.mem_map.mp hx
    refine ⟨_, rfl, rfl, ?_, rfl⟩
    simp only [wp]
    walk_at "eva"), afterL_ok, List.map_id']
  walk_at "eva"
  simp only [timed_eq ht2 hr2 tz]
  walk_at "eva"
  rw [if_neg nt]
  have key : ∀ t : List (List Int), (∀ m ∈ t, (∀ i ∈ m, i.natAbs < 2 ^ 90) ∧ m.length ≤ SZ) → ∀ ρ : VSt, ρ.length = 15 → ρ[4]? = some (some (.lst (row.map VV.int))) → lcGo (bNm 14) tTrue le_law_3 ρ (t.map fun m => .lst (m.map VV.int)) [b6.v] = .ok ((t.map fun m => dot m row).map VV.int) [b6.v] := by
    intro t
    induction t with
    | nil => intro _ _ _ _; rfl
    | cons m t ih =>
      intro ht ρ hl e4
      have hm := ht m List.mem_cons_self
      have e : le_law_3 (ρ.set 14 (some (.lst (m.map VV.int)))) [b6.v] = .ok (.int (dot m row)) [b6.v] := by
        unfold le_law_3
        walk_at "ev"
        have g14 : (ρ.set 14 (some (.lst (m.map VV.int))))[14]? = some (some (.lst (m.map VV.int))) := List.getElem?_set_self (by omega)
        have g4 : (ρ.set 14 (some (.lst (m.map VV.int))))[4]? = some (some (.lst (row.map VV.int))) := by rw [List.getElem?_set_ne (by decide)]; exact e4
        simp only [g14]
        walk_at "ev"
        simp only [g4]
        walk_at "ev"
        exact law_sum_eq hm.1 hr2 hm.2
      rw [List.map_cons, lcGo]
      simp only [bNm_ap, tTrue, bnd_ok, bind_ok, if_true, e, VV.isObj, Bool.false_eq_true, if_false, ih (fun m hm => ht m (List.mem_cons_of_mem _ hm)) ρ hl e4, List.map_cons]
  rw [key t ht2 _ rfl rfl, afterL_ok]
  walk_at "eva"
  simp only [alike_ints (show (t.map fun m => dot m row).length ≤ SZ by rw [List.length_map]; exact tz)]
  walk_at "eva"
  rw [if_neg nz, lc_pure (onI (restI 0)) (fun x hx => by
    obtain ⟨i, _, rfl⟩ := mem_int hx
    refine ⟨_, rfl, rfl, ?_, rfl⟩
    simp only [wp]
    walk_at "ev"
    exact rest_eq), afterL_ok, map_onI, l0]
  walk_at "eva"
  simp only [alike_ints rz]
  walk_at "eva"
  simp only [alike_int]
  walk_at "eva"
  simp only [paired_eq hr2 hr2 rz]
  walk_at "eva"
  simp only [law_sum_eq hr2 hr2 rz]
  walk_at "eva"
  simp only [alike_int]
  walk_at "eva"
  simp only [eq_ints, decide_true]
  walk_at "eva"
  exact ⟨_, rfl⟩
end L


namespace L
open PySem L2 J
def top (i : Nat) : Stmt := PySem.Challenge.pw_cupweb_k01_shares_and_rests.main.body.getD i (.Pass ⟨0, 0, 0, 0⟩)
abbrev s_rest : Stmt := top 2
abbrev s_rested : Stmt := top 3
abbrev s_share : Stmt := top 4
abbrev s_paired : Stmt := top 5
abbrev s_timed : Stmt := top 6
abbrev s_law_box : Stmt := top 8
abbrev s_law_mixed : Stmt := top 9
abbrev s_law_take : Stmt := top 10
abbrev s_law_alike : Stmt := top 11
abbrev s_law_number : Stmt := top 12
abbrev s_law_numbers : Stmt := top 13
abbrev s_law_drawn_rests : Stmt := top 14
abbrev s_law_rest : Stmt := top 15
abbrev s_law_rested : Stmt := top 16
abbrev s_law_sum : Stmt := top 17
abbrev s_law_whole_list : Stmt := top 18
abbrev s_law : Stmt := top 19
structure Blt (mg : Str → Option Value) : Prop where
  n_all : mg "all" = none
  n_bool : mg "bool" = none
  n_int : mg "int" = none
  n_isinstance : mg "isinstance" = none
  n_len : mg "len" = none
  n_list : mg "list" = none
  n_range : mg "range" = none
  n_str : mg "str" = none
  n_sum : mg "sum" = none
  n_tuple : mg "tuple" = none
  n_zip : mg "zip" = none
  g_WHOLE : ∃ t, mg "WHOLE" = some (.int 0 t)

section
variable {P : Program} {w : World} {K : PySem.W.Frag} {mg : Str → Option Value} {base : Heap}
theorem sc_rest : FnScope ["number", "rests"] ["number", "rests"] (defScope s_rest) := ⟨rfl, rfl, rfl, by decide +kernel, rfl, by decide +kernel, by decide +kernel⟩
theorem fn_rest (B : Blt mg) {f : Addr} {fd : FuncData} (D : Dn K mg "rest" s_rest [V.int 0] [] f fd) : FnOk P w K mg base (L2.CX P w) 1 f fd ["number", "rests"] (spF ⟨K, mg⟩ 2 F_rest) :=
  fnok_of (k := 0) (N := ["number", "rests"]) (n := 2) D sc_rest rfl (by decide) rfl fun cdv A outer s H E hr =>
      (js_one (js_ret (j_if (jt_cmp (or_eq hr) (j_var 1 (pv 1)) (j_globI (by rfl) B.g_WHOLE) (nomark _)) (j_var 0 (pv 0)) (j_bin or_mod (j_var 0 (pv 0)) (j_var 1 (pv 1))))))
theorem ok_rest (B : Blt mg) {f : Addr} {fd : FuncData} (D : Dn K mg "rest" s_rest [V.int 0] [] f fd) : Ok1 P w K mg base 1 "rest" 2 [] F_rest := okD_of D (fn_rest B D) 2 1 (by simp) rfl (fun _ _ _ _ _ _ _ us its h1 h2 => match us, h1, its, h2 with | [_, _], _, [_], _ => ⟨_, rfl, rfl⟩) (fun _ _ => rfl)
theorem ok_rest_1 (B : Blt mg) {f : Addr} {fd : FuncData} (D : Dn K mg "rest" s_rest [V.int 0] [] f fd) : Ok1 P w K mg base 1 "rest" 2 [.int 0] F_rest := okD_of D (fn_rest B D) 1 0 (by simp) rfl (fun _ _ _ _ _ _ _ us its h1 h2 => match us, h1, its, h2 with | [_], _, [_], _ => ⟨_, rfl, rfl⟩) (fun _ _ => ⟨_, _, rfl, rt_int, rfl⟩)
theorem sc_rested : FnScope ["row", "rests", "number"] ["row", "rests"] (defScope s_rested) := ⟨rfl, rfl, rfl, by decide +kernel, rfl, by decide +kernel, by decide +kernel⟩
theorem fn_rested (B : Blt mg) {f : Addr} {fd : FuncData} (D : Dn K mg "rested" s_rested [V.int 0] [] f fd) (O_rest : Ok1 P w K mg base 1 "rest" 2 [] F_rest) : FnOk P w K mg base (L2.CX P w) 2 f fd ["row", "rests"] (spF ⟨K, mg⟩ 2 F_rested) :=
  fnok_of (k := 1) (N := ["row", "rests", "number"]) (n := 3) D sc_rested rfl (by decide) rfl fun cdv A outer s H E hr =>
      (js_one (js_ret (j_lc rfl sc_rested.nd (ji_seq (j_var 0 (pv 0))) (blkOk_by (own := [("number", 2)]) (by kernel_rfl)) (fun _ _ _ _ _ => (pg_name (i := 2) sc_rested.nd rfl (by first | exact Or.inl rfl | exact Or.inr rfl))) (pat_nm 2) (fun _ _ _ _ _ => jts_nil) (fun _ _ _ _ _ => (j_callO O_rest (hr.mono (by decide)) (by rfl) takes0 (ja_cons (j_var 2 (pv 2)) (ja_cons (j_var 1 (pv 1)) ja_nil)))))))
theorem ok_rested (B : Blt mg) {f : Addr} {fd : FuncData} (D : Dn K mg "rested" s_rested [V.int 0] [] f fd) (O_rest : Ok1 P w K mg base 1 "rest" 2 [] F_rest) : Ok1 P w K mg base 2 "rested" 2 [] F_rested := okD_of D (fn_rested B D O_rest) 2 1 (by simp) rfl (fun _ _ _ _ _ _ _ us its h1 h2 => match us, h1, its, h2 with | [_, _], _, [_], _ => ⟨_, rfl, rfl⟩) (fun _ _ => rfl)
theorem ok_rested_1 (B : Blt mg) {f : Addr} {fd : FuncData} (D : Dn K mg "rested" s_rested [V.int 0] [] f fd) (O_rest : Ok1 P w K mg base 1 "rest" 2 [] F_rest) : Ok1 P w K mg base 2 "rested" 2 [.int 0] F_rested := okD_of D (fn_rested B D O_rest) 1 0 (by simp) rfl (fun _ _ _ _ _ _ _ us its h1 h2 => match us, h1, its, h2 with | [_], _, [_], _ => ⟨_, rfl, rfl⟩) (fun _ _ => ⟨_, _, rfl, rt_int, rfl⟩)
theorem sc_share : FnScope ["one", "other", "both", "by", "more", "left", "low", "high", "times"] ["one", "other"] (defScope s_share) := ⟨rfl, rfl, rfl, by decide +kernel, rfl, by decide +kernel, by decide +kernel⟩
theorem fn_share (B : Blt mg) {f : Addr} {fd : FuncData} (D : Dn K mg "share" s_share [] [] f fd) : FnOk P w K mg base (L2.CX P w) 1 f fd ["one", "other"] (spF ⟨K, mg⟩ 2 F_share) :=
  fnok_of (k := 0) (N := ["one", "other", "both", "by", "more", "left", "low", "high", "times"]) (n := 9) D sc_share rfl (by decide) rfl fun cdv A outer s H E hr =>
      (js_cons (js_par3 (i := 2) (j := 3) (l := 4) rfl sc_share.nd rfl rfl rfl (by decide) (by decide) (by decide) rfl rfl rfl (ja_cons (j_var 0 (pv 0)) (ja_cons j_int (ja_cons j_int ja_nil))) (by rfl))
      (js_cons (js_par3 (i := 5) (j := 6) (l := 7) rfl sc_share.nd rfl rfl rfl (by decide) (by decide) (by decide) rfl rfl rfl (ja_cons (j_var 1 (pv 1)) (ja_cons j_int (ja_cons j_int ja_nil))) (by rfl))
      (js_cons (js_while (passes_of rfl) (jt_cmp (or_ne hr) (j_var 5 (pv 5)) j_int (nomark _)) (js_cons (js_set (i := 8) sc_share.nd rfl (by first | exact Or.inl rfl | exact Or.inr rfl) (j_bin or_fdiv (j_var 2 (pv 2)) (j_var 5 (pv 5))))
      (js_cons (js_par (i := 2) (j := 5) rfl sc_share.nd rfl rfl (by decide) rfl rfl (ja_cons (j_var 5 (pv 5)) (ja_cons (j_bin or_sub (j_var 2 (pv 2)) (j_bin or_mul (j_var 8 (pv 8)) (j_var 5 (pv 5)))) ja_nil)) (by rfl))
      (js_cons (js_par (i := 3) (j := 6) rfl sc_share.nd rfl rfl (by decide) rfl rfl (ja_cons (j_var 6 (pv 6)) (ja_cons (j_bin or_sub (j_var 3 (pv 3)) (j_bin or_mul (j_var 8 (pv 8)) (j_var 6 (pv 6)))) ja_nil)) (by rfl))
      (js_one (js_par (i := 4) (j := 7) rfl sc_share.nd rfl rfl (by decide) rfl rfl (ja_cons (j_var 7 (pv 7)) (ja_cons (j_bin or_sub (j_var 4 (pv 4)) (j_bin or_mul (j_var 8 (pv 8)) (j_var 7 (pv 7)))) ja_nil)) (by rfl)))))))
      (js_cons (js_if (jt_cmp or_lt (j_var 2 (pv 2)) j_int (nomark _)) (js_one (js_par3 (i := 2) (j := 3) (l := 4) rfl sc_share.nd rfl rfl rfl (by decide) (by decide) (by decide) rfl rfl rfl (ja_cons (j_un ur_neg (j_var 2 (pv 2))) (ja_cons (j_un ur_neg (j_var 3 (pv 3))) (ja_cons (j_un ur_neg (j_var 4 (pv 4))) ja_nil))) (by rfl))) js_nil)
      (js_one (js_ret (j_tup (ja_cons (j_var 2 (pv 2)) (ja_cons (j_var 3 (pv 3)) (ja_cons (j_var 4 (pv 4)) ja_nil))))))))))
theorem ok_share (B : Blt mg) {f : Addr} {fd : FuncData} (D : Dn K mg "share" s_share [] [] f fd) : Ok1 P w K mg base 1 "share" 2 [] F_share := ok_of D (fn_share B D) (fun _ _ _ _ _ _ us hl => match us, hl with | [_, _], _ => rfl)
theorem sc_paired : FnScope ["one", "other", "a", "b"] ["one", "other"] (defScope s_paired) := ⟨rfl, rfl, rfl, by decide +kernel, rfl, by decide +kernel, by decide +kernel⟩
theorem fn_paired (B : Blt mg) {f : Addr} {fd : FuncData} (D : Dn K mg "paired" s_paired [] [] f fd) : FnOk P w K mg base (L2.CX P w) 1 f fd ["one", "other"] (spF ⟨K, mg⟩ 2 F_paired) :=
  fnok_of (k := 0) (N := ["one", "other", "a", "b"]) (n := 4) D sc_paired rfl (by decide) rfl fun cdv A outer s H E hr =>
      (js_one (js_ret (j_callB (cr_sumJ rfl) (by rfl) B.n_sum (by decide +kernel) (ja_cons (j_lc rfl sc_paired.nd (ji_zip (by rfl) B.n_zip (ja_cons (j_var 0 (pv 0)) (ja_cons (j_var 1 (pv 1)) ja_nil))) (blkOk_by (own := [("a", 2), ("b", 3)]) (by kernel_rfl)) (fun _ _ _ _ _ => (pg_tup rfl (pgs_cons (pg_name (i := 2) sc_paired.nd rfl (by first | exact Or.inl rfl | exact Or.inr rfl)) (pgs_cons (pg_name (i := 3) sc_paired.nd rfl (by first | exact Or.inl rfl | exact Or.inr rfl)) pgs_nil)))) (pat_tup (pats_cons (pat_nm 2) (pats_cons (pat_nm 3) pats_nil))) (fun _ _ _ _ _ => jts_nil) (fun _ _ _ _ _ => (j_bin or_mul (j_var 2 (pv 2)) (j_var 3 (pv 3))))) ja_nil))))
theorem ok_paired (B : Blt mg) {f : Addr} {fd : FuncData} (D : Dn K mg "paired" s_paired [] [] f fd) : Ok1 P w K mg base 1 "paired" 2 [] F_paired := ok_of D (fn_paired B D) (fun _ _ _ _ _ _ us hl => match us, hl with | [_, _], _ => rfl)
theorem sc_timed : FnScope ["table", "row", "line"] ["table", "row"] (defScope s_timed) := ⟨rfl, rfl, rfl, by decide +kernel, rfl, by decide +kernel, by decide +kernel⟩
theorem fn_timed (B : Blt mg) {f : Addr} {fd : FuncData} (D : Dn K mg "timed" s_timed [] [] f fd) (O_paired : Ok1 P w K mg base 1 "paired" 2 [] F_paired) : FnOk P w K mg base (L2.CX P w) 2 f fd ["table", "row"] (spF ⟨K, mg⟩ 2 F_timed) :=
  fnok_of (k := 1) (N := ["table", "row", "line"]) (n := 3) D sc_timed rfl (by decide) rfl fun cdv A outer s H E hr =>
      (js_one (js_ret (j_lc rfl sc_timed.nd (ji_seq (j_var 0 (pv 0))) (blkOk_by (own := [("line", 2)]) (by kernel_rfl)) (fun _ _ _ _ _ => (pg_name (i := 2) sc_timed.nd rfl (by first | exact Or.inl rfl | exact Or.inr rfl))) (pat_nm 2) (fun _ _ _ _ _ => jts_nil) (fun _ _ _ _ _ => (j_callO O_paired (hr.mono (by decide)) (by rfl) takes0 (ja_cons (j_var 2 (pv 2)) (ja_cons (j_var 1 (pv 1)) ja_nil)))))))
theorem ok_timed (B : Blt mg) {f : Addr} {fd : FuncData} (D : Dn K mg "timed" s_timed [] [] f fd) (O_paired : Ok1 P w K mg base 1 "paired" 2 [] F_paired) : Ok1 P w K mg base 2 "timed" 2 [] F_timed := ok_of D (fn_timed B D O_paired) (fun _ _ _ _ _ _ us hl => match us, hl with | [_, _], _ => rfl)
theorem sc_law_box : FnScope ["_law_script", "_law_seed", "_law_cell"] ["_law_script"] (defScope s_law_box) := ⟨rfl, rfl, rfl, by decide +kernel, rfl, by decide +kernel, by decide +kernel⟩
theorem fn_law_box (B : Blt mg) {f : Addr} {fd : FuncData} (D : Dn K mg "_law_box" s_law_box [] [] f fd) : FnOk P w K mg base (L2.CX P w) 1 f fd ["_law_script"] (spF ⟨K, mg⟩ 1 F_law_box) :=
  fnok_of (k := 0) (N := ["_law_script", "_law_seed", "_law_cell"]) (n := 3) D sc_law_box rfl (by decide) rfl fun cdv A outer s H E hr =>
      (js_cons (js_set (i := 1) sc_law_box.nd rfl (by first | exact Or.inl rfl | exact Or.inr rfl) j_int)
      (js_cons (js_for (passes_of rfl) rfl (ji_seq (j_sl (j_var 0 (pv 0)) jo_none (jo_some j_int))) (pg_name (i := 2) sc_law_box.nd rfl (by first | exact Or.inl rfl | exact Or.inr rfl)) (pat_nm 2) (js_one (js_set (i := 1) sc_law_box.nd rfl (by first | exact Or.inl rfl | exact Or.inr rfl) (j_bin or_mod (j_bin or_add (j_bin or_add (j_bin or_mul (j_var 1 (pv 1)) j_int) (j_var 2 (pv 2))) j_int) j_int))))
      (js_one (js_ret (j_lstO (ja_cons (j_callTy cr_listJ (by rfl) B.n_list (by decide +kernel) (ja_cons (j_sl (j_var 0 (pv 0)) jo_none (jo_some j_int)) ja_nil)) (ja_cons j_int (ja_cons j_int (ja_cons j_int (ja_cons (j_var 1 (pv 1)) ja_nil))))))))))
theorem ok_law_box (B : Blt mg) {f : Addr} {fd : FuncData} (D : Dn K mg "_law_box" s_law_box [] [] f fd) : Ok1 P w K mg base 1 "_law_box" 1 [] F_law_box := ok_of D (fn_law_box B D) (fun _ _ _ _ _ _ us hl => match us, hl with | [_], _ => rfl)
theorem sc_law_mixed : FnScope ["_law_number_here", "_law_turn", "_law_one", "_law_two"] ["_law_number_here", "_law_turn"] (defScope s_law_mixed) := ⟨rfl, rfl, rfl, by decide +kernel, rfl, by decide +kernel, by decide +kernel⟩
theorem fn_law_mixed (B : Blt mg) {f : Addr} {fd : FuncData} (D : Dn K mg "_law_mixed" s_law_mixed [] [] f fd) : FnOk P w K mg base (L2.CX P w) 1 f fd ["_law_number_here", "_law_turn"] (spF ⟨K, mg⟩ 2 F_law_mixed) :=
  fnok_of (k := 0) (N := ["_law_number_here", "_law_turn", "_law_one", "_law_two"]) (n := 4) D sc_law_mixed rfl (by decide) rfl fun cdv A outer s H E hr =>
      (js_cons (js_set (i := 2) sc_law_mixed.nd rfl (by first | exact Or.inl rfl | exact Or.inr rfl) (j_bin or_mod (j_bin or_add (j_bin or_add (j_bin or_mul (j_var 0 (pv 0)) j_int) (j_bin or_mul (j_var 1 (pv 1)) j_int)) j_int) j_int))
      (js_cons (js_set (i := 3) sc_law_mixed.nd rfl (by first | exact Or.inl rfl | exact Or.inr rfl) (j_bin or_mod (j_bin or_add (j_bin or_add (j_bin or_mul (j_var 2 (pv 2)) (j_bin or_add (j_bin or_mod (j_var 2 (pv 2)) j_int) j_int)) (j_bin or_mul (j_var 1 (pv 1)) j_int)) (j_bin or_mod (j_var 0 (pv 0)) j_int)) j_int))
      (js_one (js_ret (j_bin or_fdiv (j_var 3 (pv 3)) j_int)))))
theorem ok_law_mixed (B : Blt mg) {f : Addr} {fd : FuncData} (D : Dn K mg "_law_mixed" s_law_mixed [] [] f fd) : Ok1 P w K mg base 1 "_law_mixed" 2 [] F_law_mixed := ok_of D (fn_law_mixed B D) (fun _ _ _ _ _ _ us hl => match us, hl with | [_, _], _ => rfl)
theorem sc_law_take : FnScope ["_law_box_here", "_law_many", "_law_cell", "_law_left"] ["_law_box_here", "_law_many"] (defScope s_law_take) := ⟨rfl, rfl, rfl, by decide +kernel, rfl, by decide +kernel, by decide +kernel⟩
theorem fn_law_take (B : Blt mg) {f : Addr} {fd : FuncData} (D : Dn K mg "_law_take" s_law_take [] [] f fd) (O_law_mixed : Ok1 P w K mg base 1 "_law_mixed" 2 [] F_law_mixed) : FnOk P w K mg base (L2.CX P w) 2 f fd ["_law_box_here", "_law_many"] (spF ⟨K, mg⟩ 2 F_law_take) :=
  fnok_of (k := 1) (N := ["_law_box_here", "_law_many", "_law_cell", "_law_left"]) (n := 4) D sc_law_take rfl (by decide) rfl fun cdv A outer s H E hr =>
      (js_cons (js_setI (j_bin or_add (j_ix ir_ix (j_var 0 (pv 0)) j_int (fun _ _ => rfl)) j_int) (j_var 0 (pv 0)) j_int)
      (js_cons (js_if (jt_cmp or_gt (j_ix ir_ix (j_var 0 (pv 0)) j_int (fun _ _ => rfl)) j_int (nomark _)) (js_cons (js_set (i := 3) sc_law_take.nd rfl (by first | exact Or.inl rfl | exact Or.inr rfl) (j_ix ir_ix (j_var 0 (pv 0)) j_int (fun _ _ => rfl)))
      (js_cons (js_setI (j_bin or_fdiv (j_var 3 (pv 3)) (j_var 1 (pv 1))) (j_var 0 (pv 0)) j_int)
      (js_one (js_ret (j_bin or_mod (j_var 3 (pv 3)) (j_var 1 (pv 1))))))) js_nil)
      (js_cons (js_if (jt_cmp or_ge (j_ix ir_ix (j_var 0 (pv 0)) j_int (fun _ _ => rfl)) (j_callB cr_len (by rfl) B.n_len (by decide +kernel) (ja_cons (j_ix ir_ix (j_var 0 (pv 0)) j_int (fun _ _ => rfl)) ja_nil)) (nomark _)) (js_one (js_ret (j_bin or_mod (j_callO O_law_mixed (hr.mono (by decide)) (by rfl) (takes_of rfl rfl rfl rfl) (ja_cons (j_ix ir_ix (j_var 0 (pv 0)) j_int (fun _ _ => rfl)) (ja_cons (j_ix ir_ix (j_var 0 (pv 0)) j_int (fun _ _ => rfl)) ja_nil))) (j_var 1 (pv 1))))) js_nil)
      (js_cons (js_set (i := 2) sc_law_take.nd rfl (by first | exact Or.inl rfl | exact Or.inr rfl) (j_ix ir_ix (j_ix ir_ix (j_var 0 (pv 0)) j_int (fun _ _ => rfl)) (j_ix ir_ix (j_var 0 (pv 0)) j_int (fun _ _ => rfl)) (fun _ _ => rfl)))
      (js_cons (js_setI (j_bin or_add (j_ix ir_ix (j_var 0 (pv 0)) j_int (fun _ _ => rfl)) j_int) (j_var 0 (pv 0)) j_int)
      (js_cons (js_if (jt_cmp or_lt (j_var 2 (pv 2)) (j_bin or_pow j_int j_int) (nomark _)) (js_one (js_ret (j_bin or_mod (j_callO O_law_mixed (hr.mono (by decide)) (by rfl) (takes_of rfl rfl rfl rfl) (ja_cons (j_var 2 (pv 2)) (ja_cons (j_ix ir_ix (j_var 0 (pv 0)) j_int (fun _ _ => rfl)) ja_nil))) (j_var 1 (pv 1))))) js_nil)
      (js_cons (js_setI (j_bin or_fdiv (j_var 2 (pv 2)) (j_var 1 (pv 1))) (j_var 0 (pv 0)) j_int)
      (js_one (js_ret (j_bin or_mod (j_var 2 (pv 2)) (j_var 1 (pv 1))))))))))))
theorem ok_law_take (B : Blt mg) {f : Addr} {fd : FuncData} (D : Dn K mg "_law_take" s_law_take [] [] f fd) (O_law_mixed : Ok1 P w K mg base 1 "_law_mixed" 2 [] F_law_mixed) : Ok1 P w K mg base 2 "_law_take" 2 [] F_law_take := ok_of D (fn_law_take B D O_law_mixed) (fun _ _ _ _ _ _ us hl => match us, hl with | [_, _], _ => rfl)
theorem sc_law_alike : FnScope ["_law_found", "_law_due", "_law_one", "_law_other"] ["_law_found", "_law_due"] (defScope s_law_alike) := ⟨rfl, rfl, rfl, by decide +kernel, rfl, by decide +kernel, by decide +kernel⟩
theorem fn_law_alike (B : Blt mg) {f : Addr} {fd : FuncData} (D : Dn K mg "_law_alike" s_law_alike [] [] f fd) : ∀ d : Nat, FnOk P w K mg base (L2.CX P w) (0 + d) f fd ["_law_found", "_law_due"] (spF ⟨K, mg⟩ 2 (F_law_alike d))
  | 0 => fn_no rfl
  | d + 1 => by
    have OkR : Ok1 P w K mg base (0 + d) "_law_alike" 2 [] (F_law_alike d) := ok_of D (fn_law_alike B D d) (fun _ _ _ _ _ _ us hl => match us, hl with | [_, _], _ => rfl)
    exact fnok_of (k := 0 + d) (N := ["_law_found", "_law_due", "_law_one", "_law_other"]) (n := 4) D sc_law_alike rfl (by decide) rfl fun cdv A outer s H E hr =>
      (js_cons (js_if (PW.pt (jw_or (jt_val (j_callB cr_isi (by rfl) B.n_isinstance (by decide +kernel) (ja_cons (j_var 1 (pv 1)) (ja_cons (j_ty (by rfl) B.n_list (by decide +kernel)) ja_nil)))) (jw_or1 (jt_val (j_callB cr_isi (by rfl) B.n_isinstance (by decide +kernel) (ja_cons (j_var 1 (pv 1)) (ja_cons (j_ty (by rfl) B.n_tuple (by decide +kernel)) ja_nil))))))) (js_cons (js_if (PW.pt (jw_or (jt_cmp (or_ne hr) (j_callB cr_isi (by rfl) B.n_isinstance (by decide +kernel) (ja_cons (j_var 0 (pv 0)) (ja_cons (j_ty (by rfl) B.n_list (by decide +kernel)) ja_nil))) (j_callB cr_isi (by rfl) B.n_isinstance (by decide +kernel) (ja_cons (j_var 1 (pv 1)) (ja_cons (j_ty (by rfl) B.n_list (by decide +kernel)) ja_nil))) (nomark _)) (jw_or1 (jt_cmp (or_ne hr) (j_callB cr_isi (by rfl) B.n_isinstance (by decide +kernel) (ja_cons (j_var 0 (pv 0)) (ja_cons (j_ty (by rfl) B.n_tuple (by decide +kernel)) ja_nil))) (j_callB cr_isi (by rfl) B.n_isinstance (by decide +kernel) (ja_cons (j_var 1 (pv 1)) (ja_cons (j_ty (by rfl) B.n_tuple (by decide +kernel)) ja_nil))) (nomark _))))) (js_one (js_ret j_bl)) js_nil)
      (js_one (js_ret (j_and (j_cmp (or_eq hr) (j_callB cr_len (by rfl) B.n_len (by decide +kernel) (ja_cons (j_var 0 (pv 0)) ja_nil)) (j_callB cr_len (by rfl) B.n_len (by decide +kernel) (ja_cons (j_var 1 (pv 1)) ja_nil)) (nomark _)) (j_one (j_callB (cr_allJ rfl) (by rfl) B.n_all (by decide +kernel) (ja_cons (j_lc rfl sc_law_alike.nd (ji_zip (by rfl) B.n_zip (ja_cons (j_var 0 (pv 0)) (ja_cons (j_var 1 (pv 1)) ja_nil))) (blkOk_by (own := [("_law_one", 2), ("_law_other", 3)]) (by kernel_rfl)) (fun _ _ _ _ _ => (pg_tup rfl (pgs_cons (pg_name (i := 2) sc_law_alike.nd rfl (by first | exact Or.inl rfl | exact Or.inr rfl)) (pgs_cons (pg_name (i := 3) sc_law_alike.nd rfl (by first | exact Or.inl rfl | exact Or.inr rfl)) pgs_nil)))) (pat_tup (pats_cons (pat_nm 2) (pats_cons (pat_nm 3) pats_nil))) (fun _ _ _ _ _ => jts_nil) (fun _ _ _ _ _ => (j_callO OkR hr (by rfl) takes0 (ja_cons (j_var 2 (pv 2)) (ja_cons (j_var 3 (pv 3)) ja_nil))))) ja_nil))))))) js_nil)
      (js_cons (js_if (PW.pt (jw_or (jt_cmp or_isN (j_var 1 (pv 1)) j_non (nomark _)) (jw_or1 (jt_cmp or_isN (j_var 0 (pv 0)) j_non (nomark _))))) (js_one (js_ret (j_and (j_cmp or_isN (j_var 0 (pv 0)) j_non (nomark _)) (j_one (j_cmp or_isN (j_var 1 (pv 1)) j_non (nomark _)))))) js_nil)
      (js_cons (js_if (PW.pt (jw_or (jt_cmp (or_ne hr) (j_callB cr_isi (by rfl) B.n_isinstance (by decide +kernel) (ja_cons (j_var 0 (pv 0)) (ja_cons (j_ty (by rfl) B.n_bool (by decide +kernel)) ja_nil))) (j_callB cr_isi (by rfl) B.n_isinstance (by decide +kernel) (ja_cons (j_var 1 (pv 1)) (ja_cons (j_ty (by rfl) B.n_bool (by decide +kernel)) ja_nil))) (nomark _)) (jw_or1 (jt_cmp (or_ne hr) (j_callB cr_isi (by rfl) B.n_isinstance (by decide +kernel) (ja_cons (j_var 0 (pv 0)) (ja_cons (j_ty (by rfl) B.n_int (by decide +kernel)) ja_nil))) (j_callB cr_isi (by rfl) B.n_isinstance (by decide +kernel) (ja_cons (j_var 1 (pv 1)) (ja_cons (j_ty (by rfl) B.n_int (by decide +kernel)) ja_nil))) (nomark _))))) (js_one (js_ret j_bl)) js_nil)
      (js_one (js_ret (j_and (j_cmp (or_eq hr) (j_callB cr_isi (by rfl) B.n_isinstance (by decide +kernel) (ja_cons (j_var 0 (pv 0)) (ja_cons (j_ty (by rfl) B.n_str (by decide +kernel)) ja_nil))) (j_callB cr_isi (by rfl) B.n_isinstance (by decide +kernel) (ja_cons (j_var 1 (pv 1)) (ja_cons (j_ty (by rfl) B.n_str (by decide +kernel)) ja_nil))) (nomark _)) (j_one (j_cmp (or_eq hr) (j_var 0 (pv 0)) (j_var 1 (pv 1)) (nomark _)))))))))
theorem ok_law_alike (B : Blt mg) {f : Addr} {fd : FuncData} (D : Dn K mg "_law_alike" s_law_alike [] [] f fd) : Ok1 P w K mg base 4 "_law_alike" 2 [] (F_law_alike 4) := ok_of D (fn_law_alike B D 4) (fun _ _ _ _ _ _ us hl => match us, hl with | [_, _], _ => rfl)
theorem sc_law_number : FnScope ["_law_box_here", "_law_way"] ["_law_box_here"] (defScope s_law_number) := ⟨rfl, rfl, rfl, by decide +kernel, rfl, by decide +kernel, by decide +kernel⟩
theorem fn_law_number (B : Blt mg) {f : Addr} {fd : FuncData} (D : Dn K mg "_law_number" s_law_number [] [] f fd) (O_law_take : Ok1 P w K mg base 2 "_law_take" 2 [] F_law_take) : FnOk P w K mg base (L2.CX P w) 3 f fd ["_law_box_here"] (spF ⟨K, mg⟩ 1 F_law_number) :=
  fnok_of (k := 2) (N := ["_law_box_here", "_law_way"]) (n := 2) D sc_law_number rfl (by decide) rfl fun cdv A outer s H E hr =>
      (js_cons (js_set (i := 1) sc_law_number.nd rfl (by first | exact Or.inl rfl | exact Or.inr rfl) (j_callO O_law_take (hr.mono (by decide)) (by rfl) (takes_of rfl rfl rfl rfl) (ja_cons (j_var 0 (pv 0)) (ja_cons j_int ja_nil))))
      (js_cons (js_if (jt_cmp or_lt (j_var 1 (pv 1)) j_int (nomark _)) (js_one (js_ret (j_bin or_sub (j_callO O_law_take (hr.mono (by decide)) (by rfl) (takes_of rfl rfl rfl rfl) (ja_cons (j_var 0 (pv 0)) (ja_cons j_int ja_nil))) j_int))) js_nil)
      (js_cons (js_if (jt_cmp or_lt (j_var 1 (pv 1)) j_int (nomark _)) (js_one (js_ret (j_bin or_sub (j_callO O_law_take (hr.mono (by decide)) (by rfl) (takes_of rfl rfl rfl rfl) (ja_cons (j_var 0 (pv 0)) (ja_cons j_int ja_nil))) j_int))) js_nil)
      (js_one (js_ret (j_bin or_mul (j_bin or_sub (j_callO O_law_take (hr.mono (by decide)) (by rfl) (takes_of rfl rfl rfl rfl) (ja_cons (j_var 0 (pv 0)) (ja_cons j_int ja_nil))) j_int) (j_bin or_add (j_bin or_pow j_int j_int) (j_callO O_law_take (hr.mono (by decide)) (by rfl) (takes_of rfl rfl rfl rfl) (ja_cons (j_var 0 (pv 0)) (ja_cons (j_bin or_pow j_int j_int) ja_nil))))))))))
theorem ok_law_number (B : Blt mg) {f : Addr} {fd : FuncData} (D : Dn K mg "_law_number" s_law_number [] [] f fd) (O_law_take : Ok1 P w K mg base 2 "_law_take" 2 [] F_law_take) : Ok1 P w K mg base 3 "_law_number" 1 [] F_law_number := ok_of D (fn_law_number B D O_law_take) (fun _ _ _ _ _ _ us hl => match us, hl with | [_], _ => rfl)
theorem sc_law_numbers : FnScope ["_law_box_here", "_law_many", "_law_k"] ["_law_box_here", "_law_many"] (defScope s_law_numbers) := ⟨rfl, rfl, rfl, by decide +kernel, rfl, by decide +kernel, by decide +kernel⟩
theorem fn_law_numbers (B : Blt mg) {f : Addr} {fd : FuncData} (D : Dn K mg "_law_numbers" s_law_numbers [] [] f fd) (O_law_number : Ok1 P w K mg base 3 "_law_number" 1 [] F_law_number) : FnOk P w K mg base (L2.CX P w) 4 f fd ["_law_box_here", "_law_many"] (spF ⟨K, mg⟩ 2 F_law_numbers) :=
  fnok_of (k := 3) (N := ["_law_box_here", "_law_many", "_law_k"]) (n := 3) D sc_law_numbers rfl (by decide) rfl fun cdv A outer s H E hr =>
      (js_one (js_ret (j_lc rfl sc_law_numbers.nd (ji_range1 (by rfl) B.n_range (j_var 1 (pv 1))) (blkOk_by (own := [("_law_k", 2)]) (by kernel_rfl)) (fun _ _ _ _ _ => (pg_name (i := 2) sc_law_numbers.nd rfl (by first | exact Or.inl rfl | exact Or.inr rfl))) (pat_nm 2) (fun _ _ _ _ _ => jts_nil) (fun _ _ _ _ _ => (j_callO O_law_number (hr.mono (by decide)) (by rfl) takes0 (ja_cons (j_var 0 (pv 0)) ja_nil))))))
theorem ok_law_numbers (B : Blt mg) {f : Addr} {fd : FuncData} (D : Dn K mg "_law_numbers" s_law_numbers [] [] f fd) (O_law_number : Ok1 P w K mg base 3 "_law_number" 1 [] F_law_number) : Ok1 P w K mg base 4 "_law_numbers" 2 [] F_law_numbers := ok_of D (fn_law_numbers B D O_law_number) (fun _ _ _ _ _ _ us hl => match us, hl with | [_, _], _ => rfl)
theorem sc_law_drawn_rests : FnScope ["_law_box_here", "_law_way"] ["_law_box_here"] (defScope s_law_drawn_rests) := ⟨rfl, rfl, rfl, by decide +kernel, rfl, by decide +kernel, by decide +kernel⟩
theorem fn_law_drawn_rests (B : Blt mg) {f : Addr} {fd : FuncData} (D : Dn K mg "_law_drawn_rests" s_law_drawn_rests [] [] f fd) (O_law_take : Ok1 P w K mg base 2 "_law_take" 2 [] F_law_take) : FnOk P w K mg base (L2.CX P w) 3 f fd ["_law_box_here"] (spF ⟨K, mg⟩ 1 F_law_drawn_rests) :=
  fnok_of (k := 2) (N := ["_law_box_here", "_law_way"]) (n := 2) D sc_law_drawn_rests rfl (by decide) rfl fun cdv A outer s H E hr =>
      (js_cons (js_set (i := 1) sc_law_drawn_rests.nd rfl (by first | exact Or.inl rfl | exact Or.inr rfl) (j_callO O_law_take (hr.mono (by decide)) (by rfl) (takes_of rfl rfl rfl rfl) (ja_cons (j_var 0 (pv 0)) (ja_cons j_int ja_nil))))
      (js_cons (js_if (jt_cmp or_lt (j_var 1 (pv 1)) j_int (nomark _)) (js_one (js_ret j_int)) js_nil)
      (js_one (js_ret (j_ix ir_ix (j_lst (ja_cons j_int (ja_cons j_int (ja_cons (j_bin or_add j_int (j_callO O_law_take (hr.mono (by decide)) (by rfl) (takes_of rfl rfl rfl rfl) (ja_cons (j_var 0 (pv 0)) (ja_cons j_int ja_nil)))) ja_nil)))) (j_bin or_sub (j_var 1 (pv 1)) j_int) (fun _ _ => rfl))))))
theorem ok_law_drawn_rests (B : Blt mg) {f : Addr} {fd : FuncData} (D : Dn K mg "_law_drawn_rests" s_law_drawn_rests [] [] f fd) (O_law_take : Ok1 P w K mg base 2 "_law_take" 2 [] F_law_take) : Ok1 P w K mg base 3 "_law_drawn_rests" 1 [] F_law_drawn_rests := ok_of D (fn_law_drawn_rests B D O_law_take) (fun _ _ _ _ _ _ us hl => match us, hl with | [_], _ => rfl)
theorem sc_law_rest : FnScope ["_law_number_here", "_law_fold"] ["_law_number_here", "_law_fold"] (defScope s_law_rest) := ⟨rfl, rfl, rfl, by decide +kernel, rfl, by decide +kernel, by decide +kernel⟩
theorem fn_law_rest (B : Blt mg) {f : Addr} {fd : FuncData} (D : Dn K mg "_law_rest" s_law_rest [] [] f fd) : FnOk P w K mg base (L2.CX P w) 1 f fd ["_law_number_here", "_law_fold"] (spF ⟨K, mg⟩ 2 F_law_rest) :=
  fnok_of (k := 0) (N := ["_law_number_here", "_law_fold"]) (n := 2) D sc_law_rest rfl (by decide) rfl fun cdv A outer s H E hr =>
      (js_one (js_ret (j_if (jt_cmp (or_eq hr) (j_var 1 (pv 1)) j_int (nomark _)) (j_var 0 (pv 0)) (j_bin or_mod (j_var 0 (pv 0)) (j_var 1 (pv 1))))))
theorem ok_law_rest (B : Blt mg) {f : Addr} {fd : FuncData} (D : Dn K mg "_law_rest" s_law_rest [] [] f fd) : Ok1 P w K mg base 1 "_law_rest" 2 [] F_law_rest := ok_of D (fn_law_rest B D) (fun _ _ _ _ _ _ us hl => match us, hl with | [_, _], _ => rfl)
theorem sc_law_rested : FnScope ["_law_row", "_law_fold", "_law_number_here"] ["_law_row", "_law_fold"] (defScope s_law_rested) := ⟨rfl, rfl, rfl, by decide +kernel, rfl, by decide +kernel, by decide +kernel⟩
theorem fn_law_rested (B : Blt mg) {f : Addr} {fd : FuncData} (D : Dn K mg "_law_rested" s_law_rested [] [] f fd) (O_law_rest : Ok1 P w K mg base 1 "_law_rest" 2 [] F_law_rest) : FnOk P w K mg base (L2.CX P w) 2 f fd ["_law_row", "_law_fold"] (spF ⟨K, mg⟩ 2 F_law_rested) :=
  fnok_of (k := 1) (N := ["_law_row", "_law_fold", "_law_number_here"]) (n := 3) D sc_law_rested rfl (by decide) rfl fun cdv A outer s H E hr =>
      (js_one (js_ret (j_lc rfl sc_law_rested.nd (ji_seq (j_var 0 (pv 0))) (blkOk_by (own := [("_law_number_here", 2)]) (by kernel_rfl)) (fun _ _ _ _ _ => (pg_name (i := 2) sc_law_rested.nd rfl (by first | exact Or.inl rfl | exact Or.inr rfl))) (pat_nm 2) (fun _ _ _ _ _ => jts_nil) (fun _ _ _ _ _ => (j_callO O_law_rest (hr.mono (by decide)) (by rfl) takes0 (ja_cons (j_var 2 (pv 2)) (ja_cons (j_var 1 (pv 1)) ja_nil)))))))
theorem ok_law_rested (B : Blt mg) {f : Addr} {fd : FuncData} (D : Dn K mg "_law_rested" s_law_rested [] [] f fd) (O_law_rest : Ok1 P w K mg base 1 "_law_rest" 2 [] F_law_rest) : Ok1 P w K mg base 2 "_law_rested" 2 [] F_law_rested := ok_of D (fn_law_rested B D O_law_rest) (fun _ _ _ _ _ _ us hl => match us, hl with | [_, _], _ => rfl)
theorem sc_law_sum : FnScope ["_law_one", "_law_other", "_law_a", "_law_b"] ["_law_one", "_law_other"] (defScope s_law_sum) := ⟨rfl, rfl, rfl, by decide +kernel, rfl, by decide +kernel, by decide +kernel⟩
theorem fn_law_sum (B : Blt mg) {f : Addr} {fd : FuncData} (D : Dn K mg "_law_sum" s_law_sum [] [] f fd) : FnOk P w K mg base (L2.CX P w) 1 f fd ["_law_one", "_law_other"] (spF ⟨K, mg⟩ 2 F_law_sum) :=
  fnok_of (k := 0) (N := ["_law_one", "_law_other", "_law_a", "_law_b"]) (n := 4) D sc_law_sum rfl (by decide) rfl fun cdv A outer s H E hr =>
      (js_one (js_ret (j_callB (cr_sumJ rfl) (by rfl) B.n_sum (by decide +kernel) (ja_cons (j_lc rfl sc_law_sum.nd (ji_zip (by rfl) B.n_zip (ja_cons (j_var 0 (pv 0)) (ja_cons (j_var 1 (pv 1)) ja_nil))) (blkOk_by (own := [("_law_a", 2), ("_law_b", 3)]) (by kernel_rfl)) (fun _ _ _ _ _ => (pg_tup rfl (pgs_cons (pg_name (i := 2) sc_law_sum.nd rfl (by first | exact Or.inl rfl | exact Or.inr rfl)) (pgs_cons (pg_name (i := 3) sc_law_sum.nd rfl (by first | exact Or.inl rfl | exact Or.inr rfl)) pgs_nil)))) (pat_tup (pats_cons (pat_nm 2) (pats_cons (pat_nm 3) pats_nil))) (fun _ _ _ _ _ => jts_nil) (fun _ _ _ _ _ => (j_bin or_mul (j_var 2 (pv 2)) (j_var 3 (pv 3))))) ja_nil))))
theorem ok_law_sum (B : Blt mg) {f : Addr} {fd : FuncData} (D : Dn K mg "_law_sum" s_law_sum [] [] f fd) : Ok1 P w K mg base 1 "_law_sum" 2 [] F_law_sum := ok_of D (fn_law_sum B D) (fun _ _ _ _ _ _ us hl => match us, hl with | [_, _], _ => rfl)
theorem sc_law_whole_list : FnScope ["_law_found", "_law_many", "_law_one"] ["_law_found", "_law_many"] (defScope s_law_whole_list) := ⟨rfl, rfl, rfl, by decide +kernel, rfl, by decide +kernel, by decide +kernel⟩
theorem fn_law_whole_list (B : Blt mg) {f : Addr} {fd : FuncData} (D : Dn K mg "_law_whole_list" s_law_whole_list [] [] f fd) : FnOk P w K mg base (L2.CX P w) 1 f fd ["_law_found", "_law_many"] (spF ⟨K, mg⟩ 2 F_law_whole_list) :=
  fnok_of (k := 0) (N := ["_law_found", "_law_many", "_law_one"]) (n := 3) D sc_law_whole_list rfl (by decide) rfl fun cdv A outer s H E hr =>
      (js_cons (js_if (PW.pt (jw_or (jt_not (jt_val (j_callB cr_isi (by rfl) B.n_isinstance (by decide +kernel) (ja_cons (j_var 0 (pv 0)) (ja_cons (j_ty (by rfl) B.n_list (by decide +kernel)) ja_nil))))) (jw_or1 (jt_cmp (or_ne hr) (j_callB cr_len (by rfl) B.n_len (by decide +kernel) (ja_cons (j_var 0 (pv 0)) ja_nil)) (j_var 1 (pv 1)) (nomark _))))) (js_one (js_ret j_bl)) js_nil)
      (js_one (js_ret (j_callB (cr_allJ rfl) (by rfl) B.n_all (by decide +kernel) (ja_cons (j_lc rfl sc_law_whole_list.nd (ji_seq (j_var 0 (pv 0))) (blkOk_by (own := [("_law_one", 2)]) (by kernel_rfl)) (fun _ _ _ _ _ => (pg_name (i := 2) sc_law_whole_list.nd rfl (by first | exact Or.inl rfl | exact Or.inr rfl))) (pat_nm 2) (fun _ _ _ _ _ => jts_nil) (fun _ _ _ _ _ => (j_and (j_callB cr_isi (by rfl) B.n_isinstance (by decide +kernel) (ja_cons (j_var 2 (pv 2)) (ja_cons (j_ty (by rfl) B.n_int (by decide +kernel)) ja_nil))) (j_one (j_not (j_callB cr_isi (by rfl) B.n_isinstance (by decide +kernel) (ja_cons (j_var 2 (pv 2)) (ja_cons (j_ty (by rfl) B.n_bool (by decide +kernel)) ja_nil)))))))) ja_nil)))))
theorem ok_law_whole_list (B : Blt mg) {f : Addr} {fd : FuncData} (D : Dn K mg "_law_whole_list" s_law_whole_list [] [] f fd) : Ok1 P w K mg base 1 "_law_whole_list" 2 [] F_law_whole_list := ok_of D (fn_law_whole_list B D) (fun _ _ _ _ _ _ us hl => match us, hl with | [_, _], _ => rfl)
theorem sc_law : FnScope ["_law_script", "_law_box_here", "_law_k", "_law_many", "_law_row", "_law_table", "_law_handed", "_law_fold", "_law_one", "_law_other", "_law_found", "_law_both", "_law_by", "_law_more", "_law_line"] ["_law_script"] (defScope s_law) := ⟨rfl, rfl, rfl, by decide +kernel, rfl, by decide +kernel, by decide +kernel⟩
theorem fn_law (B : Blt mg) {f : Addr} {fd : FuncData} (D : Dn K mg "law" s_law [] [] f fd) (O_law_box : Ok1 P w K mg base 1 "_law_box" 1 [] F_law_box) (O_law_number : Ok1 P w K mg base 3 "_law_number" 1 [] F_law_number) (O_law_take : Ok1 P w K mg base 2 "_law_take" 2 [] F_law_take) (O_share : Ok1 P w K mg base 1 "share" 2 [] F_share) (O_law_whole_list : Ok1 P w K mg base 1 "_law_whole_list" 2 [] F_law_whole_list) (O_law_numbers : Ok1 P w K mg base 4 "_law_numbers" 2 [] F_law_numbers) (O_law_drawn_rests : Ok1 P w K mg base 3 "_law_drawn_rests" 1 [] F_law_drawn_rests) (O_law_rested : Ok1 P w K mg base 2 "_law_rested" 2 [] F_law_rested) (O_rest : Ok1 P w K mg base 1 "rest" 2 [] F_rest) (O_law_alike : Ok1 P w K mg base 4 "_law_alike" 2 [] (F_law_alike 4)) (O_rested : Ok1 P w K mg base 2 "rested" 2 [] F_rested) (O_rested_1 : Ok1 P w K mg base 2 "rested" 2 [.int 0] F_rested) (O_law_sum : Ok1 P w K mg base 1 "_law_sum" 2 [] F_law_sum) (O_timed : Ok1 P w K mg base 2 "timed" 2 [] F_timed) (O_rest_1 : Ok1 P w K mg base 1 "rest" 2 [.int 0] F_rest) (O_paired : Ok1 P w K mg base 1 "paired" 2 [] F_paired) : FnOk P w K mg base (L2.CX P w) 6 f fd ["_law_script"] (spF ⟨K, mg⟩ 1 F_law) :=
  fnok_of (k := 5) (N := ["_law_script", "_law_box_here", "_law_k", "_law_many", "_law_row", "_law_table", "_law_handed", "_law_fold", "_law_one", "_law_other", "_law_found", "_law_both", "_law_by", "_law_more", "_law_line"]) (n := 15) D sc_law rfl (by decide) rfl fun cdv A outer s H E hr =>
      (js_cons (js_set (i := 1) sc_law.nd rfl (by first | exact Or.inl rfl | exact Or.inr rfl) (j_callO O_law_box (hr.mono (by decide)) (by rfl) (takes_of rfl rfl rfl rfl) (ja_cons (j_var 0 (pv 0)) ja_nil)))
      (js_cons (js_for (passes_of rfl) rfl (ji_range1 (by rfl) B.n_range j_int) (pg_name (i := 2) sc_law.nd rfl (by first | exact Or.inl rfl | exact Or.inr rfl)) (pat_nm 2) (js_cons (js_set (i := 8) sc_law.nd rfl (by first | exact Or.inl rfl | exact Or.inr rfl) (j_callO O_law_number (hr.mono (by decide)) (by rfl) (takes_of rfl rfl rfl rfl) (ja_cons (j_var 1 (pv 1)) ja_nil)))
      (js_cons (js_set (i := 9) sc_law.nd rfl (by first | exact Or.inl rfl | exact Or.inr rfl) (j_ix ir_ix (j_lst (ja_cons (j_callO O_law_number (hr.mono (by decide)) (by rfl) (takes_of rfl rfl rfl rfl) (ja_cons (j_var 1 (pv 1)) ja_nil)) (ja_cons (j_bin or_mul (j_var 8 (pv 8)) (j_bin or_sub (j_callO O_law_take (hr.mono (by decide)) (by rfl) (takes_of rfl rfl rfl rfl) (ja_cons (j_var 1 (pv 1)) (ja_cons j_int ja_nil))) j_int)) (ja_cons j_int ja_nil)))) (j_callO O_law_take (hr.mono (by decide)) (by rfl) (takes_of rfl rfl rfl rfl) (ja_cons (j_var 1 (pv 1)) (ja_cons j_int ja_nil))) (fun _ _ => rfl)))
      (js_cons (js_set (i := 10) sc_law.nd rfl (by first | exact Or.inl rfl | exact Or.inr rfl) (j_callO O_share (hr.mono (by decide)) (by rfl) (takes_of rfl rfl rfl rfl) (ja_cons (j_var 8 (pv 8)) (ja_cons (j_var 9 (pv 9)) ja_nil))))
      (js_cons (js_if (PW.pt (jw_or (jt_not (jt_val (j_callB cr_isi (by rfl) B.n_isinstance (by decide +kernel) (ja_cons (j_var 10 (pv 10)) (ja_cons (j_ty (by rfl) B.n_tuple (by decide +kernel)) ja_nil))))) (jw_or1 (jt_not (jt_val (j_callO O_law_whole_list (hr.mono (by decide)) (by rfl) (takes_of rfl rfl rfl rfl) (ja_cons (j_callTy cr_listJ (by rfl) B.n_list (by decide +kernel) (ja_cons (j_var 10 (pv 10)) ja_nil)) (ja_cons j_int ja_nil)))))))) (js_one (js_ret j_bl)) js_nil)
      (js_cons (js_asg (j_var 10 (pv 10)) (pg_tup rfl (pgs_cons (pg_name (i := 11) sc_law.nd rfl (by first | exact Or.inl rfl | exact Or.inr rfl)) (pgs_cons (pg_name (i := 12) sc_law.nd rfl (by first | exact Or.inl rfl | exact Or.inr rfl)) (pgs_cons (pg_name (i := 13) sc_law.nd rfl (by first | exact Or.inl rfl | exact Or.inr rfl)) pgs_nil)))) (pat_tup (pats_cons (pat_nm 11) (pats_cons (pat_nm 12) (pats_cons (pat_nm 13) pats_nil)))))
      (js_cons (js_if (PW.pt (jw_or (jt_cmp or_lt (j_var 11 (pv 11)) j_int (nomark _)) (jw_or (jt_cmp (or_ne hr) (j_bin or_add (j_bin or_mul (j_var 12 (pv 12)) (j_var 8 (pv 8))) (j_bin or_mul (j_var 13 (pv 13)) (j_var 9 (pv 9)))) (j_var 11 (pv 11)) (nomark _)) (jw_or1 (jt_cmp (or_ne hr) (j_cmp (or_eq hr) (j_var 11 (pv 11)) j_int (nomark _)) (j_and (j_cmp (or_eq hr) (j_var 8 (pv 8)) j_int (nomark _)) (j_one (j_cmp (or_eq hr) (j_var 9 (pv 9)) j_int (nomark _)))) (nomark _)))))) (js_one (js_ret j_bl)) js_nil)
      (js_one (js_if (PW.pt (jw_and (jt_cmp or_gt (j_var 11 (pv 11)) j_int (nomark _)) (jw_and1 (PW.pt (jw_or (jt_cmp (or_ne hr) (j_bin or_mod (j_var 8 (pv 8)) (j_var 11 (pv 11))) j_int (nomark _)) (jw_or1 (jt_cmp (or_ne hr) (j_bin or_mod (j_var 9 (pv 9)) (j_var 11 (pv 11))) j_int (nomark _)))))))) (js_one (js_ret j_bl)) js_nil)))))))))
      (js_cons (js_set (i := 3) sc_law.nd rfl (by first | exact Or.inl rfl | exact Or.inr rfl) (j_callO O_law_take (hr.mono (by decide)) (by rfl) (takes_of rfl rfl rfl rfl) (ja_cons (j_var 1 (pv 1)) (ja_cons j_int ja_nil))))
      (js_cons (js_set (i := 4) sc_law.nd rfl (by first | exact Or.inl rfl | exact Or.inr rfl) (j_callO O_law_numbers (hr.mono (by decide)) (by rfl) (takes_of rfl rfl rfl rfl) (ja_cons (j_var 1 (pv 1)) (ja_cons (j_var 3 (pv 3)) ja_nil))))
      (js_cons (js_setLc (i := 5) rfl sc_law.nd rfl rfl (sw_true rfl rfl rfl (by decide +kernel)) (ji_range1 (by rfl) B.n_range (j_callO O_law_take (hr.mono (by decide)) (by rfl) (takes_of rfl rfl rfl rfl) (ja_cons (j_var 1 (pv 1)) (ja_cons j_int ja_nil)))) (blkOk_by (own := [("_law_k", 2)]) (by kernel_rfl)) (fun _ _ _ _ _ => (pg_name (i := 2) sc_law.nd rfl (by first | exact Or.inl rfl | exact Or.inr rfl))) (pat_nm 2) (fun _ _ _ _ _ => jts_nil) (fun _ _ _ _ _ => (j_callO O_law_numbers (hr.mono (by decide)) (by rfl) takes0 (ja_cons (j_var 1 (pv 1)) (ja_cons (j_var 3 (pv 3)) ja_nil)))))
      (js_cons (js_set (i := 6) sc_law.nd rfl (by first | exact Or.inl rfl | exact Or.inr rfl) (j_callTy cr_listJ (by rfl) B.n_list (by decide +kernel) (ja_cons (j_var 4 (pv 4)) ja_nil)))
      (js_cons (js_set (i := 7) sc_law.nd rfl (by first | exact Or.inl rfl | exact Or.inr rfl) (j_callO O_law_drawn_rests (hr.mono (by decide)) (by rfl) (takes_of rfl rfl rfl rfl) (ja_cons (j_var 1 (pv 1)) ja_nil)))
      (js_cons (js_if (jt_not (jt_val (j_callO O_law_alike (hr.mono (by decide)) (by rfl) (takes_of rfl rfl rfl rfl) (ja_cons (j_lc rfl sc_law.nd (ji_seq (j_var 6 (pv 6))) (blkOk_by (own := [("_law_one", 8)]) (by kernel_rfl)) (fun _ _ _ _ _ => (pg_name (i := 8) sc_law.nd rfl (by first | exact Or.inl rfl | exact Or.inr rfl))) (pat_nm 8) (fun _ _ _ _ _ => jts_nil) (fun _ _ _ _ _ => (j_callO O_rest (hr.mono (by decide)) (by rfl) takes0 (ja_cons (j_var 8 (pv 8)) (ja_cons (j_var 7 (pv 7)) ja_nil))))) (ja_cons (j_callO O_law_rested (hr.mono (by decide)) (by rfl) (takes_of rfl rfl rfl rfl) (ja_cons (j_var 4 (pv 4)) (ja_cons (j_var 7 (pv 7)) ja_nil))) ja_nil))))) (js_one (js_ret j_bl)) js_nil)
      (js_cons (js_if (PW.pt (jw_or (jt_not (jt_val (j_callO O_law_alike (hr.mono (by decide)) (by rfl) (takes_of rfl rfl rfl rfl) (ja_cons (j_callO O_rested (hr.mono (by decide)) (by rfl) (takes_of rfl rfl rfl rfl) (ja_cons (j_var 6 (pv 6)) (ja_cons (j_var 7 (pv 7)) ja_nil))) (ja_cons (j_callO O_law_rested (hr.mono (by decide)) (by rfl) (takes_of rfl rfl rfl rfl) (ja_cons (j_var 4 (pv 4)) (ja_cons (j_var 7 (pv 7)) ja_nil))) ja_nil))))) (jw_or1 (jt_not (jt_val (j_callO O_law_alike (hr.mono (by decide)) (by rfl) (takes_of rfl rfl rfl rfl) (ja_cons (j_callO O_rested_1 (hr.mono (by decide)) (by rfl) (takes_of rfl rfl rfl rfl) (ja_cons (j_var 6 (pv 6)) ja_nil)) (ja_cons (j_var 4 (pv 4)) ja_nil)))))))) (js_one (js_ret j_bl)) js_nil)
      (js_cons (js_if (jt_not (jt_val (j_callO O_law_alike (hr.mono (by decide)) (by rfl) (takes_of rfl rfl rfl rfl) (ja_cons (j_callO O_timed (hr.mono (by decide)) (by rfl) (takes_of rfl rfl rfl rfl) (ja_cons (j_lc rfl sc_law.nd (ji_seq (j_var 5 (pv 5))) (blkOk_by (own := [("_law_line", 14)]) (by kernel_rfl)) (fun _ _ _ _ _ => (pg_name (i := 14) sc_law.nd rfl (by first | exact Or.inl rfl | exact Or.inr rfl))) (pat_nm 14) (fun _ _ _ _ _ => jts_nil) (fun _ _ _ _ _ => (j_callTy cr_listJ (by rfl) B.n_list (by decide +kernel) (ja_cons (j_var 14 (pv 14)) ja_nil)))) (ja_cons (j_var 6 (pv 6)) ja_nil))) (ja_cons (j_lc rfl sc_law.nd (ji_seq (j_var 5 (pv 5))) (blkOk_by (own := [("_law_line", 14)]) (by kernel_rfl)) (fun _ _ _ _ _ => (pg_name (i := 14) sc_law.nd rfl (by first | exact Or.inl rfl | exact Or.inr rfl))) (pat_nm 14) (fun _ _ _ _ _ => jts_nil) (fun _ _ _ _ _ => (j_callO O_law_sum (hr.mono (by decide)) (by rfl) takes0 (ja_cons (j_var 14 (pv 14)) (ja_cons (j_var 4 (pv 4)) ja_nil))))) ja_nil))))) (js_one (js_ret j_bl)) js_nil)
      (js_cons (js_if (PW.pt (jw_or (jt_not (jt_val (j_callO O_law_alike (hr.mono (by decide)) (by rfl) (takes_of rfl rfl rfl rfl) (ja_cons (j_lc rfl sc_law.nd (ji_seq (j_var 6 (pv 6))) (blkOk_by (own := [("_law_one", 8)]) (by kernel_rfl)) (fun _ _ _ _ _ => (pg_name (i := 8) sc_law.nd rfl (by first | exact Or.inl rfl | exact Or.inr rfl))) (pat_nm 8) (fun _ _ _ _ _ => jts_nil) (fun _ _ _ _ _ => (j_callO O_rest_1 (hr.mono (by decide)) (by rfl) takes0 (ja_cons (j_var 8 (pv 8)) ja_nil)))) (ja_cons (j_var 4 (pv 4)) ja_nil))))) (jw_or1 (jt_not (jt_val (j_callO O_law_alike (hr.mono (by decide)) (by rfl) (takes_of rfl rfl rfl rfl) (ja_cons (j_globI (by rfl) B.g_WHOLE) (ja_cons j_int ja_nil)))))))) (js_one (js_ret j_bl)) js_nil)
      (js_one (js_ret (j_and (j_callO O_law_alike (hr.mono (by decide)) (by rfl) (takes_of rfl rfl rfl rfl) (ja_cons (j_callO O_paired (hr.mono (by decide)) (by rfl) (takes_of rfl rfl rfl rfl) (ja_cons (j_var 6 (pv 6)) (ja_cons (j_callTy cr_listJ (by rfl) B.n_list (by decide +kernel) (ja_cons (j_var 4 (pv 4)) ja_nil)) ja_nil))) (ja_cons (j_callO O_law_sum (hr.mono (by decide)) (by rfl) (takes_of rfl rfl rfl rfl) (ja_cons (j_var 4 (pv 4)) (ja_cons (j_var 4 (pv 4)) ja_nil))) ja_nil))) (j_one (j_cmp (or_eq hr) (j_var 6 (pv 6)) (j_var 4 (pv 4)) (nomark _)))))))))))))))))
theorem ok_law (B : Blt mg) {f : Addr} {fd : FuncData} (D : Dn K mg "law" s_law [] [] f fd) (O_law_box : Ok1 P w K mg base 1 "_law_box" 1 [] F_law_box) (O_law_number : Ok1 P w K mg base 3 "_law_number" 1 [] F_law_number) (O_law_take : Ok1 P w K mg base 2 "_law_take" 2 [] F_law_take) (O_share : Ok1 P w K mg base 1 "share" 2 [] F_share) (O_law_whole_list : Ok1 P w K mg base 1 "_law_whole_list" 2 [] F_law_whole_list) (O_law_numbers : Ok1 P w K mg base 4 "_law_numbers" 2 [] F_law_numbers) (O_law_drawn_rests : Ok1 P w K mg base 3 "_law_drawn_rests" 1 [] F_law_drawn_rests) (O_law_rested : Ok1 P w K mg base 2 "_law_rested" 2 [] F_law_rested) (O_rest : Ok1 P w K mg base 1 "rest" 2 [] F_rest) (O_law_alike : Ok1 P w K mg base 4 "_law_alike" 2 [] (F_law_alike 4)) (O_rested : Ok1 P w K mg base 2 "rested" 2 [] F_rested) (O_rested_1 : Ok1 P w K mg base 2 "rested" 2 [.int 0] F_rested) (O_law_sum : Ok1 P w K mg base 1 "_law_sum" 2 [] F_law_sum) (O_timed : Ok1 P w K mg base 2 "timed" 2 [] F_timed) (O_rest_1 : Ok1 P w K mg base 1 "rest" 2 [.int 0] F_rest) (O_paired : Ok1 P w K mg base 1 "paired" 2 [] F_paired) : Ok1 P w K mg base 6 "law" 1 [] F_law := ok_of D (fn_law B D O_law_box O_law_number O_law_take O_share O_law_whole_list O_law_numbers O_law_drawn_rests O_law_rested O_rest O_law_alike O_rested O_rested_1 O_law_sum O_timed O_rest_1 O_paired) (fun _ _ _ _ _ _ us hl => match us, hl with | [_], _ => rfl)
end
theorem all_mk {P : Program} {w : World} {K : PySem.W.Frag} {h : Heap} {mg : Str → Option Value} {fa : Addr} (X : K.In h) (G : h.Ns mainGlobals mg) (hfa : mg "law" = some (.ref fa))
    {f0 : Addr} {od0 an0 : Option Addr} {sl0 : Array (Option Value)} {oc0 kV0 dc0 pm0 cd0 ct0 : Value}
    {T0 : Addr} {dO0 : Obj} {dn0 : Nat} {dt0_0 : Tok}
    {f1 : Addr} {od1 an1 : Option Addr} {sl1 : Array (Option Value)} {oc1 kV1 dc1 pm1 cd1 ct1 : Value}
    {T1 : Addr} {dO1 : Obj} {dn1 : Nat} {dt1_0 : Tok}
    {f2 : Addr} {od2 an2 : Option Addr} {sl2 : Array (Option Value)} {oc2 kV2 dc2 pm2 cd2 ct2 : Value}
    {f3 : Addr} {od3 an3 : Option Addr} {sl3 : Array (Option Value)} {oc3 kV3 dc3 pm3 cd3 ct3 : Value}
    {f4 : Addr} {od4 an4 : Option Addr} {sl4 : Array (Option Value)} {oc4 kV4 dc4 pm4 cd4 ct4 : Value}
    {f5 : Addr} {od5 an5 : Option Addr} {sl5 : Array (Option Value)} {oc5 kV5 dc5 pm5 cd5 ct5 : Value}
    {f6 : Addr} {od6 an6 : Option Addr} {sl6 : Array (Option Value)} {oc6 kV6 dc6 pm6 cd6 ct6 : Value}
    {f7 : Addr} {od7 an7 : Option Addr} {sl7 : Array (Option Value)} {oc7 kV7 dc7 pm7 cd7 ct7 : Value}
    {f8 : Addr} {od8 an8 : Option Addr} {sl8 : Array (Option Value)} {oc8 kV8 dc8 pm8 cd8 ct8 : Value}
    {f9 : Addr} {od9 an9 : Option Addr} {sl9 : Array (Option Value)} {oc9 kV9 dc9 pm9 cd9 ct9 : Value}
    {f10 : Addr} {od10 an10 : Option Addr} {sl10 : Array (Option Value)} {oc10 kV10 dc10 pm10 cd10 ct10 : Value}
    {f11 : Addr} {od11 an11 : Option Addr} {sl11 : Array (Option Value)} {oc11 kV11 dc11 pm11 cd11 ct11 : Value}
    {f12 : Addr} {od12 an12 : Option Addr} {sl12 : Array (Option Value)} {oc12 kV12 dc12 pm12 cd12 ct12 : Value}
    {f13 : Addr} {od13 an13 : Option Addr} {sl13 : Array (Option Value)} {oc13 kV13 dc13 pm13 cd13 ct13 : Value}
    {f14 : Addr} {od14 an14 : Option Addr} {sl14 : Array (Option Value)} {oc14 kV14 dc14 pm14 cd14 ct14 : Value}
    {f15 : Addr} {od15 an15 : Option Addr} {sl15 : Array (Option Value)} {oc15 kV15 dc15 pm15 cd15 ct15 : Value}
    {f16 : Addr} {od16 an16 : Option Addr} {sl16 : Array (Option Value)} {oc16 kV16 dc16 pm16 cd16 ct16 : Value}
    {yt_WHOLE : Tok}
    (a0 : PySem.W.nsIn K mainGlobals "rest" = some (some (.ref f0))) (l0 : K.lookup f0 = some ⟨oc0, od0, .func (PySem.W.fnOf "rest" "rest" (defArgs s_rest) (defBody s_rest) (defScope s_rest) (.ref T0) kV0 dc0 pm0 an0 cd0 ct0), sl0⟩) (c0 : PySem.W.codeIn K cd0 "rest" = true) (k0 : PySem.W.keepIn K (.ref f0) = true)
    (t0 : K.lookup T0 = some dO0) (u0 : dO0.data = .seq [Value.int 0 dt0_0].toArray dn0)
    (a1 : PySem.W.nsIn K mainGlobals "rested" = some (some (.ref f1))) (l1 : K.lookup f1 = some ⟨oc1, od1, .func (PySem.W.fnOf "rested" "rested" (defArgs s_rested) (defBody s_rested) (defScope s_rested) (.ref T1) kV1 dc1 pm1 an1 cd1 ct1), sl1⟩) (c1 : PySem.W.codeIn K cd1 "rested" = true) (k1 : PySem.W.keepIn K (.ref f1) = true)
    (t1 : K.lookup T1 = some dO1) (u1 : dO1.data = .seq [Value.int 0 dt1_0].toArray dn1)
    (a2 : PySem.W.nsIn K mainGlobals "share" = some (some (.ref f2))) (l2 : K.lookup f2 = some ⟨oc2, od2, .func (PySem.W.fnOf "share" "share" (defArgs s_share) (defBody s_share) (defScope s_share) .none kV2 dc2 pm2 an2 cd2 ct2), sl2⟩) (c2 : PySem.W.codeIn K cd2 "share" = true) (k2 : PySem.W.keepIn K (.ref f2) = true)
    (a3 : PySem.W.nsIn K mainGlobals "paired" = some (some (.ref f3))) (l3 : K.lookup f3 = some ⟨oc3, od3, .func (PySem.W.fnOf "paired" "paired" (defArgs s_paired) (defBody s_paired) (defScope s_paired) .none kV3 dc3 pm3 an3 cd3 ct3), sl3⟩) (c3 : PySem.W.codeIn K cd3 "paired" = true) (k3 : PySem.W.keepIn K (.ref f3) = true)
    (a4 : PySem.W.nsIn K mainGlobals "timed" = some (some (.ref f4))) (l4 : K.lookup f4 = some ⟨oc4, od4, .func (PySem.W.fnOf "timed" "timed" (defArgs s_timed) (defBody s_timed) (defScope s_timed) .none kV4 dc4 pm4 an4 cd4 ct4), sl4⟩) (c4 : PySem.W.codeIn K cd4 "timed" = true) (k4 : PySem.W.keepIn K (.ref f4) = true)
    (a5 : PySem.W.nsIn K mainGlobals "_law_box" = some (some (.ref f5))) (l5 : K.lookup f5 = some ⟨oc5, od5, .func (PySem.W.fnOf "_law_box" "_law_box" (defArgs s_law_box) (defBody s_law_box) (defScope s_law_box) .none kV5 dc5 pm5 an5 cd5 ct5), sl5⟩) (c5 : PySem.W.codeIn K cd5 "_law_box" = true) (k5 : PySem.W.keepIn K (.ref f5) = true)
    (a6 : PySem.W.nsIn K mainGlobals "_law_mixed" = some (some (.ref f6))) (l6 : K.lookup f6 = some ⟨oc6, od6, .func (PySem.W.fnOf "_law_mixed" "_law_mixed" (defArgs s_law_mixed) (defBody s_law_mixed) (defScope s_law_mixed) .none kV6 dc6 pm6 an6 cd6 ct6), sl6⟩) (c6 : PySem.W.codeIn K cd6 "_law_mixed" = true) (k6 : PySem.W.keepIn K (.ref f6) = true)
    (a7 : PySem.W.nsIn K mainGlobals "_law_take" = some (some (.ref f7))) (l7 : K.lookup f7 = some ⟨oc7, od7, .func (PySem.W.fnOf "_law_take" "_law_take" (defArgs s_law_take) (defBody s_law_take) (defScope s_law_take) .none kV7 dc7 pm7 an7 cd7 ct7), sl7⟩) (c7 : PySem.W.codeIn K cd7 "_law_take" = true) (k7 : PySem.W.keepIn K (.ref f7) = true)
    (a8 : PySem.W.nsIn K mainGlobals "_law_alike" = some (some (.ref f8))) (l8 : K.lookup f8 = some ⟨oc8, od8, .func (PySem.W.fnOf "_law_alike" "_law_alike" (defArgs s_law_alike) (defBody s_law_alike) (defScope s_law_alike) .none kV8 dc8 pm8 an8 cd8 ct8), sl8⟩) (c8 : PySem.W.codeIn K cd8 "_law_alike" = true) (k8 : PySem.W.keepIn K (.ref f8) = true)
    (a9 : PySem.W.nsIn K mainGlobals "_law_number" = some (some (.ref f9))) (l9 : K.lookup f9 = some ⟨oc9, od9, .func (PySem.W.fnOf "_law_number" "_law_number" (defArgs s_law_number) (defBody s_law_number) (defScope s_law_number) .none kV9 dc9 pm9 an9 cd9 ct9), sl9⟩) (c9 : PySem.W.codeIn K cd9 "_law_number" = true) (k9 : PySem.W.keepIn K (.ref f9) = true)
    (a10 : PySem.W.nsIn K mainGlobals "_law_numbers" = some (some (.ref f10))) (l10 : K.lookup f10 = some ⟨oc10, od10, .func (PySem.W.fnOf "_law_numbers" "_law_numbers" (defArgs s_law_numbers) (defBody s_law_numbers) (defScope s_law_numbers) .none kV10 dc10 pm10 an10 cd10 ct10), sl10⟩) (c10 : PySem.W.codeIn K cd10 "_law_numbers" = true) (k10 : PySem.W.keepIn K (.ref f10) = true)
    (a11 : PySem.W.nsIn K mainGlobals "_law_drawn_rests" = some (some (.ref f11))) (l11 : K.lookup f11 = some ⟨oc11, od11, .func (PySem.W.fnOf "_law_drawn_rests" "_law_drawn_rests" (defArgs s_law_drawn_rests) (defBody s_law_drawn_rests) (defScope s_law_drawn_rests) .none kV11 dc11 pm11 an11 cd11 ct11), sl11⟩) (c11 : PySem.W.codeIn K cd11 "_law_drawn_rests" = true) (k11 : PySem.W.keepIn K (.ref f11) = true)
    (a12 : PySem.W.nsIn K mainGlobals "_law_rest" = some (some (.ref f12))) (l12 : K.lookup f12 = some ⟨oc12, od12, .func (PySem.W.fnOf "_law_rest" "_law_rest" (defArgs s_law_rest) (defBody s_law_rest) (defScope s_law_rest) .none kV12 dc12 pm12 an12 cd12 ct12), sl12⟩) (c12 : PySem.W.codeIn K cd12 "_law_rest" = true) (k12 : PySem.W.keepIn K (.ref f12) = true)
    (a13 : PySem.W.nsIn K mainGlobals "_law_rested" = some (some (.ref f13))) (l13 : K.lookup f13 = some ⟨oc13, od13, .func (PySem.W.fnOf "_law_rested" "_law_rested" (defArgs s_law_rested) (defBody s_law_rested) (defScope s_law_rested) .none kV13 dc13 pm13 an13 cd13 ct13), sl13⟩) (c13 : PySem.W.codeIn K cd13 "_law_rested" = true) (k13 : PySem.W.keepIn K (.ref f13) = true)
    (a14 : PySem.W.nsIn K mainGlobals "_law_sum" = some (some (.ref f14))) (l14 : K.lookup f14 = some ⟨oc14, od14, .func (PySem.W.fnOf "_law_sum" "_law_sum" (defArgs s_law_sum) (defBody s_law_sum) (defScope s_law_sum) .none kV14 dc14 pm14 an14 cd14 ct14), sl14⟩) (c14 : PySem.W.codeIn K cd14 "_law_sum" = true) (k14 : PySem.W.keepIn K (.ref f14) = true)
    (a15 : PySem.W.nsIn K mainGlobals "_law_whole_list" = some (some (.ref f15))) (l15 : K.lookup f15 = some ⟨oc15, od15, .func (PySem.W.fnOf "_law_whole_list" "_law_whole_list" (defArgs s_law_whole_list) (defBody s_law_whole_list) (defScope s_law_whole_list) .none kV15 dc15 pm15 an15 cd15 ct15), sl15⟩) (c15 : PySem.W.codeIn K cd15 "_law_whole_list" = true) (k15 : PySem.W.keepIn K (.ref f15) = true)
    (a16 : PySem.W.nsIn K mainGlobals "law" = some (some (.ref f16))) (l16 : K.lookup f16 = some ⟨oc16, od16, .func (PySem.W.fnOf "law" "law" (defArgs s_law) (defBody s_law) (defScope s_law) .none kV16 dc16 pm16 an16 cd16 ct16), sl16⟩) (c16 : PySem.W.codeIn K cd16 "law" = true) (k16 : PySem.W.keepIn K (.ref f16) = true)
    (z_all : PySem.W.nsIn K mainGlobals "all" = some none)
    (z_bool : PySem.W.nsIn K mainGlobals "bool" = some none)
    (z_int : PySem.W.nsIn K mainGlobals "int" = some none)
    (z_isinstance : PySem.W.nsIn K mainGlobals "isinstance" = some none)
    (z_len : PySem.W.nsIn K mainGlobals "len" = some none)
    (z_list : PySem.W.nsIn K mainGlobals "list" = some none)
    (z_range : PySem.W.nsIn K mainGlobals "range" = some none)
    (z_str : PySem.W.nsIn K mainGlobals "str" = some none)
    (z_sum : PySem.W.nsIn K mainGlobals "sum" = some none)
    (z_tuple : PySem.W.nsIn K mainGlobals "tuple" = some none)
    (z_zip : PySem.W.nsIn K mainGlobals "zip" = some none)
    (y_WHOLE : PySem.W.nsIn K mainGlobals "WHOLE" = some (some (.int 0 yt_WHOLE)))
    : ∃ fd : FuncData, (∀ (s : Shared) (v : Value), BindsTo s fd ⟨[v], []⟩ [("_law_script", v)]) ∧ ∀ base : Heap, K.In base → base.Ns mainGlobals mg → FnOk P w K mg base (L2.CX P w) 6 fa fd ["_law_script"] (spF ⟨K, mg⟩ 1 F_law) := by
  have e := hfa.symm.trans (PySem.W.mg_of X G a16)
  cases e
  have B : Blt mg := ⟨PySem.W.mg_none_of X G z_all, PySem.W.mg_none_of X G z_bool, PySem.W.mg_none_of X G z_int, PySem.W.mg_none_of X G z_isinstance, PySem.W.mg_none_of X G z_len, PySem.W.mg_none_of X G z_list, PySem.W.mg_none_of X G z_range, PySem.W.mg_none_of X G z_str, PySem.W.mg_none_of X G z_sum, PySem.W.mg_none_of X G z_tuple, PySem.W.mg_none_of X G z_zip, ⟨_, PySem.W.mg_of X G y_WHOLE⟩⟩
  have D0 := dn_mkD (st := s_rest) (dvs := [V.int 0]) (its := [Value.int 0 dt0_0]) (PySem.W.mg_of X G a0) l0 c0 k0 (by simp) t0 u0 (.cons ⟨_, rfl⟩ .nil)
  have D1 := dn_mkD (st := s_rested) (dvs := [V.int 0]) (its := [Value.int 0 dt1_0]) (PySem.W.mg_of X G a1) l1 c1 k1 (by simp) t1 u1 (.cons ⟨_, rfl⟩ .nil)
  have D2 := dn_mk (st := s_share) (PySem.W.mg_of X G a2) l2 c2 k2
  have D3 := dn_mk (st := s_paired) (PySem.W.mg_of X G a3) l3 c3 k3
  have D4 := dn_mk (st := s_timed) (PySem.W.mg_of X G a4) l4 c4 k4
  have D5 := dn_mk (st := s_law_box) (PySem.W.mg_of X G a5) l5 c5 k5
  have D6 := dn_mk (st := s_law_mixed) (PySem.W.mg_of X G a6) l6 c6 k6
  have D7 := dn_mk (st := s_law_take) (PySem.W.mg_of X G a7) l7 c7 k7
  have D8 := dn_mk (st := s_law_alike) (PySem.W.mg_of X G a8) l8 c8 k8
  have D9 := dn_mk (st := s_law_number) (PySem.W.mg_of X G a9) l9 c9 k9
  have D10 := dn_mk (st := s_law_numbers) (PySem.W.mg_of X G a10) l10 c10 k10
  have D11 := dn_mk (st := s_law_drawn_rests) (PySem.W.mg_of X G a11) l11 c11 k11
  have D12 := dn_mk (st := s_law_rest) (PySem.W.mg_of X G a12) l12 c12 k12
  have D13 := dn_mk (st := s_law_rested) (PySem.W.mg_of X G a13) l13 c13 k13
  have D14 := dn_mk (st := s_law_sum) (PySem.W.mg_of X G a14) l14 c14 k14
  have D15 := dn_mk (st := s_law_whole_list) (PySem.W.mg_of X G a15) l15 c15 k15
  have D16 := dn_mk (st := s_law) (PySem.W.mg_of X G a16) l16 c16 k16
  refine ⟨PySem.W.fnOf "law" "law" (defArgs s_law) (defBody s_law) (defScope s_law) .none kV16 dc16 pm16 an16 cd16 ct16, fun s v => .of_eq rfl, fun base _ _ => ?_⟩
  have O_rest := ok_rest (P := P) (w := w) (base := base) B D0
  have O_rest_1 := ok_rest_1 (P := P) (w := w) (base := base) B D0
  have O_rested := ok_rested (P := P) (w := w) (base := base) B D1 O_rest
  have O_rested_1 := ok_rested_1 (P := P) (w := w) (base := base) B D1 O_rest
  have O_share := ok_share (P := P) (w := w) (base := base) B D2
  have O_paired := ok_paired (P := P) (w := w) (base := base) B D3
  have O_timed := ok_timed (P := P) (w := w) (base := base) B D4 O_paired
  have O_law_box := ok_law_box (P := P) (w := w) (base := base) B D5
  have O_law_mixed := ok_law_mixed (P := P) (w := w) (base := base) B D6
  have O_law_take := ok_law_take (P := P) (w := w) (base := base) B D7 O_law_mixed
  have O_law_alike := ok_law_alike (P := P) (w := w) (base := base) B D8
  have O_law_number := ok_law_number (P := P) (w := w) (base := base) B D9 O_law_take
  have O_law_numbers := ok_law_numbers (P := P) (w := w) (base := base) B D10 O_law_number
  have O_law_drawn_rests := ok_law_drawn_rests (P := P) (w := w) (base := base) B D11 O_law_take
  have O_law_rest := ok_law_rest (P := P) (w := w) (base := base) B D12
  have O_law_rested := ok_law_rested (P := P) (w := w) (base := base) B D13 O_law_rest
  have O_law_sum := ok_law_sum (P := P) (w := w) (base := base) B D14
  have O_law_whole_list := ok_law_whole_list (P := P) (w := w) (base := base) B D15
  exact fn_law B D16 O_law_box O_law_number O_law_take O_share O_law_whole_list O_law_numbers O_law_drawn_rests O_law_rested O_rest O_law_alike O_rested O_rested_1 O_law_sum O_timed O_rest_1 O_paired
end L

open PySem PySem.W PyProof.Rows in
set_option maxRecDepth 100000 in
set_option maxHeartbeats 0 in
theorem PySem.Challenge.cw_cupweb_k01_shares_and_rests_holds : PySem.Challenge.rw_cupweb_k01_shares_and_rests.Holds := by
  w_on; o_law; k_head; (case hw => w_witness2)
  k_fill
  refine J.walk_J (l := PySem.Challenge.rw_cupweb_k01_shares_and_rests) (n := 63) (k := 6) (x := "_law_script") (Fm := L.F_law) rfl (by decide) rfl ⟨rfl, by decide, by decide⟩ (fun w h Y => PySem.W.kIn_of Y) ?F L.law_true
  case F =>
    intro w mg fa h KX G hmg
    refine' L.all_mk KX G hmg ?a0 ?l0 ?c0 ?k0 ?t0 ?u0 ?a1 ?l1 ?c1 ?k1 ?t1 ?u1 ?a2 ?l2 ?c2 ?k2 ?a3 ?l3 ?c3 ?k3 ?a4 ?l4 ?c4 ?k4 ?a5 ?l5 ?c5 ?k5 ?a6 ?l6 ?c6 ?k6 ?a7 ?l7 ?c7 ?k7 ?a8 ?l8 ?c8 ?k8 ?a9 ?l9 ?c9 ?k9 ?a10 ?l10 ?c10 ?k10 ?a11 ?l11 ?c11 ?k11 ?a12 ?l12 ?c12 ?k12 ?a13 ?l13 ?c13 ?k13 ?a14 ?l14 ?c14 ?k14 ?a15 ?l15 ?c15 ?k15 ?a16 ?l16 ?c16 ?k16 ?z_all ?z_bool ?z_int ?z_isinstance ?z_len ?z_list ?z_range ?z_str ?z_sum ?z_tuple ?z_zip ?y_WHOLE
    (case a0 => k_is)
    (case l0 => k_is)
    (case c0 => k_is)
    (case k0 => k_is)
    (case t0 => k_is)
    (case u0 => exact rfl)
    (case a1 => k_is)
    (case l1 => k_is)
    (case c1 => k_is)
    (case k1 => k_is)
    (case t1 => k_is)
    (case u1 => exact rfl)
    (case a2 => k_is)
    (case l2 => k_is)
    (case c2 => k_is)
    (case k2 => k_is)
    (case a3 => k_is)
    (case l3 => k_is)
    (case c3 => k_is)
    (case k3 => k_is)
    (case a4 => k_is)
    (case l4 => k_is)
    (case c4 => k_is)
    (case k4 => k_is)
    (case a5 => k_is)
    (case l5 => k_is)
    (case c5 => k_is)
    (case k5 => k_is)
    (case a6 => k_is)
    (case l6 => k_is)
    (case c6 => k_is)
    (case k6 => k_is)
    (case a7 => k_is)
    (case l7 => k_is)
    (case c7 => k_is)
    (case k7 => k_is)
    (case a8 => k_is)
    (case l8 => k_is)
    (case c8 => k_is)
    (case k8 => k_is)
    (case a9 => k_is)
    (case l9 => k_is)
    (case c9 => k_is)
    (case k9 => k_is)
    (case a10 => k_is)
    (case l10 => k_is)
    (case c10 => k_is)
    (case k10 => k_is)
    (case a11 => k_is)
    (case l11 => k_is)
    (case c11 => k_is)
    (case k11 => k_is)
    (case a12 => k_is)
    (case l12 => k_is)
    (case c12 => k_is)
    (case k12 => k_is)
    (case a13 => k_is)
    (case l13 => k_is)
    (case c13 => k_is)
    (case k13 => k_is)
    (case a14 => k_is)
    (case l14 => k_is)
    (case c14 => k_is)
    (case k14 => k_is)
    (case a15 => k_is)
    (case l15 => k_is)
    (case c15 => k_is)
    (case k15 => k_is)
    (case a16 => k_is)
    (case l16 => k_is)
    (case c16 => k_is)
    (case k16 => k_is)
    (case z_all => k_is)
    (case z_bool => k_is)
    (case z_int => k_is)
    (case z_isinstance => k_is)
    (case z_len => k_is)
    (case z_list => k_is)
    (case z_range => k_is)
    (case z_str => k_is)
    (case z_sum => k_is)
    (case z_tuple => k_is)
    (case z_zip => k_is)
    (case y_WHOLE => k_is)

#print axioms PySem.Challenge.cw_cupweb_k01_shares_and_rests_holds
