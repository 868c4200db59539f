import PyProof.Rows.All
import Wide.All
import OpenK.AllK
import Wide.FinOn
import HandS.ForMost
import HandS.ForExc
import HandS.CallSlots
import HandS.Defaults
import HandS.Wide
import HandS.IsInst
import HandS.Lambda
import HandS.ExcCtx
import KE.KNest
import HandS.Style
import HandS.Zip
import HandS.TupAny
import HandS.EndTab
import HandS.DictComp
import HandS.SetBool
import HandS.TupSets
import HandS.Conv
import HandS.Strs
import KE.SortData
import HandS.MapObj
import HandS.Small
import HandS.TupLen
import HandS.Sort
import HandS.Deep
import PyProof.ListRange
import HandS.More
import KE.KDictZip
import HandS.ExcInit
import HandS.ClsMeth
import HandS.HotCalls
import HandS.ExcIs
import HandS.ExcField
import HandS.Text
import PyProof.FactsAll.object_2
import HandS.SetFor
import PyProof.FactsAll.set_1
import PyProof.FactsAll.set_2
import KE.KEqDict
import PySem.Challenge.RW_cupweb_k46_whole_rows_on_lesser_webs
set_option Elab.async false
set_option linter.all false
set_option maxRecDepth 100000
set_option autoImplicit false
set_option exponentiation.threshold 2000
namespace J
open PySem L2
/-! values -/
inductive VV where
  | non | bl (b : Bool) | int (i : Int) | str (x : Str)
  | tup (xs : List VV) | lst (xs : List VV) | scr (xs : List VV)
  | dT (ks : List (List Key)) (vs : List VV)
  | dK (ks : List Key) (vs : List VV)
  | ins (c : Str) (ns : List Str) (vs : List VV)
  | obj (n : Nat)
  | glb (x : Str)
  | ty (n : String)
  | raw (a : Addr)
/-- a mutable root -/
inductive VO where
  | fzn (v : VV)
  | fl (xs : List VV)
  | lo (xs : List VV)
  | dT (ks : List (List Key)) (vs : List VV)
  | dK (ks : List Key) (vs : List VV)
  | ins (c : Str) (ns : List Str) (vs : List VV)
abbrev VH := List VO
abbrev VSt := List (Option VV)
inductive Res (α : Type) where
  | no
  | ok (a : α) (h : VH)
  | exc (x : Str) (ns : List Str) (vs : List VV) (h : VH)
def Res.bind {α β : Type} (r : Res α) (k : α → VH → Res β) : Res β :=
  match r with
  | .no => .no
  | .ok a h => k a h
  | .exc x ns vs h => .exc x ns vs h
structure Ct where
  K : PySem.W.Frag
  mg : Str → Option Value
structure Gh where
  io : List Addr
  fz : Addr → Prop
  kp : Addr → Prop
/-- a tuple: a frozen one -/
def TupAt (_c : Ct) (_ : Addr → Prop) (H : Hp) (p : Addr) (us : List V) : Prop := H p = some (.tup us)
theorem TupAt.sq {c : Ct} {z : Addr → Prop} {H : Hp} {p : Addr} {us : List V} (h : TupAt c z H p us) : SqT c.K H p us := .inl (.inl h)
theorem TupAt.stp {c : Ct} {z z' : Addr → Prop} {H H' : Hp} {p : Addr} {us : List V} (ht : ∀ p us, H p = some (.tup us) → H' p = some (.tup us)) (h : TupAt c z H p us) : TupAt c z' H' p us := ht _ _ h
/-- a list that is only read: a frozen one, or one of the module's -/
def LstAt (c : Ct) (z : Addr → Prop) (H : Hp) (p : Addr) (us : List V) : Prop :=
  (z p ∧ Rd H p (.lst us)) ∨ ∃ (o : Obj) (its : Array Value) (n : Nat), c.K.lookup p = some o ∧ o.cls = .type "list" ∧ o.dict = none ∧ o.data = .seq its n ∧ its.size ≤ sizeLine ∧ Vals us its.toList
theorem LstAt.sq {c : Ct} {z : Addr → Prop} {H : Hp} {p : Addr} {us : List V} (h : LstAt c z H p us) : SqL c.K H p us := by
  rcases h with h | h
  · exact .inl h.2
  · exact .inr h
theorem rd_same {H H' : Hp} {p : Addr} {o : HO} (e : H' p = H p) (h : Rd H p o) : Rd H' p o := by
  rcases h with h | ⟨q, h⟩
  · exact .inl (e.trans h)
  · exact .inr ⟨q, e.trans h⟩
/-- what is frozen stands; a dict may be locked -/
def Ke (o o' : Option HO) : Prop := o' = o ∨ ∃ od kvs, o = some (.dK kvs) ∧ o' = some (.frz od (.dK kvs))
theorem Ke.refl {o : Option HO} : Ke o o := .inl rfl
theorem Ke.trans {a b c : Option HO} (h : Ke a b) (k : Ke b c) : Ke a c := by
  rcases h with h | ⟨od, kvs, h1, h2⟩
  · rw [← h]; exact k
  · rcases k with k | ⟨od2, kvs2, k1, k2⟩
    · exact .inr ⟨od, kvs, h1, k.trans h2⟩
    · rw [h2] at k1; cases k1
theorem Ke.at {o : HO} {a b : Option HO} (h : Ke a b) (e : a = some o) (n : ∀ kvs, o ≠ .dK kvs) : b = some o := by
  rcases h with h | ⟨od, kvs, h1, h2⟩
  · exact h.trans e
  · rw [e] at h1; exact absurd (Option.some.inj h1) (n kvs)
theorem Ke.ex {a b : Option HO} (h : Ke a b) (e : ∃ o, a = some o) : ∃ o, b = some o := by
  obtain ⟨o, e⟩ := e
  rcases h with h | ⟨od, kvs, h1, h2⟩
  · exact ⟨o, h.trans e⟩
  · exact ⟨_, h2⟩
theorem Ke.rd {H H' : Hp} {p : Addr} {o : HO} (h : Ke (H p) (H' p)) (r : Rd H p o) (n : ∀ kvs, o ≠ .dK kvs) : Rd H' p o := by
  rcases h with h | ⟨od, kvs, h1, h2⟩
  · exact rd_same h r
  · rcases r with r | ⟨q, r⟩
    · rw [r] at h1; exact absurd (Option.some.inj h1) (n kvs)
    · rw [r] at h1; cases h1
theorem Ke.dk {H H' : Hp} {p : Addr} {kvs : List (Key × V)} (h : Ke (H p) (H' p)) (r : Rd H p (.dK kvs)) : Rd H' p (.dK kvs) := by
  rcases h with h | ⟨od, kvs', h1, h2⟩
  · exact rd_same h r
  · rcases r with r | ⟨q, r⟩
    · rw [r] at h1; cases h1; exact .inr ⟨od, h2⟩
    · rw [r] at h1; cases h1
theorem LstAt.stp {c : Ct} {z z' : Addr → Prop} {H H' : Hp} {p : Addr} {us : List V} (hz : ∀ p, z p → z' p) (hH : ∀ p, z p → Ke (H p) (H' p)) (h : LstAt c z H p us) : LstAt c z' H' p us := by
  rcases h with h | h
  · exact .inl ⟨hz p h.1, (hH p h.1).rd h.2 (fun _ z => nomatch z)⟩
  · exact .inr h
mutual
def RV (c : Ct) (z : Addr → Prop) (H : Hp) : VV → V → Prop
  | .non, u => u = .non
  | .bl b, u => u = .bl b
  | .int i, u => u = .int i
  | .str x, u => u = .str x
  | .tup xs, u => ∃ p us, u = .ref p ∧ TupAt c z H p us ∧ RVs c z H xs us
  | .lst xs, u => ∃ p us, u = .ref p ∧ z p ∧ H p = some (.lst us) ∧ RVs c z H xs us
  | .scr xs, u => ∃ p us, u = .ref p ∧ LstAt c z H p us ∧ RVs c z H xs us
  | .dT ks vs, u => ∃ p us, u = .ref p ∧ z p ∧ H p = some (.dT (ks.zip us)) ∧ ks.length = us.length ∧ RVs c z H vs us
  | .dK ks vs, u => ∃ p us, u = .ref p ∧ z p ∧ Rd H p (.dK (ks.zip us)) ∧ ks.length = us.length ∧ RVs c z H vs us
  | .ins x ns vs, u => ∃ p C dx us, u = .ref p ∧ z p ∧ c.mg x = some (.ref C) ∧ H p = some (.ins C dx (ns.zip us)) ∧ ns.length = us.length ∧ RVs c z H vs us
  | .obj _, _ => False
  | .glb x, u => ∃ a, c.mg x = some (.ref a) ∧ u = .ref a
  | .ty n, u => u = .ty n
  | .raw a, u => u = .ref a
def RVs (c : Ct) (z : Addr → Prop) (H : Hp) : List VV → List V → Prop
  | [], us => us = []
  | x :: xs, us => ∃ u r, us = u :: r ∧ RV c z H x u ∧ RVs c z H xs r
end
/-- a value at the top: a root, or data -/
def RT (c : Ct) (g : Gh) (H : Hp) : VV → V → Prop
  | .obj n, u => ∃ a, g.io[n]? = some a ∧ u = .ref a
  | v, u => RV c g.fz H v u
def RTs (c : Ct) (g : Gh) (H : Hp) : List VV → List V → Prop
  | [], us => us = []
  | x :: xs, us => ∃ u r, us = u :: r ∧ RT c g H x u ∧ RTs c g H xs r
def VV.isObj : VV → Bool
  | .obj _ => true
  | _ => false
def RO (c : Ct) (g : Gh) (H : Hp) : VO → Addr → Prop
  | .fzn v, a => g.fz a ∧ RV c g.fz H v (.ref a)
  | .fl xs, a => ¬ g.fz a ∧ ∃ us, H a = some (.lst us) ∧ RVs c g.fz H xs us
  | .lo xs, a => ¬ g.fz a ∧ ∃ us, H a = some (.lst us) ∧ RTs c g H xs us
  | .dT ks vs, a => ¬ g.fz a ∧ ∃ us, H a = some (.dT (ks.zip us)) ∧ ks.length = us.length ∧ RVs c g.fz H vs us
  | .dK ks vs, a => ¬ g.fz a ∧ ∃ us, H a = some (.dK (ks.zip us)) ∧ ks.length = us.length ∧ RVs c g.fz H vs us
  | .ins x ns vs, a => ¬ g.fz a ∧ ∃ C dx us, c.mg x = some (.ref C) ∧ H a = some (.ins C dx (ns.zip us)) ∧ ns.length = us.length ∧ RTs c g H vs us
/-- the table of lambdas of the def that makes some -/
def lamFn : Str := "law"
def lamQ : Str := lamFn ++ ".<locals>." ++ "<lambda>"
def LTab (c : Ct) (H : Hp) : Prop := ∀ cc P, PySem.W.tabIn c.K lamFn = some (cc, P) → LamX.TabS H P lamQ
def NoTab (D : Addr) (o : Option HO) : Prop := (∀ ps, o ≠ some (.tbl ps)) ∧ ∀ q, o ≠ some (LamX.CodeO D q)
theorem NoTab.none {D : Addr} {o : Option HO} (e : o = Option.none) : NoTab D o := by
  subst e
  exact ⟨fun _ z => (by cases z), fun _ z => (by cases z)⟩
theorem noTab_of {D : Addr} {o : HO} (h : ∀ ps, o ≠ .tbl ps) (h2 : ∀ f, o ≠ .ext f) : NoTab D (some o) :=
  ⟨fun ps z => h ps (Option.some.inj z), fun q z => by
    have z := Option.some.inj z
    unfold LamX.CodeO at z
    exact h2 _ z⟩
theorem LTab.upd {c : Ct} {H : Hp} {D : Addr} {O : HO} (t : LTab c H) (n : NoTab D (H D)) : LTab c (upd H D O) := fun cc P e => by
  obtain ⟨ps, h1, h2, h3⟩ := t cc P e
  refine ⟨ps, by rw [upd_ne (fun z => n.1 ps (by rw [← z]; exact h1))]; exact h1, h2, fun pos cv hc => ?_⟩
  obtain ⟨k, e1, e2⟩ := h3 pos cv hc
  exact ⟨k, e1, by rw [upd_ne (fun z => n.2 lamQ (by rw [← z]; exact e2))]; exact e2⟩
theorem RO.noTab {c : Ct} {g : Gh} {H : Hp} {o : VO} {a : Addr} (h : RO c g H o a) (nz : ¬ g.fz a) : NoTab a (H a) := by
  cases o with
  | fzn v => exact absurd h.1 nz
  | fl xs => obtain ⟨h1, us, h3, h4⟩ := h; rw [h3]; exact noTab_of (fun _ z => by cases z) (fun _ z => by cases z)
  | lo xs => obtain ⟨h1, us, h3, h4⟩ := h; rw [h3]; exact noTab_of (fun _ z => by cases z) (fun _ z => by cases z)
  | dT ks vs => obtain ⟨h1, us, h3, h4⟩ := h; rw [h3]; exact noTab_of (fun _ z => by cases z) (fun _ z => by cases z)
  | dK ks vs => obtain ⟨h1, us, h3, h4⟩ := h; rw [h3]; exact noTab_of (fun _ z => by cases z) (fun _ z => by cases z)
  | ins x ns vs => obtain ⟨h1, C, dx, us, h3, h4, h5⟩ := h; rw [h4]; exact noTab_of (fun _ z => by cases z) (fun _ z => by cases z)
structure RH (c : Ct) (g : Gh) (h : VH) (H : Hp) : Prop where
  len : g.io.length = h.length
  nd : g.io.Nodup
  at' : ∀ (n : Nat) (o : VO) (a : Addr), h[n]? = some o → g.io[n]? = some a → RO c g H o a
  fz : ∀ q, g.fz q → ∃ o, H q = some o
  kp : ∀ q, g.kp q → ∃ o, H q = some o
  kd : ∀ q, g.kp q → ¬ g.fz q ∧ q ∉ g.io
  tb : LTab c H
  nt : ∀ q, g.fz q ∨ g.kp q → ∀ ps, H q ≠ some (.tbl ps)
structure Stp (g : Gh) (H : Hp) (g' : Gh) (H' : Hp) : Prop where
  io : g.io <+: g'.io
  fz : ∀ p, g.fz p → g'.fz p
  kp : ∀ p, g.kp p → g'.kp p
  fH : ∀ p, g.fz p → Ke (H p) (H' p)
  kH : ∀ p, g.kp p → H' p = H p
  tp : ∀ p us, H p = some (.tup us) → H' p = some (.tup us)
theorem Stp.refl {g : Gh} {H : Hp} : Stp g H g H := ⟨List.prefix_rfl, fun _ h => h, fun _ h => h, fun _ _ => .refl, fun _ _ => rfl, fun _ _ h => h⟩
theorem Stp.trans {g g1 g2 : Gh} {H H1 H2 : Hp} (a : Stp g H g1 H1) (b : Stp g1 H1 g2 H2) : Stp g H g2 H2 :=
  ⟨a.io.trans b.io, fun p h => b.fz p (a.fz p h), fun p h => b.kp p (a.kp p h), fun p h => (a.fH p h).trans (b.fH p (a.fz p h)), fun p h => (b.kH p (a.kp p h)).trans (a.kH p h), fun p us h => b.tp p us (a.tp p us h)⟩
mutual
theorem RV.stp {c : Ct} {z z' : Addr → Prop} {H H' : Hp} (hz : ∀ p, z p → z' p) (hH : ∀ p, z p → Ke (H p) (H' p)) (ht : ∀ p us, H p = some (.tup us) → H' p = some (.tup us)) : ∀ (v : VV) (u : V), RV c z H v u → RV c z' H' v u
  | .non, u, h => by simpa only [RV] using h
  | .bl b, u, h => by simpa only [RV] using h
  | .int i, u, h => by simpa only [RV] using h
  | .str x, u, h => by simpa only [RV] using h
  | .tup xs, u, h => by
    rw [RV] at h ⊢
    obtain ⟨p, us, e, r, q⟩ := h
    exact ⟨p, us, e, r.stp ht, RVs.stp hz hH ht xs us q⟩
  | .lst xs, u, h => by
    rw [RV] at h ⊢
    obtain ⟨p, us, e, hp, r, q⟩ := h
    exact ⟨p, us, e, hz p hp, (hH p hp).at r (fun _ z => nomatch z), RVs.stp hz hH ht xs us q⟩
  | .scr xs, u, h => by
    rw [RV] at h ⊢
    obtain ⟨p, us, e, r, q⟩ := h
    exact ⟨p, us, e, r.stp hz hH, RVs.stp hz hH ht xs us q⟩
  | .dT ks vs, u, h => by
    rw [RV] at h ⊢
    obtain ⟨p, us, e, hp, r, l, q⟩ := h
    exact ⟨p, us, e, hz p hp, (hH p hp).at r (fun _ z => nomatch z), l, RVs.stp hz hH ht vs us q⟩
  | .dK ks vs, u, h => by
    rw [RV] at h ⊢
    obtain ⟨p, us, e, hp, r, l, q⟩ := h
    exact ⟨p, us, e, hz p hp, (hH p hp).dk r, l, RVs.stp hz hH ht vs us q⟩
  | .ins x ns vs, u, h => by
    rw [RV] at h ⊢
    obtain ⟨p, C, dx, us, e, hp, m, r, l, q⟩ := h
    exact ⟨p, C, dx, us, e, hz p hp, m, (hH p hp).at r (fun _ z => nomatch z), l, RVs.stp hz hH ht vs us q⟩
  | .obj _, _, h => by rw [RV] at h; exact h.elim
  | .glb x, u, h => by simpa only [RV] using h
  | .ty n, u, h => by simpa only [RV] using h
  | .raw a, u, h => by simpa only [RV] using h
theorem RVs.stp {c : Ct} {z z' : Addr → Prop} {H H' : Hp} (hz : ∀ p, z p → z' p) (hH : ∀ p, z p → Ke (H p) (H' p)) (ht : ∀ p us, H p = some (.tup us) → H' p = some (.tup us)) : ∀ (vs : List VV) (us : List V), RVs c z H vs us → RVs c z' H' vs us
  | [], us, h => by simpa only [RVs] using h
  | x :: xs, us, h => by
    rw [RVs] at h ⊢
    obtain ⟨u, r, e, a, b⟩ := h
    exact ⟨u, r, e, RV.stp hz hH ht x u a, RVs.stp hz hH ht xs r b⟩
end
theorem Stp.rv {c : Ct} {g g' : Gh} {H H' : Hp} (s : Stp g H g' H') {v : VV} {u : V} (h : RV c g.fz H v u) : RV c g'.fz H' v u := RV.stp s.fz s.fH s.tp _ _ h
theorem Stp.rvs {c : Ct} {g g' : Gh} {H H' : Hp} (s : Stp g H g' H') {v : List VV} {u : List V} (h : RVs c g.fz H v u) : RVs c g'.fz H' v u := RVs.stp s.fz s.fH s.tp _ _ h
theorem RT.of_rv {c : Ct} {g : Gh} {H : Hp} {v : VV} {u : V} (h : RV c g.fz H v u) : RT c g H v u := by
  cases v with
  | obj n => rw [RV] at h; exact h.elim
  | _ => exact h
theorem RT.rv {c : Ct} {g : Gh} {H : Hp} {v : VV} {u : V} (h : RT c g H v u) (n : v.isObj = false) : RV c g.fz H v u := by
  cases v with
  | obj n => cases n
  | _ => exact h
theorem RT.stp {c : Ct} {g g' : Gh} {H H' : Hp} (s : Stp g H g' H') {v : VV} {u : V} (h : RT c g H v u) : RT c g' H' v u := by
  cases v with
  | obj n =>
    obtain ⟨a, e, hu⟩ := h
    refine ⟨a, ?_, hu⟩
    obtain ⟨l, hl⟩ := s.io
    rw [← hl, List.getElem?_append_left (List.getElem?_eq_some_iff.mp e).1]
    exact e
  | _ => exact RT.of_rv (RV.stp s.fz s.fH s.tp _ _ (RT.rv h rfl))
theorem RTs.stp {c : Ct} {g g' : Gh} {H H' : Hp} (s : Stp g H g' H') : ∀ {vs : List VV} {us : List V}, RTs c g H vs us → RTs c g' H' vs us
  | [], us, h => h
  | x :: xs, us, h => by
    obtain ⟨u, r, e, a, b⟩ := h
    exact ⟨u, r, e, a.stp s, RTs.stp s b⟩
theorem RTs.of_rvs {c : Ct} {g : Gh} {H : Hp} : ∀ {vs : List VV} {us : List V}, RVs c g.fz H vs us → RTs c g H vs us
  | [], us, h => by rw [RVs] at h; exact h
  | x :: xs, us, h => by
    rw [RVs] at h
    obtain ⟨u, r, e, a, b⟩ := h
    exact ⟨u, r, e, RT.of_rv a, RTs.of_rvs b⟩
theorem RTs.rvs {c : Ct} {g : Gh} {H : Hp} : ∀ {vs : List VV} {us : List V}, RTs c g H vs us → vs.any VV.isObj = false → RVs c g.fz H vs us
  | [], us, h, _ => by rw [RVs]; exact h
  | x :: xs, us, h, n => by
    obtain ⟨u, r, e, a, b⟩ := h
    rw [List.any_cons, Bool.or_eq_false_iff] at n
    rw [RVs]
    exact ⟨u, r, e, a.rv n.1, RTs.rvs b n.2⟩
theorem RVs.len {c : Ct} {z : Addr → Prop} {H : Hp} : ∀ {vs : List VV} {us : List V}, RVs c z H vs us → vs.length = us.length
  | [], us, h => by rw [RVs] at h; rw [h]; rfl
  | x :: xs, us, h => by
    rw [RVs] at h
    obtain ⟨u, r, e, a, b⟩ := h
    rw [e, List.length_cons, List.length_cons, RVs.len b]
theorem RTs.len {c : Ct} {g : Gh} {H : Hp} : ∀ {vs : List VV} {us : List V}, RTs c g H vs us → vs.length = us.length
  | [], us, h => by rw [show us = [] from h]; rfl
  | x :: xs, us, h => by
    obtain ⟨u, r, e, a, b⟩ := h
    rw [e, List.length_cons, List.length_cons, RTs.len b]
theorem RVs.get {c : Ct} {z : Addr → Prop} {H : Hp} : ∀ {vs : List VV} {us : List V} {i : Nat} {v : VV}, RVs c z H vs us → vs[i]? = some v → ∃ u, us[i]? = some u ∧ RV c z H v u
  | [], us, i, v, h, e => by simp at e
  | x :: xs, us, i, v, h, e => by
    rw [RVs] at h
    obtain ⟨u, r, rfl, a, b⟩ := h
    cases i with
    | zero => simp at e; subst e; exact ⟨u, rfl, a⟩
    | succ i => exact RVs.get (i := i) b (by simpa using e)
theorem RVs.app {c : Ct} {z : Addr → Prop} {H : Hp} : ∀ {vs ws : List VV} {us ys : List V}, RVs c z H vs us → RVs c z H ws ys → RVs c z H (vs ++ ws) (us ++ ys)
  | [], ws, us, ys, h, k => by rw [RVs] at h; subst h; exact k
  | x :: xs, ws, us, ys, h, k => by
    rw [RVs] at h
    obtain ⟨u, r, rfl, a, b⟩ := h
    show RVs c z H (x :: (xs ++ ws)) (u :: (r ++ ys))
    rw [RVs]
    exact ⟨u, _, rfl, a, RVs.app b k⟩
theorem RVs.set {c : Ct} {z : Addr → Prop} {H : Hp} {v : VV} {u : V} (q : RV c z H v u) : ∀ {vs : List VV} {us : List V} {i : Nat}, RVs c z H vs us → RVs c z H (vs.set i v) (us.set i u)
  | [], us, i, h => by rw [RVs] at h; subst h; simp only [List.set_nil]; rw [RVs]
  | x :: xs, us, i, h => by
    rw [RVs] at h
    obtain ⟨y, r, rfl, a, b⟩ := h
    cases i with
    | zero => simp only [List.set_cons_zero]; rw [RVs]; exact ⟨u, r, rfl, q, b⟩
    | succ i => simp only [List.set_cons_succ]; rw [RVs]; exact ⟨y, _, rfl, a, RVs.set q b⟩
theorem RVs.one {c : Ct} {z : Addr → Prop} {H : Hp} {v : VV} {u : V} (q : RV c z H v u) : RVs c z H [v] [u] := by
  rw [RVs]; exact ⟨u, [], rfl, q, by rw [RVs]⟩
theorem RVs.nil {c : Ct} {z : Addr → Prop} {H : Hp} : RVs c z H [] [] := by rw [RVs]
theorem RVs.cons {c : Ct} {z : Addr → Prop} {H : Hp} {v : VV} {u : V} {vs us} (q : RV c z H v u) (r : RVs c z H vs us) : RVs c z H (v :: vs) (u :: us) := by
  rw [RVs]; exact ⟨u, us, rfl, q, r⟩
theorem RVs.take {c : Ct} {z : Addr → Prop} {H : Hp} : ∀ {vs : List VV} {us : List V} (n : Nat), RVs c z H vs us → RVs c z H (vs.take n) (us.take n)
  | _, _, 0, _ => by simp only [List.take_zero]; exact RVs.nil
  | [], us, n + 1, h => by rw [RVs] at h; subst h; simp only [List.take_nil]; exact RVs.nil
  | x :: xs, us, n + 1, h => by
    rw [RVs] at h
    obtain ⟨u, r, rfl, a, b⟩ := h
    simp only [List.take_succ_cons]
    exact RVs.cons a (RVs.take n b)
theorem RVs.drop {c : Ct} {z : Addr → Prop} {H : Hp} : ∀ {vs : List VV} {us : List V} (n : Nat), RVs c z H vs us → RVs c z H (vs.drop n) (us.drop n)
  | _, _, 0, h => by simpa only [List.drop_zero] using h
  | [], us, n + 1, h => by rw [RVs] at h; subst h; simp only [List.drop_nil]; exact RVs.nil
  | x :: xs, us, n + 1, h => by
    rw [RVs] at h
    obtain ⟨u, r, rfl, a, b⟩ := h
    simp only [List.drop_succ_cons]
    exact RVs.drop n b
theorem RT.back {c : Ct} {g g' : Gh} {H : Hp} (e1 : g'.io = g.io) (e2 : g'.fz = g.fz) {v : VV} {u : V} (h : RT c g H v u) : RT c g' H v u := by
  cases v with
  | obj n => obtain ⟨a, b, d⟩ := h; exact ⟨a, by rw [e1]; exact b, d⟩
  | _ => exact RT.of_rv (by rw [e2]; exact RT.rv h rfl)
theorem RTs.back {c : Ct} {g : Gh} {H : Hp} {k : Addr → Prop} : ∀ {vs : List VV} {us : List V}, RTs c g H vs us → RTs c { g with kp := k } H vs us
  | [], us, h => h
  | x :: xs, us, h => by
    obtain ⟨u, r, e, a, b⟩ := h
    exact ⟨u, r, e, a.back rfl rfl, RTs.back b⟩
/-- slots -/
structure RS (c : Ct) (g : Gh) (H : Hp) (ρ : VSt) (σ : St) : Prop where
  len : ρ.length = σ.length
  get : ∀ (i : Nat) (v : VV), ρ[i]? = some (some v) → ∃ u, σ[i]? = some (some u) ∧ RT c g H v u
theorem RS.stp {c : Ct} {g g' : Gh} {H H' : Hp} {ρ : VSt} {σ : St} (s : Stp g H g' H') (h : RS c g H ρ σ) : RS c g' H' ρ σ := ⟨h.len, fun i v e => by
  obtain ⟨u, a, b⟩ := h.get i v e
  exact ⟨u, a, b.stp s⟩⟩
theorem RO.stp {c : Ct} {g g' : Gh} {H H' : Hp} {o : VO} {a : Addr} (s : Stp g H g' H') (nz : ¬ g.fz a → ¬ g'.fz a) (e : H' a = H a) (h : RO c g H o a) : RO c g' H' o a := by
  cases o with
  | fzn v => exact ⟨s.fz a h.1, s.rv h.2⟩
  | fl xs =>
    obtain ⟨h1, us, h3, h4⟩ := h
    exact ⟨nz h1, us, e.trans h3, s.rvs h4⟩
  | lo xs =>
    obtain ⟨h1, us, h3, h4⟩ := h
    exact ⟨nz h1, us, e.trans h3, h4.stp s⟩
  | dT ks vs =>
    obtain ⟨h1, us, h3, h4, h5⟩ := h
    exact ⟨nz h1, us, e.trans h3, h4, s.rvs h5⟩
  | dK ks vs =>
    obtain ⟨h1, us, h3, h4, h5⟩ := h
    exact ⟨nz h1, us, e.trans h3, h4, s.rvs h5⟩
  | ins x ns vs =>
    obtain ⟨h1, C, dx, us, h3, h4, h5, h6⟩ := h
    exact ⟨nz h1, C, dx, us, h3, e.trans h4, h5, h6.stp s⟩
theorem RO.some {c : Ct} {g : Gh} {H : Hp} {o : VO} {a : Addr} (fz : ∀ q, g.fz q → ∃ o, H q = some o) (h : RO c g H o a) : ∃ o, H a = some o := by
  cases o with
  | fzn v => exact fz a h.1
  | fl xs => obtain ⟨h1, us, h3, h4⟩ := h; exact ⟨_, h3⟩
  | lo xs => obtain ⟨h1, us, h3, h4⟩ := h; exact ⟨_, h3⟩
  | dT ks vs => obtain ⟨h1, us, h3, h4⟩ := h; exact ⟨_, h3⟩
  | dK ks vs => obtain ⟨h1, us, h3, h4⟩ := h; exact ⟨_, h3⟩
  | ins x ns vs => obtain ⟨h1, C, dx, us, h3, h4, h5⟩ := h; exact ⟨_, h4⟩
theorem RH.root {c : Ct} {g : Gh} {h : VH} {H : Hp} (R : RH c g h H) {a : Addr} (ha : a ∈ g.io) : ∃ o, H a = some o := by
  obtain ⟨n, hn, e⟩ := List.getElem_of_mem ha
  have hl : n < h.length := by rw [← R.len]; exact hn
  exact (R.at' n h[n] a (List.getElem?_eq_getElem hl) (by rw [List.getElem?_eq_getElem hn, e])).some R.fz
theorem RH.rootNt {c : Ct} {g : Gh} {h : VH} {H : Hp} (R : RH c g h H) {a : Addr} (ha : a ∈ g.io) (ps : Array Value) : H a ≠ some (.tbl ps) := by
  obtain ⟨n, hn, e⟩ := List.getElem_of_mem ha
  have hl : n < h.length := by rw [← R.len]; exact hn
  by_cases z : g.fz a
  · exact R.nt a (.inl z) ps
  · exact (RO.noTab (R.at' n h[n] a (List.getElem?_eq_getElem hl) (by rw [List.getElem?_eq_getElem hn, e])) z).1 ps
theorem nodup_inj {l : List Addr} (h : l.Nodup) {i j : Nat} {a : Addr} (h1 : l[i]? = some a) (h2 : l[j]? = some a) : i = j :=
  (List.getElem?_inj (List.getElem?_eq_some_iff.mp h1).1 h).mp (h1.trans h2.symm)
/-- new data: p, frozen -/
def Gh.frz (g : Gh) (p : Addr) : Gh := { g with fz := fun q => g.fz q ∨ q = p }
theorem Stp.new {c : Ct} {g : Gh} {h : VH} {H : Hp} (R : RH c g h H) {p : Addr} {o : HO} (np : H p = none) : Stp g H (g.frz p) (upd H p o) := by
  have ne : ∀ q, (∃ o, H q = some o) → q ≠ p := fun q ⟨o, e⟩ z => by rw [z, np] at e; cases e
  exact ⟨List.prefix_rfl, fun _ h => .inl h, fun _ h => h, fun q h => .inl (upd_ne (ne q (R.fz q h))), fun q h => upd_ne (ne q (R.kp q h)), fun q us h => (upd_ne (ne q ⟨_, h⟩)).trans h⟩
theorem RH.new {c : Ct} {g : Gh} {h : VH} {H : Hp} (R : RH c g h H) {p : Addr} {o : HO} (np : H p = none) (nt : ∀ ps, o ≠ .tbl ps := by intro _ z; cases z) : RH c (g.frz p) h (upd H p o) := by
  have ne : ∀ q, (∃ o, H q = some o) → q ≠ p := fun q ⟨o, e⟩ z => by rw [z, np] at e; cases e
  refine ⟨R.len, R.nd, fun n o a h1 h2 => ?_, fun q h => ?_, fun q h => ?_, fun q h => ⟨fun z => z.elim (R.kd q h).1 (ne q (R.kp q h)), (R.kd q h).2⟩, R.tb.upd (.none np), fun q h ps z => ?_⟩
  rotate_left 3
  · by_cases e : q = p
    · subst e; rw [upd_same] at z; exact nt ps (Option.some.inj z)
    · rw [upd_ne e] at z
      rcases h with h | h
      · exact R.nt q (.inl (h.elim id (fun y => absurd y e))) ps z
      · exact R.nt q (.inr h) ps z
  · have na : a ≠ p := ne a (R.root (List.mem_of_getElem? h2))
    exact RO.stp (Stp.new R np) (fun h z => z.elim h na) (upd_ne na) (R.at' n o a h1 h2)
  · rcases h with h | h
    · rw [upd_ne (ne q (R.fz q h))]; exact R.fz q h
    · rw [h]; exact ⟨_, upd_same⟩
  · rw [upd_ne (ne q (R.kp q h))]; exact R.kp q h
/-- heap beside that is not ours -/
theorem Stp.junk {c : Ct} {g : Gh} {h : VH} {H : Hp} (R : RH c g h H) {p : Addr} {o : HO} (np : H p = none) : Stp g H g (upd H p o) := by
  have ne : ∀ q, (∃ o, H q = some o) → q ≠ p := fun q ⟨o, e⟩ z => by rw [z, np] at e; cases e
  exact ⟨List.prefix_rfl, fun _ h => h, fun _ h => h, fun q h => .inl (upd_ne (ne q (R.fz q h))), fun q h => upd_ne (ne q (R.kp q h)), fun q us h => (upd_ne (ne q ⟨_, h⟩)).trans h⟩
theorem RH.junk {c : Ct} {g : Gh} {h : VH} {H : Hp} (R : RH c g h H) {p : Addr} {o : HO} (np : H p = none) : RH c g h (upd H p o) := by
  have ne : ∀ q, (∃ o, H q = some o) → q ≠ p := fun q ⟨o, e⟩ z => by rw [z, np] at e; cases e
  refine ⟨R.len, R.nd, fun n o a h1 h2 => ?_, fun q h => ?_, fun q h => ?_, R.kd, R.tb.upd (.none np), fun q h ps z => R.nt q h ps (by rw [upd_ne (ne q (h.elim (R.fz q) (R.kp q)))] at z; exact z)⟩
  · have na : a ≠ p := ne a (R.root (List.mem_of_getElem? h2))
    exact RO.stp (Stp.junk R np) (fun h => h) (upd_ne na) (R.at' n o a h1 h2)
  · rw [upd_ne (ne q (R.fz q h))]; exact R.fz q h
  · rw [upd_ne (ne q (R.kp q h))]; exact R.kp q h
/-- a new root -/
def Gh.add (g : Gh) (p : Addr) : Gh := { g with io := g.io ++ [p] }
theorem Stp.add {g : Gh} {H : Hp} {p : Addr} : Stp g H (g.add p) H := ⟨List.prefix_append _ _, fun _ h => h, fun _ h => h, fun _ _ => .refl, fun _ _ => rfl, fun _ _ h => h⟩
theorem RH.add {c : Ct} {g : Gh} {h : VH} {H : Hp} (R : RH c g h H) {p : Addr} {o : VO} (hp : p ∉ g.io) (hk : ¬ g.kp p) (ro : RO c (g.add p) H o p) : RH c (g.add p) (h ++ [o]) H := by
  refine ⟨by show (g.io ++ [p]).length = _; simp [R.len], ?_, fun n o' a h1 h2 => ?_, R.fz, R.kp, fun q h => ⟨(R.kd q h).1, fun z => ?_⟩, R.tb, R.nt⟩
  · show (g.io ++ [p]).Nodup
    rw [List.nodup_append]
    exact ⟨R.nd, by simp, fun a ha b hb => by simp at hb; subst hb; intro e; subst e; exact hp ha⟩
  · have h2' : (g.io ++ [p])[n]? = some a := h2
    by_cases hn : n < h.length
    · rw [List.getElem?_append_left hn] at h1
      rw [List.getElem?_append_left (by rw [R.len]; exact hn)] at h2'
      exact RO.stp Stp.add (fun h => h) rfl (R.at' n o' a h1 h2')
    · have : n = h.length := by
        have := (List.getElem?_eq_some_iff.mp h1).1
        simp at this; omega
      subst this
      rw [List.getElem?_append_right (Nat.le_refl _), Nat.sub_self] at h1
      rw [List.getElem?_append_right (by rw [R.len]; exact Nat.le_refl _), R.len, Nat.sub_self] at h2'
      simp at h1 h2'
      subst h1 h2'
      exact ro
  · rcases List.mem_append.mp z with z | z
    · exact (R.kd q h).2 z
    · simp at z; subst z; exact hk h
/-- a root is written -/
theorem Stp.wr {c : Ct} {g : Gh} {H : Hp} {a : Addr} {O : HO} (nz : ¬ g.fz a) (nk : ¬ g.kp a) (nt : ∀ us, H a ≠ some (.tup us)) : Stp g H g (upd H a O) :=
  ⟨List.prefix_rfl, fun _ h => h, fun _ h => h, fun q h => .inl (upd_ne (fun z => nz (z ▸ h))), fun q h => upd_ne (fun z => nk (z ▸ h)), fun q us h => (upd_ne (fun (z : q = a) => nt us (by rw [← z]; exact h))).trans h⟩
theorem RH.wr {c : Ct} {g : Gh} {h : VH} {H : Hp} (R : RH c g h H) {n : Nat} {a : Addr} {o : VO} {O : HO} (ha : g.io[n]? = some a) (nz : ¬ g.fz a) (nt : ∀ us, H a ≠ some (.tup us)) (ro : RO c g (upd H a O) o a) : RH c g (h.set n o) (upd H a O) := by
  have nk : ¬ g.kp a := fun z => (R.kd a z).2 (List.mem_of_getElem? ha)
  have hio : ∃ o0, h[n]? = some o0 := by
    have hl : n < h.length := by rw [← R.len]; exact (List.getElem?_eq_some_iff.mp ha).1
    exact ⟨_, List.getElem?_eq_getElem hl⟩
  obtain ⟨o0, ho0⟩ := hio
  refine ⟨by rw [List.length_set]; exact R.len, R.nd, fun m o' b h1 h2 => ?_, fun q h => ?_, fun q h => ?_, R.kd, R.tb.upd ((R.at' n o0 a ho0 ha).noTab nz), fun q h ps z => R.nt q h ps (by rw [upd_ne (show q ≠ a from fun y => h.elim (fun h => nz (y ▸ h)) (fun h => nk (y ▸ h)))] at z; exact z)⟩
  · by_cases e : m = n
    · subst e
      rw [ha] at h2; cases h2
      have hl : m < h.length := by have := (List.getElem?_eq_some_iff.mp h1).1; simpa using this
      rw [List.getElem?_set_self hl] at h1
      cases h1
      exact ro
    · rw [List.getElem?_set_ne (Ne.symm e)] at h1
      have nb : b ≠ a := fun z => by
        subst z
        exact e (nodup_inj R.nd h2 ha)
      exact RO.stp (Stp.wr (c := c) nz nk nt) (fun h => h) (upd_ne nb) (R.at' m o' b h1 h2)
  · rw [upd_ne (show q ≠ a from fun z => nz (z ▸ h))]; exact R.fz q h
  · rw [upd_ne (show q ≠ a from fun z => nk (z ▸ h))]; exact R.kp q h
/-- a root is frozen -/
theorem Stp.kill {g : Gh} {H : Hp} {p : Addr} : Stp g H (g.frz p) H := ⟨List.prefix_rfl, fun _ h => .inl h, fun _ h => h, fun _ _ => .refl, fun _ _ => rfl, fun _ _ h => h⟩
theorem RH.kill {c : Ct} {g : Gh} {h : VH} {H : Hp} (R : RH c g h H) {n : Nat} {a : Addr} {v : VV} (ha : g.io[n]? = some a) (rv : RV c (g.frz a).fz H v (.ref a)) : RH c (g.frz a) (h.set n (.fzn v)) H := by
  refine ⟨by rw [List.length_set]; exact R.len, R.nd, fun m o' b h1 h2 => ?_, fun q h => ?_, R.kp, fun q h => ⟨fun z => z.elim (R.kd q h).1 (fun e => (R.kd q h).2 (e ▸ List.mem_of_getElem? ha)), (R.kd q h).2⟩, R.tb, fun q h ps z => ?_⟩
  rotate_left 2
  · rcases h with (h | h) | h
    · exact R.nt q (.inl h) ps z
    · rw [h] at z; exact R.rootNt (List.mem_of_getElem? ha) ps z
    · exact R.nt q (.inr h) ps z
  · have h2' : g.io[m]? = some b := h2
    by_cases e : m = n
    · subst e
      rw [ha] at h2'; cases h2'
      have hl : m < h.length := by have := (List.getElem?_eq_some_iff.mp h1).1; simpa using this
      rw [List.getElem?_set_self hl] at h1
      cases h1
      exact ⟨.inr rfl, rv⟩
    · rw [List.getElem?_set_ne (Ne.symm e)] at h1
      have nb : b ≠ a := fun z => by
        subst z
        exact e (nodup_inj R.nd h2' ha)
      exact RO.stp Stp.kill (fun h z => z.elim h nb) rfl (R.at' m o' b h1 h2')
  · rcases h with h | h
    · exact R.fz q h
    · rw [h]; exact R.root (List.mem_of_getElem? ha)
/-- an address that is ours for a while: others keep it -/
def Gh.keep (g : Gh) (D : Addr) : Gh := { g with kp := fun q => g.kp q ∨ q = D }
def Gh.back (g : Gh) (k : Addr → Prop) : Gh := { g with kp := k }
theorem Stp.keep {g : Gh} {H : Hp} {D : Addr} : Stp g H (g.keep D) H := ⟨List.prefix_rfl, fun _ h => h, fun _ h => .inl h, fun _ _ => .refl, fun _ _ => rfl, fun _ _ h => h⟩
theorem RH.keep {c : Ct} {g : Gh} {h : VH} {H : Hp} (R : RH c g h H) {D : Addr} {o : HO} (e : H D = some o) (nf : ¬ g.fz D) (ni : D ∉ g.io) (nt : ∀ ps, o ≠ .tbl ps := by intro _ z; cases z) : RH c (g.keep D) h H :=
  ⟨R.len, R.nd, fun n o a h1 h2 => RO.stp Stp.keep (fun h => h) rfl (R.at' n o a h1 h2), R.fz, fun q h => h.elim (R.kp q) (fun z => by rw [z]; exact ⟨o, e⟩), fun q h => h.elim (R.kd q) (fun z => by rw [z]; exact ⟨nf, ni⟩), R.tb, fun q h ps z => by
    rcases h with h | h | h
    · exact R.nt q (.inl h) ps z
    · exact R.nt q (.inr h) ps z
    · rw [h, e] at z; exact nt ps (Option.some.inj z)⟩
theorem RH.back {c : Ct} {g : Gh} {h : VH} {H : Hp} (R : RH c g h H) {k : Addr → Prop} (hk : ∀ p, k p → g.kp p) : RH c (g.back k) h H := by
  refine ⟨R.len, R.nd, fun n o a h1 h2 => ?_, R.fz, fun q h => R.kp q (hk q h), fun q h => R.kd q (hk q h), R.tb, fun q h => R.nt q (h.imp id (hk q))⟩
  have := R.at' n o a h1 h2
  cases o with
  | fzn v => exact this
  | fl xs => exact this
  | lo xs =>
    obtain ⟨h1, us, h3, h4⟩ := this
    exact ⟨h1, us, h3, RTs.back h4⟩
  | dT ks vs => exact this
  | dK ks vs => exact this
  | ins x ns vs =>
    obtain ⟨h1, C, dx, us, h3, h4, h5, h6⟩ := this
    refine ⟨h1, C, dx, us, h3, h4, h5, ?_⟩
    exact RTs.back h6
/-! the reading of a semantics -/
def Pst {α β : Type} (c : Ct) (W : WX) (σ : St) (R : Gh → Hp → α → β → Prop) (g : Gh) (H : Hp) (Q : β → Hp → Prop) : Res α → Prop
  | .no => False
  | .ok v h' => ∀ g' H' u, Stp g H g' H' → RH c g' h' H' → R g' H' v u → Q u H'
  | .exc x ns vs h' => ∀ g' H' C d us, Stp g H g' H' → RH c g' h' H' → c.mg x = some (.ref C) → (H' d = some (.xd (ns.zip us)) ∧ ¬ g'.fz d ∧ d ∉ g'.io) → ns.length = us.length → RVs c g'.fz H' vs us → W (.ref C) (some d) σ H'
theorem Pst.step {α β : Type} {c : Ct} {W : WX} {σ : St} {R : Gh → Hp → α → β → Prop} {g g1 : Gh} {H H1 : Hp} {Q : β → Hp → Prop} {r : Res α} (s : Stp g H g1 H1) (h : Pst c W σ R g H Q r) : Pst c W σ R g1 H1 Q r := by
  cases r with
  | no => exact h
  | ok v h' => exact fun g' H' u st => h g' H' u (s.trans st)
  | exc x ns vs h' => exact fun g' H' C d us st => h g' H' C d us (s.trans st)
theorem Pst.bind {α β γ δ : Type} {c : Ct} {W : WX} {σ : St} {R : Gh → Hp → α → β → Prop} {R' : Gh → Hp → γ → δ → Prop} {g : Gh} {H : Hp} {Q : δ → Hp → Prop} {r : Res α} {k : α → VH → Res γ} (h : Pst c W σ R' g H Q (r.bind k)) :
    Pst c W σ R g H (fun u H1 => ∃ g1 v h1, Stp g H g1 H1 ∧ RH c g1 h1 H1 ∧ R g1 H1 v u ∧ Pst c W σ R' g1 H1 Q (k v h1)) r := by
  cases r with
  | no => exact h
  | ok v h' => exact fun g' H' u st rh rv => ⟨g', v, h', st, rh, rv, Pst.step st h⟩
  | exc x ns vs h' => exact h
theorem Pst.imp {α β : Type} {c : Ct} {W : WX} {σ : St} {R : Gh → Hp → α → β → Prop} {g : Gh} {H : Hp} {Q Q' : β → Hp → Prop} {r : Res α} (h : Pst c W σ R g H Q r) (hq : ∀ u H, Q u H → Q' u H) : Pst c W σ R g H Q' r := by
  cases r with
  | no => exact h
  | ok v h' => exact fun g' H' u a b d => hq _ _ (h g' H' u a b d)
  | exc x ns vs h' => exact h
def tG {α β : Type} (c : Ct) (W : WX) (R : Gh → Hp → α → β → Prop) (f : VSt → VH → Res α) : St → Hp → (β → Hp → Prop) → Prop :=
  fun σ H Q => ∃ g ρ h, RH c g h H ∧ RS c g H ρ σ ∧ Pst c W σ R g H Q (f ρ h)
abbrev EF := VSt → VH → Res VV
abbrev TF := VSt → VH → Res Bool
abbrev AF := VSt → VH → Res (List VV)
def RB (_ : Gh) (_ : Hp) (a b : Bool) : Prop := b = a
abbrev tE (c : Ct) (W : WX) (f : EF) : TE := tG c W (RT c) f
abbrev tT (c : Ct) (W : WX) (f : TF) : TT := tG c W RB f
abbrev tA (c : Ct) (W : WX) (f : AF) : TA := tG c W (RTs c) f
abbrev ct (X : Cx) : Ct := ⟨X.K, X.mg⟩
theorem PE.mono {X : Cx} {e : Expr} {t t' : TE} (h : PE X e t) (m : ∀ σ H Q, t' σ H Q → t σ H Q) : PE X e t' := ⟨fun pins s σ H Q I q => h.run pins s σ H Q I (m σ H Q q)⟩
theorem PT.mono {X : Cx} {e : Expr} {t t' : TT} (h : PT X e t) (m : ∀ σ H Q, t' σ H Q → t σ H Q) : PT X e t' := ⟨fun pins s σ H Q I q => h.run pins s σ H Q I (m σ H Q q)⟩
theorem PW.mono {X : Cx} {e : Expr} {t t' : TT} (h : PW X e t) (m : ∀ σ H Q, t' σ H Q → t σ H Q) : PW X e t' := ⟨fun wh pins s σ H Q I q => h.run wh pins s σ H Q I (m σ H Q q)⟩
theorem PA.mono {X : Cx} {e : List Expr} {t t' : TA} (h : PA X e t) (m : ∀ σ H Q, t' σ H Q → t σ H Q) : PA X e t' := ⟨fun pos pins s σ H Q I q => h.run pos pins s σ H Q I (m σ H Q q)⟩
theorem PS.mono {X : Cx} {e : Stmt} {t t' : TS} (h : PS X e t) (m : ∀ D σ H, t' D σ H → t D σ H) : PS X e t' := ⟨fun pins s σ H D I q => h.run pins s σ H D I (m D σ H q)⟩
theorem PSs.mono {X : Cx} {e : List Stmt} {t t' : TS} (h : PSs X e t) (m : ∀ D σ H, t' D σ H → t D σ H) : PSs X e t' := ⟨fun pins s σ H D I q => h.run pins s σ H D I (m D σ H q)⟩
theorem PI.mono {X : Cx} {tg e : Expr} {t t' : TI} (h : PI X tg e t) (m : ∀ σ H R, t' σ H R → t σ H R) : PI X tg e t' := ⟨fun pins s σ H R I q => h.run pins s σ H R I (m σ H R q)⟩
/-- what is left behind a first part -/
theorem tG.bind {α β γ δ : Type} {c : Ct} {W : WX} {R : Gh → Hp → α → β → Prop} {R' : Gh → Hp → γ → δ → Prop} {f : VSt → VH → Res α} {k : α → VSt → VH → Res γ} {σ : St} {H : Hp} {Q : δ → Hp → Prop}
    (h : tG c W R' (fun ρ h => (f ρ h).bind fun v h1 => k v ρ h1) σ H Q) :
    tG c W R f σ H (fun u H1 => ∃ g1 ρ v h1, RH c g1 h1 H1 ∧ RS c g1 H1 ρ σ ∧ R g1 H1 v u ∧ Pst c W σ R' g1 H1 Q (k v ρ h1)) := by
  obtain ⟨g, ρ, h0, rh, rs, p⟩ := h
  refine ⟨g, ρ, h0, rh, rs, (Pst.bind (R := R) p).imp fun u H1 ⟨g1, v, h1, st, r1, rv, p1⟩ => ⟨g1, ρ, v, h1, r1, rs.stp st, rv, p1⟩⟩
end J
namespace J
open PySem L2
/-! semantic functions -/
abbrev SZ : Nat := 16777216
theorem SZ_le {n : Nat} (h : n ≤ SZ) : n ≤ sizeLine := by rw [sizeLine_eq]; exact h
theorem SZ_lt {n : Nat} (h : n < SZ) : n < sizeLine := by rw [sizeLine_eq]; exact h
def eVar (i : Nat) : EF := fun ρ h => match ρ[i]? with
  | some (some v) => .ok v h
  | _ => .no
def eC (v : VV) : EF := fun _ h => .ok v h
/-- an operation on values that makes no root and changes none -/
abbrev Op2 := VH → VV → VV → Option VV
abbrev Op1 := VH → VV → Option VV
abbrev OpN := VH → List VV → Option VV
def lift (o : Option VV) (h : VH) : Res VV := match o with
  | some v => .ok v h
  | none => .no
def eBin (op : Op2) (a b : EF) : EF := fun ρ h => (a ρ h).bind fun v h1 => (b ρ h1).bind fun w h2 => lift (op h2 v w) h2
def eUn (op : Op1) (a : EF) : EF := fun ρ h => (a ρ h).bind fun v h1 => lift (op h1 v) h1
def eCall (op : OpN) (a : AF) : EF := fun ρ h => (a ρ h).bind fun v h1 => lift (op h1 v) h1
def aNil : AF := fun _ h => .ok [] h
def aCons (a : EF) (b : AF) : AF := fun ρ h => (a ρ h).bind fun v h1 => (b ρ h1).bind fun w h2 => .ok (v :: w) h2
/-- what a rule on values must take: the operation's answer, new or old data -/
def Rd2 (c : Ct) (op : Op2) : R2 := fun x y H Q => ∃ g h v w r, RH c g h H ∧ RT c g H v x ∧ RT c g H w y ∧ op h v w = some r ∧ ∀ g' H' u, Stp g H g' H' → RH c g' h H' → RT c g' H' r u → Q u H'
def Rd1 (c : Ct) (op : Op1) : V → Hp → VK → Prop := fun x H Q => ∃ g h v r, RH c g h H ∧ RT c g H v x ∧ op h v = some r ∧ ∀ g' H' u, Stp g H g' H' → RH c g' h H' → RT c g' H' r u → Q u H'
def RdN (c : Ct) (op : OpN) : List V → Hp → VK → Prop := fun xs H Q => ∃ g h vs r, RH c g h H ∧ RTs c g H vs xs ∧ op h vs = some r ∧ ∀ g' H' u, Stp g H g' H' → RH c g' h H' → RT c g' H' r u → Q u H'
theorem OpR.imp {X : Cx} {f : Value → Value → Sem Value} {r r' : R2} (h : OpR X f r) (m : ∀ x y H Q, r' x y H Q → r x y H Q) : OpR X f r' :=
  fun pins s σ H x y v u Q I a b q => h pins s σ H x y v u Q I a b (m x y H Q q)
theorem IxR.imp {X : Cx} {r r' : R2} (h : IxR X r) (m : ∀ x y H Q, r' x y H Q → r x y H Q) : IxR X r' := by
  unfold IxR at h ⊢
  intros
  apply h <;> first | assumption | (apply m; assumption)
theorem UnR.imp {X : Cx} {f : Value → Sem Value} {r r' : V → Hp → VK → Prop} (h : UnR X f r) (m : ∀ x H Q, r' x H Q → r x H Q) : UnR X f r' :=
  fun pins s σ H x v Q I a q => h pins s σ H x v Q I a (m x H Q q)
theorem CallR.imp {X : Cx} {f : Value} {r r' : List V → Hp → VK → Prop} (h : CallR X f r) (m : ∀ x H Q, r' x H Q → r x H Q) : CallR X f r' :=
  fun pins s σ H x v Q I a q => h pins s σ H x v Q I a (m x H Q q)
section
variable {X : Cx} {W : WX}
theorem j_var (i : Nat) {x : Str} {pos : Pos} (h : PE X (.Name x pos) (tVar i)) : PE X (.Name x pos) (tE (ct X) W (eVar i)) :=
  PE.mono h fun σ H Q ⟨g, ρ, hh, rh, rs, p⟩ => by
    unfold eVar at p
    split at p
    · rename_i v e
      obtain ⟨u, a, b⟩ := rs.get i v e
      exact ⟨u, a, p g H u .refl rh b⟩
    · exact p.elim
theorem j_c {e : Expr} {v : VV} {u : V} (h : PE X e (tC u)) (r : ∀ g H, RT (ct X) g H v u) : PE X e (tE (ct X) W (eC v)) :=
  PE.mono h fun σ H Q ⟨g, ρ, hh, rh, rs, p⟩ => p g H u .refl rh (r g H)
theorem rt_int {c : Ct} {g : Gh} {H : Hp} {i : Int} : RT c g H (.int i) (.int i) := by show RV _ _ _ _ _; rw [RV]
theorem rt_bl {c : Ct} {g : Gh} {H : Hp} {i : Bool} : RT c g H (.bl i) (.bl i) := by show RV _ _ _ _ _; rw [RV]
theorem rt_str {c : Ct} {g : Gh} {H : Hp} {i : Str} : RT c g H (.str i) (.str i) := by show RV _ _ _ _ _; rw [RV]
theorem rt_non {c : Ct} {g : Gh} {H : Hp} : RT c g H .non .non := by show RV _ _ _ _ _; rw [RV]
theorem rt_ty {c : Ct} {g : Gh} {H : Hp} {n : String} : RT c g H (.ty n) (.ty n) := by show RV _ _ _ _ _; rw [RV]
theorem j_int {i j pos} : PE X (.Constant (.int i) j pos) (tE (ct X) W (eC (.int i))) := j_c pe_int fun _ _ => rt_int
theorem j_bl {i j pos} : PE X (.Constant (.bool i) j pos) (tE (ct X) W (eC (.bl i))) := j_c pe_bl fun _ _ => rt_bl
theorem j_non {j pos} : PE X (.Constant .none j pos) (tE (ct X) W (eC .non)) := j_c pe_non fun _ _ => rt_non
/-- from a bind to a continuation -/
theorem tOp_of {r : R2} {op : Op2} {fa fb : EF} (m : ∀ x y H Q, Rd2 (ct X) op x y H Q → r x y H Q) {σ : St} {H : Hp} {Q : VK} (h : tE (ct X) W (eBin op fa fb) σ H Q) :
    tOp r (tE (ct X) W fa) (tE (ct X) W fb) σ H Q := by
  have h1 := tG.bind (R := RT (ct X)) (f := fa) (k := fun v ρ h1 => (fb ρ h1).bind fun w h2 => lift (op h2 v w) h2) h
  obtain ⟨g, ρ, h0, rh, rs, p⟩ := h1
  refine ⟨g, ρ, h0, rh, rs, p.imp fun u H1 ⟨g1, ρ1, v, h1, rh1, rs1, rv1, p1⟩ => ?_⟩
  refine ⟨g1, ρ1, h1, rh1, rs1, (Pst.bind (R := RT (ct X)) p1).imp fun u2 H2 ⟨g2, w, h2, st, rh2, rv2, p2⟩ => ?_⟩
  refine m _ _ _ _ ?_
  unfold lift at p2
  split at p2
  · rename_i r e
    exact ⟨g2, h2, v, w, r, rh2, rv1.stp st, rv2, e, p2⟩
  · exact p2.elim
theorem j_bin {op : Op2} {o : Operator} {a b : Expr} {fa fb : EF} {pos : Pos} (ho : OpR X (binaryOp o) (Rd2 (ct X) op)) (ha : PE X a (tE (ct X) W fa)) (hb : PE X b (tE (ct X) W fb)) : PE X (.BinOp a o b pos) (tE (ct X) W (eBin op fa fb)) :=
  PE.mono (pe_op ho ha hb) fun σ H Q h => tOp_of (fun _ _ _ _ q => q) h
theorem j_ix {op : Op2} {a b : Expr} {fa fb : EF} {pos : Pos} (ho : IxR X (Rd2 (ct X) op)) (ha : PE X a (tE (ct X) W fa)) (hb : PE X b (tE (ct X) W fb)) (hs : PlainIx b) : PE X (.Subscript a b pos) (tE (ct X) W (eBin op fa fb)) :=
  PE.mono (pe_ix ho ha hb hs) fun σ H Q h => tOp_of (fun _ _ _ _ q => q) h
theorem j_cmp {op : Op2} {o : CmpOp} {a b : Expr} {fa fb : EF} {pos : Pos} (ho : OpR X (compareOp o) (Rd2 (ct X) op)) (ha : PE X a (tE (ct X) W fa)) (hb : PE X b (tE (ct X) W fb)) (hm : behindInMarks o b = false) : PE X (.Compare a [o] [b] pos) (tE (ct X) W (eBin op fa fb)) :=
  PE.mono (pe_cmpR ho ha hb hm) fun σ H Q h => tOp_of (fun _ _ _ _ q => q) h
theorem j_un {op : Op1} {o : UnaryOp} {a : Expr} {fa : EF} {pos : Pos} (ho : UnR X (unaryOp o) (Rd1 (ct X) op)) (ha : PE X a (tE (ct X) W fa)) : PE X (.UnaryOp o a pos) (tE (ct X) W (eUn op fa)) :=
  PE.mono (pe_un ho ha) fun σ H Q h => by
    obtain ⟨g, ρ, h0, rh, rs, p⟩ := tG.bind (R := RT (ct X)) (f := fa) (k := fun v ρ h1 => lift (op h1 v) h1) h
    refine ⟨g, ρ, h0, rh, rs, p.imp fun u H1 ⟨g1, ρ1, v, h1, rh1, rs1, rv1, p1⟩ => ?_⟩
    unfold lift at p1
    split at p1
    · rename_i r e
      exact ⟨g1, h1, v, r, rh1, rv1, e, p1⟩
    · exact p1.elim
/-! arguments -/
theorem ja_nil : PA X [] (tA (ct X) W aNil) := PA.mono pa_nil fun σ H Q ⟨g, ρ, h0, rh, rs, p⟩ => p g H [] .refl rh rfl
theorem ja_cons {e : Expr} {es : List Expr} {fa : EF} {fb : AF} (ha : PE X e (tE (ct X) W fa)) (hr : PA X es (tA (ct X) W fb)) (hs : starEach (e :: es) X.env = (false, eval e X.env) :: starEach es X.env := by rfl) : PA X (e :: es) (tA (ct X) W (aCons fa fb)) :=
  PA.mono (pa_cons ha hr hs) fun σ H Q h => by
    obtain ⟨g, ρ, h0, rh, rs, p⟩ := tG.bind (R := RT (ct X)) (f := fa) (k := fun v ρ h1 => (fb ρ h1).bind fun w h2 => .ok (v :: w) h2) h
    refine ⟨g, ρ, h0, rh, rs, p.imp fun u H1 ⟨g1, ρ1, v, h1, rh1, rs1, rv1, p1⟩ => ?_⟩
    refine ⟨g1, ρ1, h1, rh1, rs1, (Pst.bind (R := RTs (ct X)) p1).imp fun u2 H2 ⟨g2, w, h2, st, rh2, rv2, p2⟩ => ?_⟩
    exact p2 g2 H2 (u :: u2) .refl rh2 ⟨u, u2, rfl, rv1.stp st, rv2⟩
theorem tCB_of {r : List V → Hp → VK → Prop} {op : OpN} {fa : AF} (m : ∀ x H Q, RdN (ct X) op x H Q → r x H Q) {σ : St} {H : Hp} {Q : VK} (h : tE (ct X) W (eCall op fa) σ H Q) : tCB r (tA (ct X) W fa) σ H Q := by
  obtain ⟨g, ρ, h0, rh, rs, p⟩ := tG.bind (R := RTs (ct X)) (f := fa) (k := fun v ρ h1 => lift (op h1 v) h1) h
  refine ⟨g, ρ, h0, rh, rs, p.imp fun u H1 ⟨g1, ρ1, v, h1, rh1, rs1, rv1, p1⟩ => ?_⟩
  unfold lift at p1
  split at p1
  · rename_i r e
    exact m _ _ _ ⟨g1, h1, v, r, rh1, rv1, e, p1⟩
  · exact p1.elim
theorem j_callB {x : Str} {p pos : Pos} {id : String} {op : OpN} {e : Expr} {es : List Expr} {fa : AF} (hc : CallR X (.builtin id) (RdN (ct X) op)) (hg : Gl X x) (hm : X.mg x = none) (hv : bootBuiltins x = some (.builtin id)) (ha : PA X (e :: es) (tA (ct X) W fa)) (hn : x ≠ "__name__" := by decide) (hdb : (x == ("__debug__" : Str)) = false := by decide)
    (he : starEach (e :: es) X.env = (false, eval e X.env) :: starEach es X.env := by rfl) (hpl : (backTo pos (starEach es X.env)).any (·.1) = false := by rfl) : PE X (.Call (.Name x p) (e :: es) [] pos) (tE (ct X) W (eCall op fa)) :=
  PE.mono (pe_callB hc hg hm hv ha hn hdb he hpl) fun σ H Q h => tCB_of (fun _ _ _ q => q) h
theorem j_callTy {x : Str} {p pos : Pos} {T : String} {op : OpN} {e : Expr} {es : List Expr} {fa : AF} (hc : CallR X (.type T) (RdN (ct X) op)) (hg : Gl X x) (hm : X.mg x = none) (hv : bootBuiltins x = some (.type T)) (ha : PA X (e :: es) (tA (ct X) W fa)) (hn : x ≠ "__name__" := by decide) (hdb : (x == ("__debug__" : Str)) = false := by decide)
    (he : starEach (e :: es) X.env = (false, eval e X.env) :: starEach es X.env := by rfl) (hpl : (backTo pos (starEach es X.env)).any (·.1) = false := by rfl) : PE X (.Call (.Name x p) (e :: es) [] pos) (tE (ct X) W (eCall op fa)) :=
  PE.mono (pe_callTy hc hg hm hv ha hn hdb he hpl) fun σ H Q h => tCB_of (fun _ _ _ q => q) h
/-! displays -/
def eTup (a : AF) : EF := fun ρ h => (a ρ h).bind fun vs h1 => if vs.any VV.isObj = true ∨ vs.length > SZ then .no else .ok (.tup vs) h1
def eLst (a : AF) : EF := fun ρ h => (a ρ h).bind fun vs h1 => if vs.any VV.isObj = true ∨ vs.length > SZ then .no else .ok (.lst vs) h1
/-- a display whose list is a root -/
def eLstO (a : AF) : EF := fun ρ h => (a ρ h).bind fun vs h1 => if vs.any VV.isObj = true ∨ vs.length > SZ then .no else .ok (.obj h1.length) (h1 ++ [.fl vs])
theorem j_tup {es : List Expr} {fa : AF} {x1} {pos : Pos} (ha : PA X es (tA (ct X) W fa)) : PE X (.Tuple es x1 pos) (tE (ct X) W (eTup fa)) :=
  PE.mono (pe_tup ha) fun σ H Q h => by
    obtain ⟨g, ρ, h0, rh, rs, p⟩ := tG.bind (R := RTs (ct X)) (f := fa) (k := fun (vs : List VV) ρ h1 => if vs.any VV.isObj = true ∨ vs.length > SZ then .no else .ok (VV.tup vs) h1) h
    refine ⟨g, ρ, h0, rh, rs, p.imp fun u H1 ⟨g1, ρ1, v, h1, rh1, rs1, rv1, p1⟩ => ?_⟩
    by_cases c : v.any VV.isObj = true ∨ v.length > SZ
    · rw [if_pos c] at p1; exact p1.elim
    · rw [if_neg c] at p1
      rw [not_or, Bool.not_eq_true] at c
      refine ⟨by rw [← rv1.len]; exact SZ_le (by omega), fun p hp => p1 (g1.frz p) (upd H1 p (.tup u)) (.ref p) (.new rh1 hp) (rh1.new hp) ?_⟩
      show RV _ _ _ _ _
      rw [RV]
      exact ⟨p, u, rfl, upd_same, (Stp.new rh1 hp).rvs (rv1.rvs c.1)⟩
theorem j_lst {es : List Expr} {fa : AF} {pos : Pos} (ha : PA X es (tA (ct X) W fa)) : PE X (.List es pos) (tE (ct X) W (eLst fa)) :=
  PE.mono (pe_lst ha) fun σ H Q h => by
    obtain ⟨g, ρ, h0, rh, rs, p⟩ := tG.bind (R := RTs (ct X)) (f := fa) (k := fun (vs : List VV) ρ h1 => if vs.any VV.isObj = true ∨ vs.length > SZ then .no else .ok (VV.lst vs) h1) h
    refine ⟨g, ρ, h0, rh, rs, p.imp fun u H1 ⟨g1, ρ1, v, h1, rh1, rs1, rv1, p1⟩ => ?_⟩
    by_cases c : v.any VV.isObj = true ∨ v.length > SZ
    · rw [if_pos c] at p1; exact p1.elim
    · rw [if_neg c] at p1
      rw [not_or, Bool.not_eq_true] at c
      refine ⟨by rw [← rv1.len]; exact SZ_le (by omega), fun p hp => p1 (g1.frz p) (upd H1 p (.lst u)) (.ref p) (.new rh1 hp) (rh1.new hp) ?_⟩
      show RV _ _ _ _ _
      rw [RV]
      exact ⟨p, u, rfl, .inr rfl, upd_same, (Stp.new rh1 hp).rvs (rv1.rvs c.1)⟩
/-- a new list of data that nobody holds becomes a root -/
theorem root_new {c : Ct} {g : Gh} {h : VH} {H : Hp} {p : Addr} {vs : List VV} {us : List V} (rh : RH c g h H) (hp : H p = none) (rv : RVs c g.fz H vs us) :
    Stp g H (g.add p) (upd H p (.lst us)) ∧ RH c (g.add p) (h ++ [.fl vs]) (upd H p (.lst us)) ∧ RT c (g.add p) (upd H p (.lst us)) (.obj h.length) (.ref p) := by
  have st : Stp g H g (upd H p (.lst us)) := .junk rh hp
  have rh1 : RH c g h (upd H p (.lst us)) := rh.junk hp
  have np : p ∉ g.io := fun z => by
    obtain ⟨o, e⟩ := rh.root z
    rw [hp] at e; cases e
  refine ⟨st.trans .add, rh1.add np (fun z => ?_) ⟨fun z => ?_, us, upd_same, st.rvs rv⟩, p, ?_, rfl⟩
  · obtain ⟨o, e⟩ := rh.kp p z
    rw [hp] at e; cases e
  · obtain ⟨o, e⟩ := rh.fz p z
    rw [hp] at e; cases e
  · show (g.io ++ [p])[h.length]? = some p
    rw [← rh.len, List.getElem?_append_right (Nat.le_refl _), Nat.sub_self]; rfl
theorem j_lstO {es : List Expr} {fa : AF} {pos : Pos} (ha : PA X es (tA (ct X) W fa)) : PE X (.List es pos) (tE (ct X) W (eLstO fa)) :=
  PE.mono (pe_lst ha) fun σ H Q h => by
    obtain ⟨g, ρ, h0, rh, rs, p⟩ := tG.bind (R := RTs (ct X)) (f := fa) (k := fun (vs : List VV) ρ h1 => if vs.any VV.isObj = true ∨ vs.length > SZ then .no else .ok (VV.obj h1.length) (h1 ++ [.fl vs])) h
    refine ⟨g, ρ, h0, rh, rs, p.imp fun u H1 ⟨g1, ρ1, v, h1, rh1, rs1, rv1, p1⟩ => ?_⟩
    by_cases c : v.any VV.isObj = true ∨ v.length > SZ
    · rw [if_pos c] at p1; exact p1.elim
    · rw [if_neg c] at p1
      rw [not_or, Bool.not_eq_true] at c
      refine ⟨by rw [← rv1.len]; exact SZ_le (by omega), fun p hp => ?_⟩
      obtain ⟨a, b, d⟩ := root_new rh1 hp (rv1.rvs c.1)
      exact p1 _ _ _ a b d
/-! tests -/
def tVal (a : EF) : TF := fun ρ h => (a ρ h).bind fun v h1 => match v with
  | .bl b => .ok b h1
  | _ => .no
def tAnd (a b : TF) : TF := fun ρ h => (a ρ h).bind fun v h1 => if v = true then b ρ h1 else .ok false h1
def tOr (a b : TF) : TF := fun ρ h => (a ρ h).bind fun v h1 => if v = true then .ok true h1 else b ρ h1
def tNot (a : TF) : TF := fun ρ h => (a ρ h).bind fun v h1 => .ok (!v) h1
theorem tVal_of {a : EF} {σ : St} {H : Hp} {Q : Bool → Hp → Prop} (h : tT (ct X) W (tVal a) σ H Q) : tE (ct X) W a σ H (fun x H1 => ∃ k, x = .bl k ∧ Q k H1) := by
  obtain ⟨g, ρ, h0, rh, rs, p⟩ := tG.bind (R := RT (ct X)) (f := a) (k := fun v ρ h1 => match v with
    | .bl b => .ok b h1
    | _ => .no) h
  refine ⟨g, ρ, h0, rh, rs, p.imp fun u H1 ⟨g1, ρ1, v, h1, rh1, rs1, rv1, p1⟩ => ?_⟩
  cases v with
  | bl b =>
    have e : u = .bl b := by have := rv1.rv rfl; rw [RV] at this; exact this
    exact ⟨b, e, p1 g1 H1 b .refl rh1 rfl⟩
  | _ => exact p1.elim
theorem jt_val {e : Expr} {fa : EF} (h : PE X e (tE (ct X) W fa)) (he : ∀ whole, isTrue e X.env whole = (do let v ← whole; standAt e.pos; holding [v] (truthy v)) := by intro _; rfl) : PT X e (tT (ct X) W (tVal fa)) :=
  PT.mono (pt_val h he) fun σ H Q q => tVal_of q
theorem jt_cmp {op : Op2} {o : CmpOp} {a b : Expr} {fa fb : EF} {pos : Pos} (ho : OpR X (compareOp o) (Rd2 (ct X) op)) (ha : PE X a (tE (ct X) W fa)) (hb : PE X b (tE (ct X) W fb)) (hm : behindInMarks o b = false) : PT X (.Compare a [o] [b] pos) (tT (ct X) W (tVal (eBin op fa fb))) :=
  PT.mono (pt_cmpR ho ha hb hm) fun σ H Q q => tOp_of (fun _ _ _ _ q => q) (tVal_of q)
theorem jw_and1 {a : Expr} {fa : TF} {pos : Pos} (ha : PT X a (tT (ct X) W fa)) : PW X (.BoolOp .And [a] pos) (tT (ct X) W fa) := pw_and1 ha
theorem jw_or1 {a : Expr} {fa : TF} {pos : Pos} (ha : PT X a (tT (ct X) W fa)) : PW X (.BoolOp .Or [a] pos) (tT (ct X) W fa) := pw_or1 ha
theorem jw_and {a b : Expr} {rest : List Expr} {fa fb : TF} {pos : Pos} (ha : PT X a (tT (ct X) W fa)) (hb : PW X (.BoolOp .And (b :: rest) pos) (tT (ct X) W fb)) : PW X (.BoolOp .And (a :: b :: rest) pos) (tT (ct X) W (tAnd fa fb)) :=
  PW.mono (pw_and ha hb) fun σ H Q h => by
    obtain ⟨g, ρ, h0, rh, rs, p⟩ := tG.bind (R := RB) (f := fa) (k := fun v ρ h1 => if v = true then fb ρ h1 else .ok false h1) h
    refine ⟨g, ρ, h0, rh, rs, p.imp fun u H1 ⟨g1, ρ1, v, h1, rh1, rs1, rv1, p1⟩ => ?_⟩
    cases rv1
    cases u with
    | true => rw [if_pos rfl] at p1 ⊢; exact ⟨g1, ρ1, h1, rh1, rs1, p1⟩
    | false => rw [if_neg Bool.false_ne_true] at p1 ⊢; exact p1 g1 H1 false .refl rh1 rfl
theorem jw_or {a b : Expr} {rest : List Expr} {fa fb : TF} {pos : Pos} (ha : PT X a (tT (ct X) W fa)) (hb : PW X (.BoolOp .Or (b :: rest) pos) (tT (ct X) W fb)) : PW X (.BoolOp .Or (a :: b :: rest) pos) (tT (ct X) W (tOr fa fb)) :=
  PW.mono (pw_or ha hb) fun σ H Q h => by
    obtain ⟨g, ρ, h0, rh, rs, p⟩ := tG.bind (R := RB) (f := fa) (k := fun v ρ h1 => if v = true then .ok true h1 else fb ρ h1) h
    refine ⟨g, ρ, h0, rh, rs, p.imp fun u H1 ⟨g1, ρ1, v, h1, rh1, rs1, rv1, p1⟩ => ?_⟩
    cases rv1
    cases u with
    | true => rw [if_pos rfl] at p1 ⊢; exact p1 g1 H1 true .refl rh1 rfl
    | false => rw [if_neg Bool.false_ne_true] at p1 ⊢; exact ⟨g1, ρ1, h1, rh1, rs1, p1⟩
theorem jt_not {a : Expr} {fa : TF} {pos : Pos} (ha : PT X a (tT (ct X) W fa)) : PT X (.UnaryOp .Not a pos) (tT (ct X) W (tNot fa)) :=
  PT.mono (pt_not ha) fun σ H Q h => by
    obtain ⟨g, ρ, h0, rh, rs, p⟩ := tG.bind (R := RB) (f := fa) (k := fun v ρ h1 => .ok (!v) h1) h
    refine ⟨g, ρ, h0, rh, rs, p.imp fun u H1 ⟨g1, ρ1, v, h1, rh1, rs1, rv1, p1⟩ => ?_⟩
    cases rv1
    exact p1 g1 H1 _ .refl rh1 rfl
def eIf (c : TF) (a b : EF) : EF := fun ρ h => (c ρ h).bind fun v h1 => if v = true then a ρ h1 else b ρ h1
theorem j_if {c a b : Expr} {fc : TF} {fa fb : EF} {pos : Pos} (hc : PT X c (tT (ct X) W fc)) (ha : PE X a (tE (ct X) W fa)) (hb : PE X b (tE (ct X) W fb)) : PE X (.IfExp c a b pos) (tE (ct X) W (eIf fc fa fb)) :=
  PE.mono (pe_ifExp hc ha hb) fun σ H Q h => by
    obtain ⟨g, ρ, h0, rh, rs, p⟩ := tG.bind (R := RB) (f := fc) (k := fun v ρ h1 => if v = true then fa ρ h1 else fb ρ h1) h
    refine ⟨g, ρ, h0, rh, rs, p.imp fun u H1 ⟨g1, ρ1, v, h1, rh1, rs1, rv1, p1⟩ => ?_⟩
    cases rv1
    cases u with
    | true => rw [if_pos rfl] at p1 ⊢; exact ⟨g1, ρ1, h1, rh1, rs1, p1⟩
    | false => rw [if_neg Bool.false_ne_true] at p1 ⊢; exact ⟨g1, ρ1, h1, rh1, rs1, p1⟩
/-- and, or, not of truth values -/
def eAnd (a b : EF) : EF := fun ρ h => (a ρ h).bind fun v h1 => match v with
  | .bl true => b ρ h1
  | .bl false => .ok (.bl false) h1
  | _ => .no
def eOr (a b : EF) : EF := fun ρ h => (a ρ h).bind fun v h1 => match v with
  | .bl true => .ok (.bl true) h1
  | .bl false => b ρ h1
  | _ => .no
def eNot (a : EF) : EF := fun ρ h => (a ρ h).bind fun v h1 => match v with
  | .bl b => .ok (.bl (!b)) h1
  | _ => .no
theorem j_one {op} {a : Expr} {f : EF} {pos : Pos} (h : PE X a (tE (ct X) W f)) : PE X (.BoolOp op [a] pos) (tE (ct X) W f) := pe_one h
theorem j_and {a b : Expr} {rest : List Expr} {fa fb : EF} {pos : Pos} (ha : PE X a (tE (ct X) W fa)) (hb : PE X (.BoolOp .And (b :: rest) pos) (tE (ct X) W fb)) : PE X (.BoolOp .And (a :: b :: rest) pos) (tE (ct X) W (eAnd fa fb)) :=
  PE.mono (pe_and ha hb) fun σ H Q h => by
    obtain ⟨g, ρ, h0, rh, rs, p⟩ := tG.bind (R := RT (ct X)) (f := fa) (k := fun v ρ h1 => match v with
      | .bl true => fb ρ h1
      | .bl false => .ok (.bl false) h1
      | _ => .no) h
    refine ⟨g, ρ, h0, rh, rs, p.imp fun u H1 ⟨g1, ρ1, v, h1, rh1, rs1, rv1, p1⟩ => ?_⟩
    cases v with
    | bl b =>
      have e : u = .bl b := by have := rv1.rv rfl; rw [RV] at this; exact this
      refine ⟨b, e, ?_⟩
      cases b with
      | true => rw [if_pos rfl]; exact ⟨g1, ρ1, h1, rh1, rs1, p1⟩
      | false => rw [if_neg Bool.false_ne_true]; exact p1 g1 H1 _ .refl rh1 rt_bl
    | _ => exact p1.elim
theorem j_not {a : Expr} {fa : EF} {pos : Pos} (ha : PE X a (tE (ct X) W fa)) : PE X (.UnaryOp .Not a pos) (tE (ct X) W (eNot fa)) :=
  PE.mono (pe_not ha) fun σ H Q h => by
    obtain ⟨g, ρ, h0, rh, rs, p⟩ := tG.bind (R := RT (ct X)) (f := fa) (k := fun v ρ h1 => match v with
      | .bl b => .ok (VV.bl (!b)) h1
      | _ => .no) h
    refine ⟨g, ρ, h0, rh, rs, p.imp fun u H1 ⟨g1, ρ1, v, h1, rh1, rs1, rv1, p1⟩ => ?_⟩
    cases v with
    | bl b =>
      have e : u = .bl b := by have := rv1.rv rfl; rw [RV] at this; exact this
      exact ⟨b, e, p1 g1 H1 _ .refl rh1 rt_bl⟩
    | _ => exact p1.elim
/-- a op b op' c -/
def eChain (o o' : Op2) (a b c : EF) : EF := fun ρ h => (a ρ h).bind fun v h1 => (b ρ h1).bind fun w h2 => (lift (o h2 v w) h2).bind fun k h3 => match k with
  | .bl true => (c ρ h3).bind fun z h4 => lift (o' h4 w z) h4
  | .bl false => .ok (.bl false) h3
  | _ => .no
theorem tChain_of {o o' : Op2} {a b c : EF} {σ : St} {H : Hp} {Q : VK} (h : tE (ct X) W (eChain o o' a b c) σ H Q) :
    tChain (Rd2 (ct X) o) (Rd2 (ct X) o') (tE (ct X) W a) (tE (ct X) W b) (tE (ct X) W c) σ H Q := by
  obtain ⟨g, ρ, h0, rh, rs, p⟩ := tG.bind (R := RT (ct X)) (f := a) (k := fun v ρ h1 => (b ρ h1).bind fun w h2 => (lift (o h2 v w) h2).bind fun k h3 => match k with
    | .bl true => (c ρ h3).bind fun z h4 => lift (o' h4 w z) h4
    | .bl false => .ok (.bl false) h3
    | _ => .no) h
  refine ⟨g, ρ, h0, rh, rs, p.imp fun u H1 ⟨g1, ρ1, v, h1, rh1, rs1, rv1, p1⟩ => ?_⟩
  refine ⟨g1, ρ1, h1, rh1, rs1, (Pst.bind (R := RT (ct X)) p1).imp fun u2 H2 ⟨g2, w, h2, st, rh2, rv2, p2⟩ => ?_⟩
  unfold lift at p2
  cases e : o h2 v w with
  | none => rw [e] at p2; exact p2.elim
  | some k =>
    rw [e] at p2
    refine ⟨g2, h2, v, w, k, rh2, rv1.stp st, rv2, e, fun g3 H3 u3 st3 rh3 rv3 => ?_⟩
    cases k with
    | bl bb =>
      have e3 : u3 = .bl bb := by have := rv3.rv rfl; rw [RV] at this; exact this
      refine ⟨bb, e3, ?_⟩
      cases bb with
      | true =>
        rw [if_pos rfl]
        have p3 : Pst (ct X) W σ (RT (ct X)) g2 H2 Q ((c ρ1 h2).bind fun z h4 => lift (o' h4 w z) h4) := p2
        refine ⟨g3, ρ1, h2, rh3, (rs1.stp st).stp st3, (Pst.bind (R := RT (ct X)) (Pst.step st3 p3)).imp fun u4 H4 ⟨g4, z, h4, st4, rh4, rv4, p4⟩ => ?_⟩
        cases e4 : o' h4 w z with
        | none => rw [e4] at p4; exact p4.elim
        | some r =>
          rw [e4] at p4
          exact ⟨g4, h4, w, z, r, rh4, (rv2.stp st3).stp st4, rv4, e4, p4⟩
      | false => rw [if_neg Bool.false_ne_true]; exact p2 g3 H3 _ st3 rh3 rt_bl
    | _ => exact p2.elim
theorem j_chain {o o' : Op2} {op op' : CmpOp} {a b c : Expr} {fa fb fc : EF} {pos : Pos} (ho : OpR X (compareOp op) (Rd2 (ct X) o)) (ho' : OpR X (compareOp op') (Rd2 (ct X) o')) (ha : PE X a (tE (ct X) W fa)) (hb : PE X b (tE (ct X) W fb)) (hc : PE X c (tE (ct X) W fc))
    (hm : lastMarks [op, op'] [b, c] = false := by with_unfolding_all rfl) : PE X (.Compare a [op, op'] [b, c] pos) (tE (ct X) W (eChain o o' fa fb fc)) :=
  PE.mono (pe_chain ho ho' ha hb hc hm) fun σ H Q h => tChain_of h
end
end J
namespace J
open PySem L2
open PyProof.Rows (envOfC)
/-! what is walked -/
/-- what is frozen stands -/
structure Fst (g : Gh) (H : Hp) (g' : Gh) (H' : Hp) : Prop where
  fz : ∀ p, g.fz p → g'.fz p
  fH : ∀ p, g.fz p → Ke (H p) (H' p)
  tp : ∀ p us, H p = some (.tup us) → H' p = some (.tup us)
theorem Stp.f {g g' : Gh} {H H' : Hp} (s : Stp g H g' H') : Fst g H g' H' := ⟨s.fz, s.fH, s.tp⟩
theorem Fst.rv {c : Ct} {g g' : Gh} {H H' : Hp} (s : Fst g H g' H') {v : VV} {u : V} (h : RV c g.fz H v u) : RV c g'.fz H' v u := RV.stp s.fz s.fH s.tp _ _ h
theorem Fst.trans {g g1 g2 : Gh} {H H1 H2 : Hp} (a : Fst g H g1 H1) (b : Fst g1 H1 g2 H2) : Fst g H g2 H2 := ⟨fun p h => b.fz p (a.fz p h), fun p h => (a.fH p h).trans (b.fH p (a.fz p h)), fun p us h => b.tp p us (a.tp p us h)⟩
structure Deliv (c : Ct) (g0 : Gh) (H0 : Hp) (items : List VV) (J : It) : Prop where
  go : ∀ g H, Fst g0 H0 g H → ∀ (i : Nat), i < items.length → J.go i H
  stop : ∀ g H, Fst g0 H0 g H → ∀ (i : Nat), items.length ≤ i → J.stop i H
  yld : ∀ g H, Fst g0 H0 g H → ∀ (i : Nat) (x : VV) (h : VH), items[i]? = some x → RH c g h H → ∀ u H', J.yld i H u H' → ∃ g', Stp g H g' H' ∧ RH c g' h H' ∧ RT c g' H' x u
abbrev tI (c : Ct) (W : WX) (f : AF) : TI := tG c W (fun g H xs J => Deliv c g H xs J) f
theorem PI.or {X : Cx} {tg e : Expr} {t t' : TI} (a : PI X tg e t) (b : PI X tg e t') : PI X tg e (fun σ H R => t σ H R ∨ t' σ H R) := ⟨fun pins s σ H R I q => q.elim (a.run pins s σ H R I) (b.run pins s σ H R I)⟩
/-! targets -/
structure PatOk (K : PySem.W.Frag) (t : TG) (b : VV → VSt → Option VSt) (own : List Nat) : Prop where
  run : ∀ (c : Ct) (g : Gh) (h : VH) (H : Hp) (ρ : VSt) (σ : St) (v : VV) (u : V) (ρ' : VSt), c.K = K → RH c g h H → RS c g H ρ σ → RT c g H v u → b v ρ = some ρ' →
    ∀ Q : St → Hp → Prop, (∀ σ', RS c g H ρ' σ' → (∀ i, i ∉ own → σ'[i]? = σ[i]?) → σ'.length = σ.length → Q σ' H) → t u σ H Q
structure PatsOk (K : PySem.W.Frag) (t : TGs) (b : List VV → VSt → Option VSt) (own : List Nat) : Prop where
  run : ∀ (c : Ct) (g : Gh) (h : VH) (H : Hp) (ρ : VSt) (σ : St) (v : List VV) (u : List V) (ρ' : VSt), c.K = K → RH c g h H → RS c g H ρ σ → RTs c g H v u → b v ρ = some ρ' →
    ∀ Q : St → Hp → Prop, (∀ σ', RS c g H ρ' σ' → (∀ i, i ∉ own → σ'[i]? = σ[i]?) → σ'.length = σ.length → Q σ' H) → t u σ H Q
def bNm (i : Nat) : VV → VSt → Option VSt := fun v ρ => some (ρ.set i (some v))
def bNil : List VV → VSt → Option VSt := fun vs ρ => match vs with
  | [] => some ρ
  | _ => none
def bCons (a : VV → VSt → Option VSt) (r : List VV → VSt → Option VSt) : List VV → VSt → Option VSt := fun vs ρ => match vs with
  | v :: vs => (a v ρ).bind fun ρ' => r vs ρ'
  | [] => none
def bTup (n : Nat) (r : List VV → VSt → Option VSt) : VV → VSt → Option VSt := fun v ρ => match v with
  | .tup xs => if xs.length = n then r xs ρ else none
  | _ => none
theorem RS.set {c : Ct} {g : Gh} {H : Hp} {ρ : VSt} {σ : St} {v : VV} {u : V} (rs : RS c g H ρ σ) (rv : RT c g H v u) (i : Nat) : RS c g H (ρ.set i (some v)) (σ.set i (some u)) := by
  refine ⟨by rw [List.length_set, List.length_set]; exact rs.len, fun j w e => ?_⟩
  by_cases ij : i = j
  · subst ij
    have hl : i < ρ.length := by have := (List.getElem?_eq_some_iff.mp e).1; simpa using this
    rw [List.getElem?_set_self hl] at e
    cases e
    exact ⟨u, List.getElem?_set_self (by rw [← rs.len]; exact hl), rv⟩
  · rw [List.getElem?_set_ne ij] at e
    rw [List.getElem?_set_ne ij]
    exact rs.get j w e
theorem pat_nm {K : PySem.W.Frag} (i : Nat) : PatOk K (gName i) (bNm i) [i] := ⟨fun c g h H ρ σ v u ρ' ek rh rs rv e Q k => by
  cases e
  refine k _ (rs.set rv i) (fun j hj => ?_) (by rw [List.length_set])
  exact List.getElem?_set_ne (fun z => hj (by rw [z]; exact List.mem_cons_self))⟩
theorem pats_nil {K : PySem.W.Frag} : PatsOk K gNil bNil [] := ⟨fun c g h H ρ σ v u ρ' ek rh rs rv e Q k => by
  cases v with
  | nil => cases e; exact ⟨rv, k _ rs (fun _ _ => rfl) rfl⟩
  | cons => cases e⟩
theorem pats_cons {K : PySem.W.Frag} {t : TG} {u : TGs} {a r l1 l2} (h1 : PatOk K t a l1) (h2 : PatsOk K u r l2) : PatsOk K (gCons t u) (bCons a r) (l1 ++ l2) := ⟨fun c g h H ρ σ v u ρ' ek rh rs rv e Q k => by
  cases v with
  | nil => cases e
  | cons x xs =>
    obtain ⟨y, ys, rfl, ra, rb⟩ := rv
    unfold bCons at e
    obtain ⟨ρ1, e1, e2⟩ := Option.bind_eq_some_iff.mp e
    refine ⟨y, ys, rfl, h1.run c g h H ρ σ x y ρ1 ek rh rs ra e1 _ fun σ1 rs1 o1 len1 => ?_⟩
    refine h2.run c g h H ρ1 σ1 xs ys ρ' ek rh rs1 rb e2 _ fun σ2 rs2 o2 len2 => ?_
    exact k σ2 rs2 (fun i hi => (o2 i (fun z => hi (List.mem_append_right _ z))).trans (o1 i (fun z => hi (List.mem_append_left _ z)))) (len2.trans len1)⟩
theorem pat_tup {K : PySem.W.Frag} {n : Nat} {u : TGs} {r l} (h : PatsOk K u r l) : PatOk K (gTup K n u) (bTup n r) l := ⟨fun c g hh H ρ σ v uu ρ' ek rh rs rv e Q k => by
  cases v with
  | tup xs =>
    unfold bTup at e
    have rv' := rv.rv rfl
    rw [RV] at rv'
    obtain ⟨p, us, eu, sq, rr⟩ := rv'
    simp only at e
    by_cases hn : xs.length = n
    · rw [if_pos hn] at e
      have sq' := sq.sq
      rw [ek] at sq'
      exact ⟨p, us, eu, sq', by rw [← rr.len]; exact hn, h.run c g hh H ρ σ xs us ρ' ek rh rs (RTs.of_rvs rr) e Q k⟩
    · rw [if_neg hn] at e; cases e
  | _ => cases e⟩
/-! comprehensions -/
def wp (ρ : VSt) : List Nat → VSt
  | [] => ρ
  | v :: vs => (wp ρ vs).set v none
theorem wp_length (ρ : VSt) : ∀ vs : List Nat, (wp ρ vs).length = ρ.length
  | [] => rfl
  | v :: vs => by unfold wp; rw [List.length_set, wp_length ρ vs]
theorem wp_some {ρ : VSt} {i : Nat} {x : VV} : ∀ {vs : List Nat}, (wp ρ vs)[i]? = some (some x) → ρ[i]? = some (some x) ∧ i ∉ vs
  | [], h => ⟨h, by simp⟩
  | v :: vs, h => by
    unfold wp at h
    by_cases hi : v = i
    · subst hi
      by_cases hv : v < (wp ρ vs).length
      · rw [List.getElem?_set_self hv] at h; cases h
      · rw [List.getElem?_eq_none (by simpa using hv)] at h; cases h
    · rw [List.getElem?_set_ne hi] at h
      obtain ⟨h1, h2⟩ := wp_some h
      exact ⟨h1, by simp only [List.mem_cons, not_or]; exact ⟨fun e => hi e.symm, h2⟩⟩
theorem RS.wipe {c : Ct} {g : Gh} {H : Hp} {ρ : VSt} {σ : St} (rs : RS c g H ρ σ) (vs : List Nat) : RS c g H (wp ρ vs) (wipe σ vs) := by
  refine ⟨by rw [wp_length, wipe_length]; exact rs.len, fun i v e => ?_⟩
  obtain ⟨a, b⟩ := wp_some e
  rw [wipe_out b]
  exact rs.get i v a
theorem wipe_at (σ : St) : ∀ (vs : List Nat) (i : Nat), i ∈ vs → (wipe σ vs)[i]? = if i < σ.length then some none else none
  | [], i, h => by simp at h
  | v :: vs, i, h => by
    unfold wipe
    by_cases e : v = i
    · subst e
      by_cases hl : v < σ.length
      · rw [List.getElem?_set_self (by rw [wipe_length]; exact hl), if_pos hl]
      · rw [List.getElem?_eq_none (by rw [List.length_set, wipe_length]; omega), if_neg hl]
    · rw [List.getElem?_set_ne e]
      exact wipe_at σ vs i (by rcases List.mem_cons.mp h with h | h; exact absurd h.symm e; exact h)
theorem wipe_same {σ σ2 : St} {vs : List Nat} (hl : σ2.length = σ.length) (h : ∀ i, i ∉ vs → σ2[i]? = σ[i]?) : wipe σ2 vs = wipe σ vs := by
  apply List.ext_getElem?
  intro i
  by_cases hi : i ∈ vs
  · rw [wipe_at σ2 vs i hi, wipe_at σ vs i hi, hl]
  · rw [wipe_out hi, wipe_out hi, h i hi]
def lcGo (b : VV → VSt → Option VSt) (t : TF) (e : EF) (ρ : VSt) : List VV → VH → Res (List VV)
  | [], h => .ok [] h
  | x :: xs, h => match b x ρ with
    | none => .no
    | some ρ' => (t ρ' h).bind fun k h1 => if k = true then (e ρ' h1).bind fun v h2 => if v.isObj = true then .no else (lcGo b t e ρ xs h2).bind fun vs h3 => .ok (v :: vs) h3 else lcGo b t e ρ xs h1
/-- [e for .. in .. if ..] as data -/
def eLc (own : List Nat) (it : AF) (b : VV → VSt → Option VSt) (t : TF) (e : EF) : EF := fun ρ h => (it ρ h).bind fun xs h1 => if xs.length > SZ then .no else match lcGo b t e (wp ρ own) xs h1 with
  | .ok vs h2 => .ok (.lst vs) h2
  | _ => .no
def tTrue : TF := fun _ h => .ok true h
theorem Stp.back {g g' : Gh} {H H' : Hp} {D : Addr} (s : Stp (g.keep D) H g' H') : Stp g H (g'.back g.kp) H' := ⟨s.io, s.fz, fun _ h => h, s.fH, fun p h => s.kH p (.inl h), s.tp⟩
theorem RVs.gback {c : Ct} {g : Gh} {H : Hp} {k : Addr → Prop} {vs : List VV} {us : List V} (h : RVs c g.fz H vs us) : RVs c (g.back k).fz H vs us := h
/-- the loop of a comprehension, whatever is made of the new list -/
theorem lc_run {c : Ct} {W0 : WX} {Wx : WX} {own : List Nat} {b : VV → VSt → Option VSt} {ft : TF} {fe : EF} {tg : TG} {J : It} {xs : List VV} {ρ : VSt} {σ : St} {g : Gh} {h : VH} {H1 : Hp} {D : Addr} {Q : VK} {K : PySem.W.Frag}
    (hW : ∀ a d s h, W0 a d s h → False) (ek : c.K = K) (pat : PatOk K tg b own) (dl : Deliv c g H1 xs J) (hsz : xs.length ≤ SZ) (rh : RH c g h H1) (rs : RS c g H1 ρ σ) (hD : H1 D = none)
    (fin : match lcGo b ft fe (wp ρ own) xs h with
      | .ok vs h' => ∀ g' H' us, Stp g H1 g' H' → RH c g' h' H' → H' D = some (.lst us) → ¬ g'.fz D → D ∉ g'.io → ¬ g'.kp D → RVs c g'.fz H' vs us → Q (.ref D) H'
      | _ => False) :
    ∃ Wv : Nat → Nat → Hp → Prop, (∃ m, Wv 0 m (upd H1 D (.lst []))) ∧ ∀ i m H, Wv i m H →
      (J.stop i H ∧ Q (.ref D) H) ∨ (J.go i H ∧ ∃ Nx : Hp → Prop, (∀ H', Nx H' → ∃ m', m' < m ∧ Wv (i + 1) m' H') ∧ ∀ x H', J.yld i H x H' → tg x (wipe σ own) H' fun σ2 H2 => wipe σ2 own = wipe σ own ∧ tT c W0 ft σ2 H2 fun bb H3 =>
        if bb = true then tE c W0 fe σ2 H3 fun y H4 => ∃ acc, H4 D = some (.lst acc) ∧ acc.length < sizeLine ∧ Nx (upd H4 D (.lst (acc ++ [y]))) else Nx H3) := by
  -- the invariant
  let P : Nat → Hp → Prop := fun i H => ∃ (gi : Gh) (hi : VH) (acc : List VV) (us : List V), acc.length ≤ i ∧ Stp g H1 gi H ∧ RH c gi hi H ∧ H D = some (.lst us) ∧ ¬ gi.fz D ∧ D ∉ gi.io ∧ ¬ gi.kp D ∧ RVs c gi.fz H acc us ∧
    (match lcGo b ft fe (wp ρ own) (xs.drop i) hi with
      | .ok vs h' => ∀ g' H' us, Stp gi H g' H' → RH c g' h' H' → H' D = some (.lst us) → ¬ g'.fz D → D ∉ g'.io → ¬ g'.kp D → RVs c g'.fz H' (acc ++ vs) us → Q (.ref D) H'
      | _ => False)
  refine ⟨fun i m H => m = xs.length - i ∧ i ≤ xs.length ∧ P i H, ⟨xs.length, by simp, Nat.zero_le _, ?_⟩, ?_⟩
  · refine ⟨g, h, [], [], Nat.le_refl _, .junk rh hD, rh.junk hD, upd_same, fun z => ?_, fun z => ?_, fun z => ?_, RVs.nil, ?_⟩
    · obtain ⟨o, e⟩ := rh.fz D z; rw [hD] at e; cases e
    · obtain ⟨o, e⟩ := rh.root z; rw [hD] at e; cases e
    · obtain ⟨o, e⟩ := rh.kp D z; rw [hD] at e; cases e
    · rw [List.drop_zero]
      generalize lcGo b ft fe (wp ρ own) xs h = r at fin ⊢
      cases r with
      | ok vs h' =>
        intro g' H' us st
        rw [List.nil_append]
        exact fin g' H' us ((Stp.junk rh hD).trans st)
      | no => exact fin
      | exc _ _ _ _ => exact fin
  · rintro i m H ⟨rfl, hi, gi, hh, acc, us, hacc, st, rhi, hDl, nf, ni, nk, rvs, fin⟩
    by_cases hlt : i < xs.length
    · refine .inr ⟨dl.go gi H st.f i hlt, P (i + 1), fun H' p' => ⟨xs.length - (i + 1), by omega, rfl, hlt, p'⟩, fun x H' y => ?_⟩
      have ed : xs.drop i = xs[i] :: xs.drop (i + 1) := List.drop_eq_getElem_cons hlt
      have rhk : RH c (gi.keep D) hh H := rhi.keep hDl nf ni
      have stk : Stp g H1 (gi.keep D) H := st.trans .keep
      obtain ⟨g1, st1, rh1, rt1⟩ := dl.yld (gi.keep D) H stk.f i xs[i] hh (List.getElem?_eq_getElem hlt) rhk x H' y
      rw [ed] at fin
      unfold lcGo at fin
      cases e : b xs[i] (wp ρ own) with
      | none => rw [e] at fin; exact fin.elim
      | some ρ' =>
        rw [e] at fin
        simp only at fin
        have rs1 : RS c g1 H' (wp ρ own) (wipe σ own) := ((rs.wipe own).stp stk).stp st1
        refine pat.run c g1 hh H' _ _ _ _ ρ' ek rh1 rs1 rt1 e _ fun σ2 rs2 o2 l2 => ⟨?_, ?_⟩
        · refine wipe_same (l2.trans (wipe_length _ _)) fun j hj => (o2 j hj).trans (wipe_out hj)
        · refine ⟨g1, ρ', hh, rh1, rs2, ?_⟩
          cases et : ft ρ' hh with
          | no => rw [et] at fin; exact fin.elim
          | exc _ _ _ _ => rw [et] at fin; exact fin.elim
          | ok k h1 =>
            rw [et] at fin
            intro g2 H2 bb st2 rh2 eb
            cases (show bb = k from eb)
            -- D is kept
            have hD2 : H2 D = some (.lst us) := by rw [st2.kH D (st1.kp D (.inr rfl)), st1.kH D (.inr rfl)]; exact hDl
            have kD2 : g2.kp D := st2.kp D (st1.kp D (.inr rfl))
            have s12 : Stp (gi.keep D) H g2 H2 := st1.trans st2
            cases k with
            | false =>
              rw [if_neg Bool.false_ne_true]
              have fin' : match lcGo b ft fe (wp ρ own) (xs.drop (i + 1)) h1 with
                | .ok vs h' => ∀ g' H' us, Stp gi H g' H' → RH c g' h' H' → H' D = some (.lst us) → ¬ g'.fz D → D ∉ g'.io → ¬ g'.kp D → RVs c g'.fz H' (acc ++ vs) us → Q (.ref D) H'
                | _ => False := by
                simp only [Res.bind, if_neg Bool.false_ne_true] at fin; exact fin
              refine ⟨g2.back gi.kp, h1, acc, us, Nat.le_succ_of_le hacc, st.trans s12.back, rh2.back (fun p z => s12.kp p (.inl z)), hD2, (rh2.kd D kD2).1, (rh2.kd D kD2).2, nk, RVs.gback (s12.rvs (show RVs c (gi.keep D).fz H acc us from rvs)), ?_⟩
              generalize lcGo b ft fe (wp ρ own) (xs.drop (i + 1)) h1 = r at fin' ⊢
              cases r with
              | ok vs h' => exact fun g' H' us' st' => fin' g' H' us' (s12.back.trans st')
              | no => exact fin'
              | exc _ _ _ _ => exact fin'
            | true =>
              rw [if_pos rfl]
              refine ⟨g2, ρ', h1, rh2, rs2.stp st2, ?_⟩
              simp only [Res.bind, if_pos rfl] at fin
              cases ee : fe ρ' h1 with
              | no => rw [ee] at fin; exact fin.elim
              | exc _ _ _ _ => rw [ee] at fin; exact fin.elim
              | ok v h2 =>
                rw [ee] at fin
                simp only at fin
                intro g3 H3 yv st3 rh3 rv3
                have s13 : Stp (gi.keep D) H g3 H3 := s12.trans st3
                have kD3 : g3.kp D := st3.kp D kD2
                have hD3 : H3 D = some (.lst us) := by rw [st3.kH D kD2]; exact hD2
                have rvs3 : RVs c g3.fz H3 acc us := s13.rvs (show RVs c (gi.keep D).fz H acc us from rvs)
                have nf3 := (rh3.kd D kD3).1
                have ni3 := (rh3.kd D kD3).2
                refine ⟨us, hD3, by rw [← rvs.len]; exact SZ_lt (by omega), ?_⟩
                cases ov : v.isObj with
                | true => rw [ov] at fin; simp at fin
                | false =>
                  simp only [ov, if_neg Bool.false_ne_true] at fin
                  -- write D
                  have sw : Stp (g3.back gi.kp) H3 (g3.back gi.kp) (upd H3 D (.lst (us ++ [yv]))) := Stp.wr (c := c) (g := g3.back gi.kp) nf3 nk (fun ys z => by rw [hD3] at z; cases z)
                  have rhb : RH c (g3.back gi.kp) h2 H3 := rh3.back (fun p z => s13.kp p (.inl z))
                  have rhw : RH c (g3.back gi.kp) h2 (upd H3 D (.lst (us ++ [yv]))) := by
                    refine ⟨rhb.len, rhb.nd, fun n o a q1 q2 => ?_, fun q z => ?_, fun q z => ?_, rhb.kd, rhb.tb.upd (by rw [hD3]; exact noTab_of (fun _ z => by cases z) (fun _ z => by cases z)), fun q z ps y => rhb.nt q z ps (by rw [upd_ne (show q ≠ D from fun e => z.elim (fun z => nf3 (e ▸ z)) (fun z => nk (e ▸ z)))] at y; exact y)⟩
                    · have na : a ≠ D := fun z => ni3 (z ▸ List.mem_of_getElem? q2)
                      exact RO.stp sw (fun h => h) (upd_ne na) (rhb.at' n o a q1 q2)
                    · rw [upd_ne (show q ≠ D from fun e => nf3 (e ▸ z))]; exact rhb.fz q z
                    · rw [upd_ne (show q ≠ D from fun e => nk (e ▸ z))]; exact rhb.kp q z
                  refine ⟨g3.back gi.kp, h2, acc ++ [v], us ++ [yv], by rw [List.length_append]; simp; omega, (st.trans s13.back).trans sw, rhw, upd_same, nf3, ni3, nk, ?_, ?_⟩
                  · exact sw.rvs (RVs.app (RVs.gback rvs3) (RVs.one (rv3.rv ov)))
                  · generalize lcGo b ft fe (wp ρ own) (xs.drop (i + 1)) h2 = r at fin ⊢
                    cases r with
                    | ok vs h' =>
                      intro g' H' us' st' rh' d1 d2 d3 d4 rv'
                      rw [List.append_assoc] at rv'
                      exact fin g' H' us' ((s13.back.trans sw).trans st') rh' d1 d2 d3 d4 rv'
                    | no => exact fin
                    | exc _ _ _ _ => exact fin
    · have e : i = xs.length := by omega
      subst e
      refine .inl ⟨dl.stop gi H st.f _ (Nat.le_refl _), ?_⟩
      rw [List.drop_length] at fin
      unfold lcGo at fin
      refine fin gi H us .refl rhi hDl nf ni nk ?_
      rw [List.append_nil]; exact rvs
section
variable {X : Cx} {W : WX}
abbrev W0 : WX := fun _ _ _ _ => False
theorem jts_nil : PTs X [] (tT (ct X) W tTrue) := ⟨fun pins s σ H Q I h => by
  obtain ⟨g, ρ, h0, rh, rs, p⟩ := h
  exact pts_nil.run pins s σ H Q I (show tYes σ H Q from p g H true .refl rh rfl)⟩
theorem jts_one {c : Expr} {f : TF} (h : PT X c (tT (ct X) W f)) : PTs X [c] (tT (ct X) W f) := pts_one h
theorem tLc_of {own : List Nat} {it : AF} {b : VV → VSt → Option VSt} {ft : TF} {fe : EF} {tg : TG} {mk : List VV → VH → Res VV} (pat : PatOk X.K tg b own)
    (hmk : ∀ (g : Gh) (h : VH) (H : Hp) (D : Addr) (vs : List VV) (us : List V) (σ : St) (Q : VK), RH (ct X) g h H → H D = some (.lst us) → ¬ g.fz D → D ∉ g.io → ¬ g.kp D → RVs (ct X) g.fz H vs us → Pst (ct X) W σ (RT (ct X)) g H Q (mk vs h) → Q (.ref D) H)
    {σ : St} {H : Hp} {Q : VK} (h : tE (ct X) W (fun ρ h => (it ρ h).bind fun xs h1 => if xs.length > SZ then .no else (match lcGo b ft fe (wp ρ own) xs h1 with
      | .ok vs h2 => mk vs h2
      | _ => .no)) σ H Q) :
    tLc (tI (ct X) W it) tg (tT (ct X) W0 ft) (tE (ct X) W0 fe) own σ H Q := by
  obtain ⟨g, ρ, h0, rh, rs, p⟩ := tG.bind (R := fun g H xs J => Deliv (ct X) g H xs J) (f := it) (k := fun (xs : List VV) ρ h1 => if xs.length > SZ then .no else (match lcGo b ft fe (wp ρ own) xs h1 with
      | .ok vs h2 => mk vs h2
      | _ => .no)) h
  refine ⟨g, ρ, h0, rh, rs, p.imp fun J H1 ⟨g1, ρ1, xs, h1, rh1, rs1, dl, p1⟩ D hD => ?_⟩
  by_cases hz : xs.length > SZ
  · rw [if_pos hz] at p1; exact p1.elim
  · rw [if_neg hz] at p1
    refine lc_run (Wx := W) (fun _ _ _ _ z => z) rfl pat dl (by omega) rh1 rs1 hD ?_
    generalize lcGo b ft fe (wp ρ1 own) xs h1 = r at p1 ⊢
    cases r with
    | ok vs h' => exact fun g' H' us st rh' d1 d2 d3 d4 rv' => hmk g' h' H' D vs us σ Q rh' d1 d2 d3 d4 rv' (Pst.step st p1)
    | no => exact p1
    | exc _ _ _ _ => exact p1
theorem mk_lst (g : Gh) (h : VH) (H : Hp) (D : Addr) (vs : List VV) (us : List V) (σ : St) (Q : VK) (rh : RH (ct X) g h H) (e : H D = some (.lst us)) (nf : ¬ g.fz D) (ni : D ∉ g.io) (nk : ¬ g.kp D) (rv : RVs (ct X) g.fz H vs us)
    (p : Pst (ct X) W σ (RT (ct X)) g H Q (.ok (.lst vs) h)) : Q (.ref D) H := by
  have st : Stp g H (g.frz D) H := .kill
  refine p (g.frz D) H (.ref D) st ⟨rh.len, rh.nd, fun n o a h1 h2 => ?_, fun q z => ?_, rh.kp, fun q z => ⟨fun y => y.elim (rh.kd q z).1 (fun e => nk (e ▸ z)), (rh.kd q z).2⟩, rh.tb, fun q z ps y => z.elim (fun z => z.elim (fun z => rh.nt q (.inl z) ps y) (fun z => by rw [z, e] at y; cases y)) (fun z => rh.nt q (.inr z) ps y)⟩ ?_
  · exact RO.stp st (fun x z => z.elim x (fun e => ni (e ▸ List.mem_of_getElem? h2))) rfl (rh.at' n o a h1 h2)
  · rcases z with z | z
    · exact rh.fz q z
    · rw [z]; exact ⟨_, e⟩
  · show RV _ _ _ _ _
    rw [RV]
    exact ⟨D, us, rfl, .inr rfl, e, st.rvs rv⟩
theorem j_lc {elt tg iter : Expr} {ifs : List Expr} {scope : Scope} {own : List (Str × Nat)} {pos : Pos} {it : AF} {g : TG} {b : VV → VSt → Option VSt} {ft : TF} {fe : EF} (hc : X.calm = true) (hN : X.N.Nodup) (hi : PI X tg iter (tI (ct X) W it)) (ok : BlkOk X.N X.env.scope scope own)
    (hg : ∀ (s : Shared) (H : Hp) (C : Addr) (cl : List (Str × Addr)) (fp : List Addr), PG (X.blk s H scope (compEnvC scope cl C X.env) fp) tg g) (pat : PatOk X.K g b (own.map (·.2)))
    (ht : ∀ (s : Shared) (H : Hp) (C : Addr) (cl : List (Str × Addr)) (fp : List Addr), PTs (X.blk s H scope (compEnvC scope cl C X.env) fp) ifs (tT (ct X) W0 ft))
    (he : ∀ (s : Shared) (H : Hp) (C : Addr) (cl : List (Str × Addr)) (fp : List Addr), PE (X.blk s H scope (compEnvC scope cl C X.env) fp) elt (tE (ct X) W0 fe)) (hs : ∀ x, foldedSetIterable iter X.env x = pure x := by intro _; rfl) :
    PE X (.ListComp elt [⟨tg, iter, ifs, 0⟩] scope pos) (tE (ct X) W (eLc (own.map (·.2)) it b ft fe)) :=
  PE.mono (pe_lc hc hN hi ok hg ht he hs) fun σ H Q h => by
    exact tLc_of (mk := fun vs h => .ok (.lst vs) h) pat mk_lst h
/-! statements -/
inductive SR where
  | no
  | nx (ρ : VSt) (h : VH)
  | ret (v : VV) (h : VH)
  | brk (ρ : VSt) (h : VH)
  | cnt (ρ : VSt) (h : VH)
  | exc (x : Str) (ns : List Str) (vs : List VV) (ρ : VSt) (h : VH)
abbrev SF := VSt → VH → SR
def PS1 (c : Ct) (W : WX) (g : Gh) (H : Hp) (D : Ends) : SR → Prop
  | .no => False
  | .nx ρ h => ∀ g' H' σ', Stp g H g' H' → RH c g' h H' → RS c g' H' ρ σ' → D.nx σ' H'
  | .ret v h => ∀ g' H' u, Stp g H g' H' → RH c g' h H' → RT c g' H' v u → D.rt u H'
  | .brk ρ h => ∀ g' H' σ', Stp g H g' H' → RH c g' h H' → RS c g' H' ρ σ' → D.bk σ' H'
  | .cnt ρ h => ∀ g' H' σ', Stp g H g' H' → RH c g' h H' → RS c g' H' ρ σ' → D.ct σ' H'
  | .exc x ns vs ρ h => ∀ g' H' σ' C d us, Stp g H g' H' → RH c g' h H' → RS c g' H' ρ σ' → c.mg x = some (.ref C) → (H' d = some (.xd (ns.zip us)) ∧ ¬ g'.fz d ∧ d ∉ g'.io) → ns.length = us.length → RVs c g'.fz H' vs us → W (.ref C) (some d) σ' H'
theorem PS1.step {c : Ct} {W : WX} {g g1 : Gh} {H H1 : Hp} {D : Ends} {r : SR} (s : Stp g H g1 H1) (h : PS1 c W g H D r) : PS1 c W g1 H1 D r := by
  cases r with
  | no => exact h
  | nx => exact fun g' H' σ' st => h g' H' σ' (s.trans st)
  | ret => exact fun g' H' σ' st => h g' H' σ' (s.trans st)
  | brk => exact fun g' H' σ' st => h g' H' σ' (s.trans st)
  | cnt => exact fun g' H' σ' st => h g' H' σ' (s.trans st)
  | exc => exact fun g' H' σ' C d us st => h g' H' σ' C d us (s.trans st)
def tS (c : Ct) (W : WX) (F : SF) : TS := fun D σ H => ∃ g ρ h, RH c g h H ∧ RS c g H ρ σ ∧ PS1 c W g H D (F ρ h)
/-- from an expression's result to a statement's -/
def Res.st {α : Type} (r : Res α) (ρ : VSt) (k : α → VH → SR) : SR := match r with
  | .no => .no
  | .ok a h => k a h
  | .exc x ns vs h => .exc x ns vs ρ h
theorem Pst.st {α β : Type} {R : Gh → Hp → α → β → Prop} {c : Ct} {W : WX} {σ : St} {g : Gh} {H : Hp} {D : Ends} {r : Res α} {ρ : VSt} {k : α → VH → SR} (rs : RS c g H ρ σ) (h : PS1 c W g H D (r.st ρ k)) :
    Pst c W σ R g H (fun u H1 => ∃ g1 v h1, Stp g H g1 H1 ∧ RH c g1 h1 H1 ∧ RS c g1 H1 ρ σ ∧ R g1 H1 v u ∧ PS1 c W g1 H1 D (k v h1)) r := by
  cases r with
  | no => exact h
  | ok v h' => exact fun g' H' u st rh rv => ⟨g', v, h', st, rh, rs.stp st, rv, PS1.step st h⟩
  | exc x ns vs h' => exact fun g' H' C d us st rh m e l rv => h g' H' σ C d us st rh (rs.stp st) m e l rv
def sSkip : SF := fun ρ h => .nx ρ h
def sSeq (a b : SF) : SF := fun ρ h => match a ρ h with
  | .nx ρ' h' => b ρ' h'
  | r => r
def sAsg (e : EF) (b : VV → VSt → Option VSt) : SF := fun ρ h => (e ρ h).st ρ fun v h1 => match b v ρ with
  | some ρ' => .nx ρ' h1
  | none => .no
def sSet (i : Nat) (e : EF) : SF := fun ρ h => (e ρ h).st ρ fun v h1 => .nx (ρ.set i (some v)) h1
def sIf (c : TF) (a b : SF) : SF := fun ρ h => (c ρ h).st ρ fun k h1 => if k = true then a ρ h1 else b ρ h1
def sRet (e : EF) : SF := fun ρ h => (e ρ h).st ρ fun v h1 => .ret v h1
def sExpr (e : EF) : SF := fun ρ h => (e ρ h).st ρ fun v h1 => .nx ρ h1
def forGo (b : VV → VSt → Option VSt) (body : SF) : List VV → VSt → VH → SR
  | [], ρ, h => .nx ρ h
  | x :: xs, ρ, h => match b x ρ with
    | none => .no
    | some ρ' => match body ρ' h with
      | .nx ρ2 h2 => forGo b body xs ρ2 h2
      | .cnt ρ2 h2 => forGo b body xs ρ2 h2
      | .brk ρ2 h2 => .nx ρ2 h2
      | r => r
def sFor (it : AF) (b : VV → VSt → Option VSt) (body : SF) : SF := fun ρ h => (it ρ h).st ρ fun xs h1 => forGo b body xs ρ h1
theorem js_nil : PSs X [] (tS (ct X) W sSkip) := PSs.mono pss_nil fun D σ H ⟨g, ρ, h, rh, rs, p⟩ => p g H σ .refl rh rs
theorem js_cons {st : Stmt} {rest : List Stmt} {fa fb : SF} (h1 : PS X st (tS (ct X) W fa)) (h2 : PSs X rest (tS (ct X) W fb)) : PSs X (st :: rest) (tS (ct X) W (sSeq fa fb)) :=
  PSs.mono (pss_cons h1 h2) fun D σ H ⟨g, ρ, h, rh, rs, p⟩ => by
    refine ⟨g, ρ, h, rh, rs, ?_⟩
    unfold sSeq at p
    cases e : fa ρ h with
    | nx ρ' h' =>
      rw [e] at p
      exact fun g' H' σ' st rh' rs' => ⟨g', ρ', h', rh', rs', PS1.step st p⟩
    | no => rw [e] at p; exact p
    | ret => rw [e] at p; exact p
    | brk => rw [e] at p; exact p
    | cnt => rw [e] at p; exact p
    | exc => rw [e] at p; exact p
theorem js_one {st : Stmt} {fa : SF} (h1 : PS X st (tS (ct X) W fa)) : PSs X [st] (tS (ct X) W fa) := pss_one h1
theorem js_asg {tg e : Expr} {f : EF} {g : TG} {b : VV → VSt → Option VSt} {own : List Nat} {pos : Pos} (he : PE X e (tE (ct X) W f)) (hg : PG X tg g) (pat : PatOk X.K g b own) (hs : swapsWithSole [tg] e pos.line X.env = pure false := by rfl) (hw : swappedStores [tg] e X.env = pure none := by rfl) (h1 : (assignEach [tg] X.env).map (·.2) = [assign tg X.env] := by rfl) :
    PS X (.Assign [tg] e pos) (tS (ct X) W (sAsg f b)) :=
  PS.mono (ps_asg he hg hs hw h1) fun D σ H ⟨g, ρ, h, rh, rs, p⟩ => by
    refine ⟨g, ρ, h, rh, rs, (Pst.st (R := RT (ct X)) rs p).imp fun u H1 ⟨g1, v, h1, st, rh1, rs1, rv1, p1⟩ => ?_⟩
    cases e : b v ρ with
    | none => rw [e] at p1; exact p1.elim
    | some ρ' =>
      rw [e] at p1
      exact pat.run (ct X) g1 h1 H1 ρ σ v u ρ' rfl rh1 rs1 rv1 e _ fun σ' rs' _ _ => p1 g1 H1 σ' .refl rh1 rs'
theorem js_set {i : Nat} {x : Str} {e : Expr} {f : EF} {pos pos' : Pos} (hN : X.N.Nodup) (hi : X.N[i]? = some x) (hx : Loc X.env.scope x) (he : PE X e (tE (ct X) W f)) (hs : swapsWith e (some (.Name x pos')) pos.line X.env = pure false := by rfl)
    (hf : X.fn x = true ∨ X.env.scope.names.lookup x = some .local := by first | exact .inl rfl | exact .inr rfl | assumption) :
    PS X (.Assign [.Name x pos'] e pos) (tS (ct X) W (sSet i f)) :=
  PS.mono (ps_set (i := i) hN hi hx he hs hf) fun D σ H ⟨g, ρ, h, rh, rs, p⟩ => by
    refine ⟨g, ρ, h, rh, rs, (Pst.st (R := RT (ct X)) rs p).imp fun u H1 ⟨g1, v, h1, st, rh1, rs1, rv1, p1⟩ => ?_⟩
    exact p1 g1 H1 _ .refl rh1 (rs1.set rv1 i)
theorem js_if {c : Expr} {a b : List Stmt} {fc : TF} {fa fb : SF} {pos : Pos} (hc : PT X c (tT (ct X) W fc)) (ha : PSs X a (tS (ct X) W fa)) (hb : PSs X b (tS (ct X) W fb)) : PS X (.If c a b pos) (tS (ct X) W (sIf fc fa fb)) :=
  PS.mono (ps_if hc ha hb) fun D σ H ⟨g, ρ, h, rh, rs, p⟩ => by
    refine ⟨g, ρ, h, rh, rs, (Pst.st (R := RB) rs p).imp fun u H1 ⟨g1, v, h1, st, rh1, rs1, rv1, p1⟩ => ?_⟩
    cases rv1
    cases u with
    | true => rw [if_pos rfl] at p1 ⊢; exact ⟨g1, ρ, h1, rh1, rs1, p1⟩
    | false => rw [if_neg Bool.false_ne_true] at p1 ⊢; exact ⟨g1, ρ, h1, rh1, rs1, p1⟩
theorem js_ret {e : Expr} {f : EF} {pos : Pos} (he : PE X e (tE (ct X) W f)) : PS X (.Return (some e) pos) (tS (ct X) W (sRet f)) :=
  PS.mono (ps_ret he) fun D σ H ⟨g, ρ, h, rh, rs, p⟩ => by
    refine ⟨g, ρ, h, rh, rs, (Pst.st (R := RT (ct X)) rs p).imp fun u H1 ⟨g1, v, h1, st, rh1, rs1, rv1, p1⟩ => ?_⟩
    exact p1 g1 H1 u .refl rh1 rv1
theorem js_expr {e : Expr} {f : EF} {pos : Pos} (he : PE X e (tE (ct X) W f)) (hs : swapsWith e none pos.line X.env = pure false := by rfl) : PS X (.Expr e pos) (tS (ct X) W (sExpr f)) :=
  PS.mono (ps_expr he hs) fun D σ H ⟨g, ρ, h, rh, rs, p⟩ => by
    refine ⟨g, ρ, h, rh, rs, (Pst.st (R := RT (ct X)) rs p).imp fun u H1 ⟨g1, v, h1, st, rh1, rs1, rv1, p1⟩ => ?_⟩
    exact p1 g1 H1 σ .refl rh1 rs1
theorem js_for {tg iter : Expr} {body : List Stmt} {it : AF} {g : TG} {b : VV → VSt → Option VSt} {own : List Nat} {fb : SF} {pos : Pos} (hp : PassesOwn (model X.prog X.w) X.A X.env X.xe) (hc : X.calm = true) (hi : PI X tg iter (tI (ct X) W it)) (hg : PG X tg g) (pat : PatOk X.K g b own) (hb : PSs X body (tS (ct X) W fb))
    (hs : ∀ x, foldedSetIterable iter X.env x = pure x := by intro _; rfl) : PS X (.For tg iter body [] pos) (tS (ct X) W (sFor it b fb)) :=
  PS.mono (ps_for hp hc hi hg hb hs) fun D σ H ⟨g, ρ, h, rh, rs, p⟩ => by
    refine ⟨g, ρ, h, rh, rs, (Pst.st (R := fun g H xs J => Deliv (ct X) g H xs J) rs p).imp fun J H1 ⟨g1, xs, h1, st, rh1, rs1, dl, p1⟩ => ?_⟩
    let P : Nat → St → Hp → Prop := fun i σ' H' => ∃ (gi : Gh) (ρi : VSt) (hi : VH), Stp g1 H1 gi H' ∧ RH (ct X) gi hi H' ∧ RS (ct X) gi H' ρi σ' ∧ PS1 (ct X) W gi H' D (forGo b fb (xs.drop i) ρi hi)
    refine ⟨fun i m σ' H' => m = xs.length - i ∧ i ≤ xs.length ∧ P i σ' H', ⟨xs.length, by simp, Nat.zero_le _, g1, ρ, h1, .refl, rh1, rs1, by rw [List.drop_zero]; exact p1⟩, ?_⟩
    rintro i m σ' H' ⟨rfl, hi, gi, ρi, hh, sti, rhi, rsi, pi⟩
    by_cases hlt : i < xs.length
    · have ed : xs.drop i = xs[i] :: xs.drop (i + 1) := List.drop_eq_getElem_cons hlt
      refine .inr ⟨dl.go gi H' sti.f i hlt, P (i + 1), fun σ2 H2 p2 => ⟨xs.length - (i + 1), by omega, rfl, hlt, p2⟩, fun x H2 y => ?_⟩
      obtain ⟨g2, st2, rh2, rt2⟩ := dl.yld gi H' sti.f i xs[i] hh (List.getElem?_eq_getElem hlt) rhi x H2 y
      rw [ed] at pi
      unfold forGo at pi
      cases e : b xs[i] ρi with
      | none => rw [e] at pi; exact pi.elim
      | some ρ' =>
        rw [e] at pi
        simp only at pi
        refine pat.run (ct X) g2 hh H2 ρi σ' xs[i] x ρ' rfl rh2 (rsi.stp st2) rt2 e _ fun σ3 rs3 _ _ => ⟨g2, ρ', hh, rh2, rs3, ?_⟩
        cases eb : fb ρ' hh with
        | no => rw [eb] at pi; exact pi
        | nx ρ2 h2 => rw [eb] at pi; exact fun g' H' σ' st rh' rs' => ⟨g', ρ2, h2, (sti.trans st2).trans st, rh', rs', PS1.step (st2.trans st) pi⟩
        | cnt ρ2 h2 => rw [eb] at pi; exact fun g' H' σ' st rh' rs' => ⟨g', ρ2, h2, (sti.trans st2).trans st, rh', rs', PS1.step (st2.trans st) pi⟩
        | brk ρ2 h2 => rw [eb] at pi; exact PS1.step (r := .nx ρ2 h2) st2 pi
        | ret v h2 => rw [eb] at pi; exact PS1.step (r := .ret v h2) st2 pi
        | exc x ns vs ρ2 h2 => rw [eb] at pi; exact PS1.step (r := .exc x ns vs ρ2 h2) st2 pi
    · have e : i = xs.length := by omega
      subst e
      rw [List.drop_length] at pi
      unfold forGo at pi
      exact .inl ⟨dl.stop gi H' sti.f _ (Nat.le_refl _), pi gi H' σ' .refl rhi rsi⟩
end
end J
namespace J
open PySem L2
open PyProof.Rows (envOfC)
/-! lists by value -/
def lstOf (h : VH) : VV → Option (List VV)
  | .lst xs => some xs
  | .scr xs => some xs
  | .obj n => match h[n]? with
    | some (.fl xs) => some xs
    | some (.fzn (.lst xs)) => some xs
    | _ => none
  | _ => none
/-- .. exact (not the script) -/
def lstOf' (h : VH) : VV → Option (List VV)
  | .lst xs => some xs
  | .obj n => match h[n]? with
    | some (.fl xs) => some xs
    | some (.fzn (.lst xs)) => some xs
    | _ => none
  | _ => none
theorem lstOf'_get {c : Ct} {g : Gh} {h : VH} {H : Hp} {v : VV} {u : V} {xs : List VV} (rh : RH c g h H) (rv : RT c g H v u) (e : lstOf' h v = some xs) : ∃ p us, u = .ref p ∧ H p = some (.lst us) ∧ RVs c g.fz H xs us := by
  cases v with
  | lst ys =>
    cases e
    have q := rv.rv rfl
    rw [RV] at q
    obtain ⟨p, us, a, b, d, r⟩ := q
    exact ⟨p, us, a, d, r⟩
  | obj n =>
    obtain ⟨a, ea, eu⟩ := rv
    unfold lstOf' at e
    simp only at e
    split at e
    · rename_i ys en
      cases e
      obtain ⟨_, us, d, r⟩ := rh.at' n _ a en ea
      exact ⟨a, us, eu, d, r⟩
    · rename_i ys en
      cases e
      obtain ⟨_, q⟩ := rh.at' n _ a en ea
      rw [RV] at q
      obtain ⟨p, us, z, b, d, r⟩ := q
      cases z
      exact ⟨a, us, eu, d, r⟩
    · cases e
  | _ => cases e
theorem lstOf_get {c : Ct} {g : Gh} {h : VH} {H : Hp} {v : VV} {u : V} {xs : List VV} (rh : RH c g h H) (rv : RT c g H v u) (e : lstOf h v = some xs) : ∃ p us, u = .ref p ∧ SqL c.K H p us ∧ RVs c g.fz H xs us := by
  cases v with
  | scr ys =>
    cases e
    have q := rv.rv rfl
    rw [RV] at q
    obtain ⟨p, us, a, d, r⟩ := q
    exact ⟨p, us, a, d.sq, r⟩
  | lst ys =>
    obtain ⟨p, us, a, b, r⟩ := lstOf'_get (xs := xs) rh rv e
    exact ⟨p, us, a, SqL.of b, r⟩
  | obj n =>
    obtain ⟨p, us, a, b, r⟩ := lstOf'_get (xs := xs) rh rv e
    exact ⟨p, us, a, SqL.of b, r⟩
  | _ => cases e
theorem tup_get {c : Ct} {g : Gh} {H : Hp} {u : V} {xs : List VV} (rv : RT c g H (.tup xs) u) : ∃ p us, u = .ref p ∧ TupAt c g.fz H p us ∧ RVs c g.fz H xs us := by
  have q := rv.rv rfl
  rw [RV] at q
  exact q
theorem int_get {c : Ct} {g : Gh} {H : Hp} {u : V} {i : Int} (rv : RT c g H (.int i) u) : u = .int i := by have q := rv.rv rfl; rw [RV] at q; exact q
theorem bl_get {c : Ct} {g : Gh} {H : Hp} {u : V} {i : Bool} (rv : RT c g H (.bl i) u) : u = .bl i := by have q := rv.rv rfl; rw [RV] at q; exact q
theorem str_get {c : Ct} {g : Gh} {H : Hp} {u : V} {i : Str} (rv : RT c g H (.str i) u) : u = .str i := by have q := rv.rv rfl; rw [RV] at q; exact q
theorem non_get {c : Ct} {g : Gh} {H : Hp} {u : V} (rv : RT c g H .non u) : u = .non := by have q := rv.rv rfl; rw [RV] at q; exact q
theorem ty_get {c : Ct} {g : Gh} {H : Hp} {u : V} {n : String} (rv : RT c g H (.ty n) u) : u = .ty n := by have q := rv.rv rfl; rw [RV] at q; exact q
def lstF : VV → Option (List VV)
  | .lst xs => some xs
  | .scr xs => some xs
  | _ => none
theorem lstF_get {c : Ct} {g : Gh} {H : Hp} {v : VV} {u : V} {xs : List VV} (rv : RT c g H v u) (e : lstF v = some xs) : ∃ p us, u = .ref p ∧ LstAt c g.fz H p us ∧ RVs c g.fz H xs us := by
  cases v with
  | scr ys =>
    cases e
    have q := rv.rv rfl
    rw [RV] at q
    exact q
  | lst ys =>
    cases e
    have q := rv.rv rfl
    rw [RV] at q
    obtain ⟨p, us, a, b, d, r⟩ := q
    exact ⟨p, us, a, .inl ⟨b, .inl d⟩, r⟩
  | _ => cases e
/-- .. whose items may be roots -/
def lstR (h : VH) : VV → Option (List VV)
  | .obj n => match h[n]? with
    | some (.lo xs) => some xs
    | _ => lstOf h (.obj n)
  | v => lstOf h v
theorem lstR_get {c : Ct} {g : Gh} {h : VH} {H : Hp} {v : VV} {u : V} {xs : List VV} (rh : RH c g h H) (rv : RT c g H v u) (e : lstR h v = some xs) : ∃ p us, u = .ref p ∧ SqL c.K H p us ∧ RTs c g H xs us := by
  have old : lstOf h v = some xs → ∃ p us, u = .ref p ∧ SqL c.K H p us ∧ RTs c g H xs us := fun e => by
    obtain ⟨p, us, a, b, r⟩ := lstOf_get rh rv e
    exact ⟨p, us, a, b, RTs.of_rvs r⟩
  cases v with
  | obj n =>
    unfold lstR at e
    simp only at e
    split at e
    · rename_i ys en
      cases e
      obtain ⟨a, ea, eu⟩ := rv
      obtain ⟨_, us, d, r⟩ := rh.at' n _ a en ea
      exact ⟨a, us, eu, SqL.of d, r⟩
    · exact old e
  | _ => exact old e
/-! iterables -/
theorem deliv_list {c : Ct} {g : Gh} {h : VH} {H : Hp} {p : Addr} {us : List V} {xs : List VV} (rd : LstAt c g.fz H p us) (rv : RVs c g.fz H xs us) : Deliv c g H xs (Itl c.K p) where
  go := fun g1 H1 st i hi => by
    obtain ⟨u, e, _⟩ := rv.get (List.getElem?_eq_getElem hi)
    exact ⟨us, u, (rd.stp st.fz st.fH).sq, e⟩
  stop := fun g1 H1 st i hi => ⟨us, (rd.stp st.fz st.fH).sq, by rw [← rv.len]; exact hi⟩
  yld := fun g1 H1 st i x h1 e rh u H' y => by
    obtain ⟨eH, hy⟩ := y
    subst eH
    obtain ⟨u', e', r⟩ := rv.get e
    have q := hy us ((rd.stp st.fz st.fH).sq)
    rw [e'] at q
    cases q
    exact ⟨g1, .refl, rh, RT.of_rv (st.rv r)⟩
theorem deliv_tup {c : Ct} {g : Gh} {h : VH} {H : Hp} {p : Addr} {us : List V} {xs : List VV} (rd : TupAt c g.fz H p us) (rv : RVs c g.fz H xs us) : Deliv c g H xs (Itt c.K p) where
  go := fun g1 H1 st i hi => by
    obtain ⟨u, e, _⟩ := rv.get (List.getElem?_eq_getElem hi)
    exact ⟨us, u, (TupAt.stp (z' := g.fz) st.tp rd).sq, e⟩
  stop := fun g1 H1 st i hi => ⟨us, (TupAt.stp (z' := g.fz) st.tp rd).sq, by rw [← rv.len]; exact hi⟩
  yld := fun g1 H1 st i x h1 e rh u H' y => by
    obtain ⟨eH, hy⟩ := y
    subst eH
    obtain ⟨u', e', r⟩ := rv.get e
    have q := hy us (TupAt.stp (z' := g.fz) st.tp rd).sq
    rw [e'] at q
    cases q
    exact ⟨g1, .refl, rh, RT.of_rv (st.rv r)⟩
def signs (s : Str) : List VV := s.cps.toList.map fun c => .str ⟨#[c]⟩
theorem deliv_str {c : Ct} {g : Gh} {H : Hp} {s : Str} : Deliv c g H (signs s) (Its s) where
  go := fun g1 H1 st i hi => by unfold signs at hi; simp at hi; exact hi
  stop := fun g1 H1 st i hi => by unfold signs at hi; simp at hi; exact hi
  yld := fun g1 H1 st i x h1 e rh u H' y => by
    obtain ⟨eH, k, hk, hu⟩ := y
    subst eH
    refine ⟨g1, .refl, rh, ?_⟩
    unfold signs at e
    rw [List.getElem?_map, Array.getElem?_toList, hk] at e
    cases e
    rw [hu]
    exact rt_str
def rngV (lo : Int) (n : Nat) : List VV := (List.range n).map fun (i : Nat) => .int (lo + (i : Int))
theorem deliv_rng {c : Ct} {g : Gh} {H : Hp} {lo : Int} {n : Nat} : Deliv c g H (rngV lo n) (Itr lo n) where
  go := fun g1 H1 st i hi => by unfold rngV at hi; simp at hi; exact hi
  stop := fun g1 H1 st i hi => by unfold rngV at hi; simp at hi; exact hi
  yld := fun g1 H1 st i x h1 e rh u H' y => by
    obtain ⟨eH, hu⟩ := y
    subst eH
    refine ⟨g1, .refl, rh, ?_⟩
    unfold rngV at e
    rw [List.getElem?_map] at e
    cases q : (List.range n)[i]? with
    | none => rw [q] at e; cases e
    | some j =>
      rw [q] at e
      cases e
      obtain ⟨hh, e2⟩ := List.getElem?_eq_some_iff.mp q
      rw [List.getElem_range] at e2
      subst e2
      rw [hu]
      exact rt_int
/-- items of a list, a tuple, a text -/
def iSeq (f : EF) : AF := fun ρ h => (f ρ h).bind fun v h1 => match v with
  | .lst xs => .ok xs h1
  | .scr xs => .ok xs h1
  | .tup xs => .ok xs h1
  | .str s => .ok (signs s) h1
  | _ => .no
def iRange1 (f : EF) : AF := fun ρ h => (f ρ h).bind fun v h1 => match v with
  | .int n => if -(2 ^ 62) ≤ n ∧ n < 2 ^ 62 then .ok (rngV 0 n.toNat) h1 else .no
  | _ => .no
def prs : List VV → List VV → List VV
  | x :: xs, y :: ys => .tup [x, y] :: prs xs ys
  | _, _ => []
def iZip (a : AF) : AF := fun ρ h => (a ρ h).bind fun v h1 => match v with
  | [.lst xs, .lst ys] => .ok (prs xs ys) h1
  | [.tup xs, .tup ys] => .ok (prs xs ys) h1
  | _ => .no
def enum : Nat → List VV → List VV
  | _, [] => []
  | n, x :: xs => .tup [.int n, x] :: enum (n + 1) xs
def iEnum (a : AF) : AF := fun ρ h => (a ρ h).bind fun v h1 => match v with
  | [.lst xs] => .ok (enum 0 xs) h1
  | [.scr xs] => .ok (enum 0 xs) h1
  | _ => .no
theorem prs_get : ∀ (xs ys : List VV) (i : Nat), (prs xs ys)[i]? = (match xs[i]?, ys[i]? with
    | some x, some y => some (.tup [x, y])
    | _, _ => none)
  | [], ys, i => by simp [prs]
  | x :: xs, [], i => by simp [prs]
  | x :: xs, y :: ys, 0 => by simp [prs]
  | x :: xs, y :: ys, i + 1 => by simp [prs, prs_get xs ys i]
theorem prs_len : ∀ (xs ys : List VV), (prs xs ys).length = min xs.length ys.length
  | [], ys => by simp [prs]
  | x :: xs, [] => by simp [prs]
  | x :: xs, y :: ys => by simp [prs, prs_len xs ys]
theorem enum_get : ∀ (n : Nat) (xs : List VV) (i : Nat), (enum n xs)[i]? = xs[i]?.map fun x => .tup [.int ((n + i : Nat) : Int), x]
  | n, [], i => by simp [enum]
  | n, x :: xs, 0 => by simp [enum]
  | n, x :: xs, i + 1 => by simp [enum, enum_get (n + 1) xs i]; congr 1; funext y; congr 3; omega
theorem enum_len : ∀ (n : Nat) (xs : List VV), (enum n xs).length = xs.length
  | _, [] => rfl
  | n, x :: xs => by simp [enum, enum_len (n + 1) xs]
theorem pair_new {c : Ct} {g : Gh} {h : VH} {H : Hp} {T : Addr} {xs : List VV} {us : List V} (rh : RH c g h H) (hT : H T = none) (rv : RVs c g.fz H xs us) :
    Stp g H (g.frz T) (upd H T (.tup us)) ∧ RH c (g.frz T) h (upd H T (.tup us)) ∧ RT c (g.frz T) (upd H T (.tup us)) (.tup xs) (.ref T) := by
  refine ⟨.new rh hT, rh.new hT, ?_⟩
  show RV _ _ _ _ _
  rw [RV]
  exact ⟨T, us, rfl, upd_same, (Stp.new rh hT).rvs rv⟩
theorem deliv_zip {c : Ct} {g : Gh} {H : Hp} {p q : Addr} {us ws : List V} {xs ys : List VV} (rd : LstAt c g.fz H p us) (rd' : LstAt c g.fz H q ws) (rv : RVs c g.fz H xs us) (rv' : RVs c g.fz H ys ws) : Deliv c g H (prs xs ys) (Itz c.K p q) where
  go := fun g1 H1 st i hi => by
    rw [prs_len] at hi
    obtain ⟨u, e, _⟩ := rv.get (List.getElem?_eq_getElem (show i < xs.length by omega))
    obtain ⟨w, e', _⟩ := rv'.get (List.getElem?_eq_getElem (show i < ys.length by omega))
    exact ⟨us, ws, u, w, (rd.stp st.fz st.fH).sq, (rd'.stp st.fz st.fH).sq, e, e'⟩
  stop := fun g1 H1 st i hi => by
    rw [prs_len, rv.len, rv'.len] at hi
    exact ⟨us, ws, (rd.stp st.fz st.fH).sq, (rd'.stp st.fz st.fH).sq, by omega⟩
  yld := fun g1 H1 st i x h1 e rh u H' y => by
    obtain ⟨T, a, b, eu, hT, eH, ha, hb⟩ := y
    subst eH eu
    rw [prs_get] at e
    cases ex : xs[i]? with
    | none => rw [ex] at e; cases e
    | some x1 =>
      cases ey : ys[i]? with
      | none => rw [ex, ey] at e; cases e
      | some y1 =>
        rw [ex, ey] at e
        cases e
        obtain ⟨u1, e1, r1⟩ := rv.get ex
        obtain ⟨w1, e2, r2⟩ := rv'.get ey
        have qa := ha us ((rd.stp st.fz st.fH).sq)
        have qb := hb ws ((rd'.stp st.fz st.fH).sq)
        rw [e1] at qa; cases qa
        rw [e2] at qb; cases qb
        obtain ⟨s1, s2, s3⟩ := pair_new (xs := [x1, y1]) rh hT (RVs.cons (st.rv r1) (RVs.one (st.rv r2)))
        exact ⟨_, s1, s2, s3⟩
theorem deliv_zipT {c : Ct} {g : Gh} {H : Hp} {p q : Addr} {us ws : List V} {xs ys : List VV} (rd : TupAt c g.fz H p us) (rd' : TupAt c g.fz H q ws) (rv : RVs c g.fz H xs us) (rv' : RVs c g.fz H ys ws) : Deliv c g H (prs xs ys) (RZ.ItzT c.K p q) where
  go := fun g1 H1 st i hi => by
    rw [prs_len] at hi
    obtain ⟨u, e, _⟩ := rv.get (List.getElem?_eq_getElem (show i < xs.length by omega))
    obtain ⟨w, e', _⟩ := rv'.get (List.getElem?_eq_getElem (show i < ys.length by omega))
    exact ⟨us, ws, u, w, (TupAt.stp (z' := g.fz) st.tp rd).sq, (TupAt.stp (z' := g.fz) st.tp rd').sq, e, e'⟩
  stop := fun g1 H1 st i hi => by
    rw [prs_len, rv.len, rv'.len] at hi
    exact ⟨us, ws, (TupAt.stp (z' := g.fz) st.tp rd).sq, (TupAt.stp (z' := g.fz) st.tp rd').sq, by omega⟩
  yld := fun g1 H1 st i x h1 e rh u H' y => by
    obtain ⟨T, a, b, eu, hT, eH, ha, hb⟩ := y
    subst eH eu
    rw [prs_get] at e
    cases ex : xs[i]? with
    | none => rw [ex] at e; cases e
    | some x1 =>
      cases ey : ys[i]? with
      | none => rw [ex, ey] at e; cases e
      | some y1 =>
        rw [ex, ey] at e
        cases e
        obtain ⟨u1, e1, r1⟩ := rv.get ex
        obtain ⟨w1, e2, r2⟩ := rv'.get ey
        have qa := ha us (TupAt.stp (z' := g.fz) st.tp rd).sq
        have qb := hb ws (TupAt.stp (z' := g.fz) st.tp rd').sq
        rw [e1] at qa; cases qa
        rw [e2] at qb; cases qb
        obtain ⟨s1, s2, s3⟩ := pair_new (xs := [x1, y1]) rh hT (RVs.cons (st.rv r1) (RVs.one (st.rv r2)))
        exact ⟨_, s1, s2, s3⟩
theorem deliv_enum {c : Ct} {g : Gh} {H : Hp} {p : Addr} {us : List V} {xs : List VV} (rd : LstAt c g.fz H p us) (rv : RVs c g.fz H xs us) : Deliv c g H (enum 0 xs) (Ite c.K p) where
  go := fun g1 H1 st i hi => by
    rw [enum_len] at hi
    obtain ⟨u, e, _⟩ := rv.get (List.getElem?_eq_getElem hi)
    exact ⟨us, u, (rd.stp st.fz st.fH).sq, e⟩
  stop := fun g1 H1 st i hi => by
    rw [enum_len, rv.len] at hi
    exact ⟨us, (rd.stp st.fz st.fH).sq, hi⟩
  yld := fun g1 H1 st i x h1 e rh u H' y => by
    obtain ⟨T, a, eu, hT, eH, ha⟩ := y
    subst eH eu
    rw [enum_get] at e
    cases ex : xs[i]? with
    | none => rw [ex] at e; cases e
    | some x1 =>
      rw [ex] at e
      cases e
      obtain ⟨u1, e1, r1⟩ := rv.get ex
      have qa := ha us ((rd.stp st.fz st.fH).sq)
      rw [e1] at qa; cases qa
      have ri : RV c g1.fz H1 (.int ((0 + i : Nat) : Int)) (.int (i : Nat)) := by rw [RV, Nat.zero_add]
      obtain ⟨s1, s2, s3⟩ := pair_new (xs := [.int ((0 + i : Nat) : Int), x1]) rh hT (RVs.cons ri (RVs.one (st.rv r1)))
      exact ⟨_, s1, s2, s3⟩
section
variable {X : Cx} {W : WX}
theorem ji_seq {tg l : Expr} {f : EF} (hl : PE X l (tE (ct X) W f)) : PI X tg l (tI (ct X) W (iSeq f)) :=
  PI.mono ((PI.or (pi_list hl) (PI.or (pi_tup hl) (pi_str hl)))) fun σ H R h => by
    obtain ⟨g, ρ, h0, rh, rs, p⟩ := h
    unfold iSeq at p
    cases e : f ρ h0 with
    | no => rw [e] at p; exact p.elim
    | exc x ns vs h' => exact .inl ⟨g, ρ, h0, rh, rs, by rw [e] at p ⊢; exact p⟩
    | ok v h1 =>
      rw [e] at p
      cases v with
      | lst xs =>
        refine .inl ⟨g, ρ, h0, rh, rs, ?_⟩
        rw [e]
        intro g' H' u st rh' rv
        obtain ⟨a, us, eu, ra, rvs⟩ := lstF_get (xs := xs) rv rfl
        exact ⟨a, eu, ⟨us, ra.sq⟩, p g' H' _ st rh' (deliv_list (h := h1) ra rvs)⟩
      | scr xs =>
        refine .inl ⟨g, ρ, h0, rh, rs, ?_⟩
        rw [e]
        intro g' H' u st rh' rv
        obtain ⟨a, us, eu, ra, rvs⟩ := lstF_get (xs := xs) rv rfl
        exact ⟨a, eu, ⟨us, ra.sq⟩, p g' H' _ st rh' (deliv_list (h := h1) ra rvs)⟩
      | tup xs =>
        refine .inr (.inl ⟨g, ρ, h0, rh, rs, ?_⟩)
        rw [e]
        intro g' H' u st rh' rv
        obtain ⟨a, us, eu, ra, rvs⟩ := tup_get rv
        exact ⟨a, eu, ⟨us, ra.sq⟩, p g' H' _ st rh' (deliv_tup (h := h1) ra rvs)⟩
      | str s =>
        refine .inr (.inr ⟨g, ρ, h0, rh, rs, ?_⟩)
        rw [e]
        intro g' H' u st rh' rv
        exact ⟨s, str_get rv, p g' H' _ st rh' deliv_str⟩
      | _ => exact p.elim
theorem ji_range1 {tg a : Expr} {f : EF} {p pos : Pos} (hg : Gl X "range") (hm : X.mg "range" = none) (ha : PE X a (tE (ct X) W f)) (hs : starEach [a] X.env = [(false, eval a X.env)] := by rfl) : PI X tg (.Call (.Name "range" p) [a] [] pos) (tI (ct X) W (iRange1 f)) :=
  PI.mono (pi_range1 hg hm (pa_cons ha pa_nil hs) hs) fun σ H R h => by
    obtain ⟨g, ρ, h0, rh, rs, p⟩ := h
    unfold iRange1 at p
    refine ⟨g, ρ, h0, rh, rs, ?_⟩
    cases e : f ρ h0 with
    | no => rw [e] at p; exact p.elim
    | exc x ns vs h' => rw [e] at p; exact p
    | ok v h1 =>
      rw [e] at p
      cases v with
      | int n =>
        simp only [Res.bind] at p
        by_cases hn : -(2 ^ 62) ≤ n ∧ n < 2 ^ 62
        · rw [if_pos hn] at p
          intro g' H' u st rh' rv
          exact ⟨n, by rw [int_get rv], hn.1, hn.2, p g' H' _ st rh' deliv_rng⟩
        · rw [if_neg hn] at p; exact p.elim
      | _ => exact p.elim
theorem ji_enum {a : Expr} {f : AF} {p pos tpos : Pos} {elts : List Expr} {kk : Nat} (hg : Gl X "enumerate") (hm : X.mg "enumerate" = none) (ha : PA X [a] (tA (ct X) W f)) (hs : starEach [a] X.env = [(false, eval a X.env)] := by rfl) :
    PI X (.Tuple elts kk tpos) (.Call (.Name "enumerate" p) [a] [] pos) (tI (ct X) W (iEnum f)) :=
  PI.mono (pi_enum hg hm ha hs) fun σ H R h => by
    obtain ⟨g, ρ, h0, rh, rs, p⟩ := h
    unfold iEnum at p
    refine ⟨g, ρ, h0, rh, rs, ?_⟩
    cases e : f ρ h0 with
    | no => rw [e] at p; exact p.elim
    | exc x ns vs h' => rw [e] at p; exact p
    | ok v h1 =>
      rw [e] at p
      simp only [Res.bind] at p
      split at p
      · intro g' H' u st rh' rv
        obtain ⟨u1, r1, rfl, a1, rfl⟩ := rv
        obtain ⟨a, us, eu, ra, rvs⟩ := lstF_get a1 rfl
        exact ⟨a, us, by rw [eu], ra.sq, p g' H' _ st rh' (deliv_enum ra rvs)⟩
      · intro g' H' u st rh' rv
        obtain ⟨u1, r1, rfl, a1, rfl⟩ := rv
        obtain ⟨a, us, eu, ra, rvs⟩ := lstF_get a1 rfl
        exact ⟨a, us, by rw [eu], ra.sq, p g' H' _ st rh' (deliv_enum ra rvs)⟩
      · exact p.elim
theorem ji_zip {a b : Expr} {f : AF} {p pos tpos : Pos} {elts : List Expr} {kk : Nat} (hg : Gl X "zip") (hm : X.mg "zip" = none) (ha : PA X [a, b] (tA (ct X) W f)) (hs : starEach [a, b] X.env = (false, eval a X.env) :: starEach [b] X.env := by rfl) (hpl : (backTo pos (starEach [b] X.env)).any (·.1) = false := by rfl) :
    PI X (.Tuple elts kk tpos) (.Call (.Name "zip" p) [a, b] [] pos) (tI (ct X) W (iZip f)) :=
  PI.mono (RZ.pi_zipA hg hm ha hs hpl) fun σ H R h => by
    obtain ⟨g, ρ, h0, rh, rs, p⟩ := h
    unfold iZip at p
    refine ⟨g, ρ, h0, rh, rs, ?_⟩
    cases e : f ρ h0 with
    | no => rw [e] at p; exact p.elim
    | exc x ns vs h' => rw [e] at p; exact p
    | ok v h1 =>
      rw [e] at p
      simp only [Res.bind] at p
      split at p
      · intro g' H' u st rh' rv
        obtain ⟨u1, r1, rfl, a1, u2, r2, rfl, a2, rfl⟩ := rv
        obtain ⟨a, us, eu, ra, rvs⟩ := lstF_get a1 rfl
        obtain ⟨b, ws, ew, rb, rws⟩ := lstF_get a2 rfl
        exact ⟨a, b, us, ws, by rw [eu, ew], .inl ⟨ra.sq, rb.sq, p g' H' _ st rh' (deliv_zip ra rb rvs rws)⟩⟩
      · intro g' H' u st rh' rv
        obtain ⟨u1, r1, rfl, a1, u2, r2, rfl, a2, rfl⟩ := rv
        obtain ⟨a, us, eu, ra, rvs⟩ := tup_get a1
        obtain ⟨b, ws, ew, rb, rws⟩ := tup_get a2
        exact ⟨a, b, us, ws, by rw [eu, ew], .inr ⟨ra.sq, rb.sq, p g' H' _ st rh' (deliv_zipT ra rb rvs rws)⟩⟩
      · exact p.elim
/-! defs and calls -/
abbrev FF := List VV → VH → Res VV
def spF (c : Ct) (n : Nat) (F : FF) : Sp := fun vs H Q E => ∃ g ws h, RH c g h H ∧ RTs c g H ws vs ∧ ws.length = n ∧ Pst c (fun a d _ H' => E a d H') [] (RT c) g H Q (F ws h)
/-- the roots that a def made and let go are forgotten -/
def lowV (n : Nat) : VV → Bool
  | .obj m => decide (m < n)
  | _ => true
def lowO (n : Nat) : VO → Bool
  | .ins _ _ vs => vs.all (lowV n)
  | .lo vs => vs.all (lowV n)
  | _ => true
def trim (n : Nat) (v : VV) (h : VH) : VH := if h.length = n then h else if lowV n v = true ∧ (h.take n).all (lowO n) = true then h.take n else h
def fnF (k : Nat) (B : SF) : FF := fun vs h => match B (vs.map some ++ List.replicate (k - vs.length) none) h with
  | .nx _ h' => .ok .non (trim h.length .non h')
  | .ret v h' => .ok v (trim h.length v h')
  | .exc x ns vs _ h' => .exc x ns vs h'
  | _ => .no
theorem RTs.start {c : Ct} {g : Gh} {H : Hp} {ws : List VV} {vs : List V} (r : RTs c g H ws vs) (k : Nat) : RS c g H (ws.map some ++ List.replicate (k - ws.length) none) (vs.map some ++ List.replicate (k - vs.length) none) := by
  have hl := r.len
  refine ⟨by simp [hl], fun i v e => ?_⟩
  by_cases hi : i < ws.length
  · rw [List.getElem?_append_left (by simpa using hi), List.getElem?_map] at e
    cases q : ws[i]? with
    | none => rw [q] at e; cases e
    | some w =>
      rw [q] at e
      cases e
      have : ∀ {ws : List VV} {vs : List V} {i : Nat} {v : VV}, RTs c g H ws vs → ws[i]? = some v → ∃ u, vs[i]? = some u ∧ RT c g H v u := by
        intro ws
        induction ws with
        | nil => intro vs i v _ e; simp at e
        | cons x xs ih =>
          intro vs i v r e
          obtain ⟨u, r', rfl, a, b⟩ := r
          cases i with
          | zero => simp at e; subst e; exact ⟨u, rfl, a⟩
          | succ i => exact ih (i := i) b (by simpa using e)
      obtain ⟨u, e2, ru⟩ := this r q
      refine ⟨u, ?_, ru⟩
      rw [List.getElem?_append_left (by rw [List.length_map, ← hl]; exact hi), List.getElem?_map, e2]; rfl
  · rw [List.getElem?_append_right (by simpa using hi), List.getElem?_replicate] at e
    split at e <;> cases e
theorem RT.low {c : Ct} {g g' : Gh} {H : Hp} {n : Nat} (hio : g'.io = g.io.take n) (hfz : g'.fz = g.fz) {v : VV} {u : V} (l : lowV n v = true) (r : RT c g H v u) : RT c g' H v u := by
  cases v with
  | obj m =>
    obtain ⟨a, e, eu⟩ := r
    refine ⟨a, ?_, eu⟩
    rw [hio, List.getElem?_take_of_lt (of_decide_eq_true l)]
    exact e
  | _ => exact RT.of_rv (by rw [hfz]; exact RT.rv r rfl)
theorem RTs.low {c : Ct} {g g' : Gh} {H : Hp} {n : Nat} (hio : g'.io = g.io.take n) (hfz : g'.fz = g.fz) : ∀ {vs : List VV} {us : List V}, vs.all (lowV n) = true → RTs c g H vs us → RTs c g' H vs us
  | [], us, _, r => r
  | x :: xs, us, l, r => by
    rw [List.all_cons, Bool.and_eq_true] at l
    obtain ⟨u, q, e, a, b⟩ := r
    exact ⟨u, q, e, a.low hio hfz l.1, RTs.low hio hfz l.2 b⟩
theorem trim_ok {c : Ct} {g g' : Gh} {h h' : VH} {H H' : Hp} {v : VV} {u : V} (rh : RH c g h H) (st : Stp g H g' H') (rh' : RH c g' h' H') (rv : RT c g' H' v u) :
    ∃ g2, Stp g H g2 H' ∧ RH c g2 (trim h.length v h') H' ∧ RT c g2 H' v u := by
  unfold trim
  by_cases e : h'.length = h.length
  · rw [if_pos e]; exact ⟨g', st, rh', rv⟩
  · rw [if_neg e]
    by_cases cc : lowV h.length v = true ∧ (h'.take h.length).all (lowO h.length) = true
    · rw [if_pos cc]
      have eio : g'.io.take h.length = g.io := by
        obtain ⟨l, hl⟩ := st.io
        rw [← hl, ← rh.len, List.take_left]
      refine ⟨{ io := g.io, fz := g'.fz, kp := g'.kp }, ⟨List.prefix_rfl, st.fz, st.kp, st.fH, st.kH, st.tp⟩, ?_, RT.low (g' := { io := g.io, fz := g'.fz, kp := g'.kp }) (n := h.length) eio.symm rfl cc.1 rv⟩
      have hle : h.length ≤ h'.length := by
        obtain ⟨l, hl⟩ := st.io
        have := congrArg List.length hl
        rw [List.length_append, rh.len, rh'.len] at this
        omega
      refine ⟨by show g.io.length = _; rw [List.length_take, rh.len]; omega, rh.nd, fun n o a h1 h2 => ?_, rh'.fz, rh'.kp, fun q z => ⟨(rh'.kd q z).1, fun y => (rh'.kd q z).2 ?_⟩, rh'.tb, rh'.nt⟩
      · have hn : n < h.length := by
          have := (List.getElem?_eq_some_iff.mp h1).1
          rw [List.length_take] at this; omega
        have h1' : h'[n]? = some o := by rw [List.getElem?_take_of_lt hn] at h1; exact h1
        have h2' : g'.io[n]? = some a := by
          have : g.io[n]? = some a := h2
          rw [← eio, List.getElem?_take_of_lt hn] at this
          exact this
        have ro := rh'.at' n o a h1' h2'
        have lo : lowO h.length o = true := List.all_eq_true.mp cc.2 o (List.mem_of_getElem? h1)
        cases o with
        | fzn v => exact ro
        | fl xs => exact ro
        | lo xs =>
          obtain ⟨q1, us, q3, q4⟩ := ro
          exact ⟨q1, us, q3, RTs.low (g' := { io := g.io, fz := g'.fz, kp := g'.kp }) (n := h.length) eio.symm rfl lo q4⟩
        | dT ks vs => exact ro
        | dK ks vs => exact ro
        | ins x ns vs =>
          obtain ⟨q1, C, dx, us, q3, q4, q5, q6⟩ := ro
          exact ⟨q1, C, dx, us, q3, q4, q5, RTs.low (g' := { io := g.io, fz := g'.fz, kp := g'.kp }) (n := h.length) eio.symm rfl lo q6⟩
      · have : q ∈ g.io := y
        rw [← eio] at this
        exact List.mem_of_mem_take this
    · rw [if_neg cc]; exact ⟨g', st, rh', rv⟩
end
section
variable {P : Program} {w : World} {K : PySem.W.Frag} {mg : Str → Option Value} {base : Heap}
/-- THE RULE for a def -/
theorem fn_ok {x qual : Str} {params : Arguments} {body : List Stmt} {scope : Scope} {dvs : List V} {kws : List (Str × V)} {f : Addr} {fd : FuncData} {N ps : List Str} {k n : Nat} {B : SF} (F : FunD K x qual params body scope dvs kws f fd) (S : FnScope N ps scope) (hn : n = N.length) (hp : ps.length ≤ n)
    (hbody : ∀ (cdv : Value) (A : Around) (outer : List Env) (s : Shared) (H : Hp) (E : XK), Room k (A.deeper (envOfC qual scope s.heap.objs.size f cdv)) →
      PSs (cxOf (L2N.CX P w) P w K mg base N qual scope f cdv A outer s H E) body (tS ⟨K, mg⟩ (fun a d _ H' => E a d H') B)) :
    FnOk P w K mg base (L2N.CX P w) (k + 1) f fd ps (spF ⟨K, mg⟩ ps.length (fnF n B)) := by
  refine F.ok S (fun vs H Q E h => ?_) (fun cdv A outer s H vs Q E hr h => ?_)
  · obtain ⟨g, ws, hh, rh, rt, l, _⟩ := h
    rw [← rt.len]; exact l
  · refine ⟨_, hbody cdv A outer s H E hr, ?_⟩
    obtain ⟨g, ws, hh, rh, rt, l, p⟩ := h
    have rs := rt.start n
    refine ⟨g, ws.map some ++ List.replicate (n - ws.length) none, hh, rh, ?_, ?_⟩
    · rw [hn] at rs ⊢; exact rs
    · unfold fnF at p
      generalize B (ws.map some ++ List.replicate (n - ws.length) none) hh = r at p ⊢
      cases r with
      | no => exact p
      | brk => exact p.elim
      | cnt => exact p.elim
      | nx ρ h' =>
        intro g' H' σ' st rh' rs'
        obtain ⟨g2, s2, rh2, rv2⟩ := trim_ok rh st rh' (rt_non (c := ⟨K, mg⟩))
        exact p g2 H' .non s2 rh2 rv2
      | ret v h' =>
        intro g' H' u st rh' rv
        obtain ⟨g2, s2, rh2, rv2⟩ := trim_ok rh st rh' rv
        exact p g2 H' u s2 rh2 rv2
      | exc x ns vs ρ h' => exact fun g' H' σ' C d us st rh' rs' m e l rv => p g' H' C d us st rh' m e l rv
end
section
variable {X : Cx} {W : WX}
def eFn (n : Nat) (F : FF) (dws : List VV) (a : AF) : EF := fun ρ h => (a ρ h).bind fun vs h1 => if (vs ++ dws).length = n then F (vs ++ dws) h1 else .no
theorem RTs.append {c : Ct} {g : Gh} {H : Hp} : ∀ {vs ws : List VV} {us ys : List V}, RTs c g H vs us → RTs c g H ws ys → RTs c g H (vs ++ ws) (us ++ ys)
  | [], ws, us, ys, r, q => by rw [show us = [] from r]; exact q
  | x :: xs, ws, us, ys, r, q => by
    obtain ⟨u, r', rfl, a, b⟩ := r
    exact ⟨u, _, rfl, a, RTs.append b q⟩
theorem pst_call {σ : St} {g : Gh} {H : Hp} {Q : VK} {r : Res VV} (h : Pst (ct X) W σ (RT (ct X)) g H Q r) : Pst (ct X) (fun a d _ H' => WE W σ a d H') [] (RT (ct X)) g H Q r := by
  cases r with
  | no => exact h
  | ok => exact h
  | exc => exact h
/-- from arguments to a def's promise -/
theorem tCall_of {n : Nat} {F : FF} {fa : AF} {dws : List VV} {dvs : List V} (hd : ∀ g H, RTs (ct X) g H dws dvs) {σ : St} {H : Hp} {Q : VK} (h : tE (ct X) W (eFn n F dws fa) σ H Q) :
    tCallSD (spF (ct X) n F) dvs (WE W) (tA (ct X) W fa) σ H Q := by
  obtain ⟨g, ρ, h0, rh, rs, p⟩ := h
  refine ⟨g, ρ, h0, rh, rs, ?_⟩
  unfold eFn at p
  cases e : fa ρ h0 with
  | no => rw [e] at p; exact p
  | exc => rw [e] at p; exact p
  | ok vs h1 =>
    rw [e] at p
    simp only [Res.bind] at p
    by_cases hl : (vs ++ dws).length = n
    · rw [if_pos hl] at p
      intro g' H' us st rh' rts
      exact ⟨g', vs ++ dws, h1, rh', RTs.append rts (hd g' H'), hl, pst_call (Pst.step st p)⟩
    · rw [if_neg hl] at p; exact p.elim
theorem j_call {k n : Nat} {f : Addr} {fd : FuncData} {ps : List Str} {Fm : FF} {dvs : List V} {dws : List VV} {ds : List Value} {x : Str} {p pos : Pos} {e : Expr} {es : List Expr} {fa : AF}
    (F : FnOk X.prog X.w X.K X.mg X.base (L2N.CX X.prog X.w) k f fd ps (spF (ct X) n Fm)) (hr : Room k X.A) (hg : Gl X x) (hm : X.mg x = some (.ref f)) (hk : PySem.W.keepIn X.K (.ref f) = true) (hb : Binds X.K fd ps ds) (hd : Vals dvs ds) (rd : ∀ g H, RTs (ct X) g H dws dvs) (tk : L2N.Takes X W)
    (ha : PA X (e :: es) (tA (ct X) W fa)) (hdb : (x == ("__debug__" : Str)) = false := by decide) (he : starEach (e :: es) X.env = (false, eval e X.env) :: starEach es X.env := by rfl) (hpl : (backTo pos (starEach es X.env)).any (·.1) = false := by rfl) :
    PE X (.Call (.Name x p) (e :: es) [] pos) (tE (ct X) W (eFn n Fm dws fa)) :=
  PE.mono (pe_callSD (E := WE W) F hr hg hm hk hb hd (fun σ => L2N.passAt tk σ) ha hdb he hpl) fun σ H Q h => tCall_of rd h
/-! more statements -/
theorem js_setLc {i : Nat} {y : Str} {py : Pos} {elt tg iter : Expr} {ifs : List Expr} {scope : Scope} {own : List (Str × Nat)} {pos spos : Pos} {it : AF} {g : TG} {b : VV → VSt → Option VSt} {ft : TF} {fe : EF} (hc : X.calm = true) (hN : X.N.Nodup) (hy : X.N[i]? = some y) (hyl : X.env.scope.names.lookup y = some .local)
    (hsw : swapsWith (.ListComp elt [⟨tg, iter, ifs, 0⟩] scope pos) (some (.Name y py)) spos.line X.env = pure true) (hi : PI X tg iter (tI (ct X) W it)) (ok : BlkOk X.N X.env.scope scope own)
    (hg : ∀ (s : Shared) (H : Hp) (C : Addr) (cl : List (Str × Addr)) (fp : List Addr), PG (X.blk s H scope (compEnvC scope cl C X.env) fp) tg g) (pat : PatOk X.K g b (own.map (·.2)))
    (ht : ∀ (s : Shared) (H : Hp) (C : Addr) (cl : List (Str × Addr)) (fp : List Addr), PTs (X.blk s H scope (compEnvC scope cl C X.env) fp) ifs (tT (ct X) W0 ft))
    (he : ∀ (s : Shared) (H : Hp) (C : Addr) (cl : List (Str × Addr)) (fp : List Addr), PE (X.blk s H scope (compEnvC scope cl C X.env) fp) elt (tE (ct X) W0 fe)) (hs : ∀ x, foldedSetIterable iter X.env x = pure x := by intro _; rfl) :
    PS X (.Assign [.Name y py] (.ListComp elt [⟨tg, iter, ifs, 0⟩] scope pos) spos) (tS (ct X) W (sSet i (eLc (own.map (·.2)) it b ft fe))) :=
  PS.mono (ps_setLc hc hN hy hyl hsw hi ok hg ht he hs) fun D σ H ⟨g, ρ, h, rh, rs, p⟩ => by
    refine tLc_of (mk := fun vs h => .ok (.lst vs) h) pat mk_lst (show tE (ct X) W (eLc (own.map (·.2)) it b ft fe) σ H _ from ⟨g, ρ, h, rh, rs, (Pst.st (R := RT (ct X)) rs p).imp fun u H1 ⟨g1, v, h1, st, rh1, rs1, rv1, p1⟩ => ?_⟩)
    exact p1 g1 H1 _ .refl rh1 (rs1.set rv1 i)
def sPar (i j : Nat) (a : AF) : SF := fun ρ h => (a ρ h).st ρ fun vs h1 => match vs with
  | [v, w] => .nx ((ρ.set i (some v)).set j (some w)) h1
  | _ => .no
def sPar3 (i j l : Nat) (a : AF) : SF := fun ρ h => (a ρ h).st ρ fun vs h1 => match vs with
  | [u, v, w] => .nx (((ρ.set i (some u)).set j (some v)).set l (some w)) h1
  | _ => .no
/-! a root that is a list: written, read as data -/
def setI (h : VH) (o i v : VV) : Option VH := match o, i with
  | .obj n, .int k => match h[n]? with
    | some (.fl xs) => match ixN xs.length k with
      | some j => if v.isObj = true then none else some (h.set n (.fl (xs.set j v)))
      | none => none
    | _ => none
  | _, _ => none
theorem setI_ok {c : Ct} {g : Gh} {h h' : VH} {H : Hp} {o i v : VV} {uo ui uv : V} (rh : RH c g h H) (ro : RT c g H o uo) (ri : RT c g H i ui) (rv : RT c g H v uv) (e : setI h o i v = some h') (Q : Hp → Prop) (k : ∀ H', Stp g H g H' → RH c g h' H' → Q H') : rSetL uo ui uv H Q := by
  unfold setI at e
  split at e
  · rename_i n kk
    split at e
    · rename_i xs en
      split at e
      · rename_i j ej
        split at e
        · cases e
        · rename_i ov
          cases e
          obtain ⟨a, ea, eo⟩ := ro
          have hro := rh.at' n _ a en ea
          obtain ⟨nz, us, hl, rvs⟩ := hro
          have nk : ¬ g.kp a := fun z => (rh.kd a z).2 (List.mem_of_getElem? ea)
          have st : Stp g H g (upd H a (.lst (us.set j uv))) := Stp.wr (c := c) nz nk (fun ys z => by rw [hl] at z; cases z)
          refine ⟨a, us, kk, j, eo, int_get ri, hl, by rw [← rvs.len]; exact ej, k _ st (rh.wr ea nz (fun ys z => by rw [hl] at z; cases z) ?_)⟩
          exact ⟨nz, _, upd_same, st.rvs (RVs.set (rv.rv (by simpa using ov)) rvs)⟩
      · cases e
    · cases e
  · cases e
def sSetI (o i e : EF) : SF := fun ρ h => (e ρ h).st ρ fun v h1 => (o ρ h1).st ρ fun ov h2 => (i ρ h2).st ρ fun iv h3 => match setI h3 ov iv v with
  | some h4 => .nx ρ h4
  | none => .no
theorem js_setI {o i e : Expr} {fo fi fe : EF} {pos pos' : Pos} (he : PE X e (tE (ct X) W fe)) (ho : PE X o (tE (ct X) W fo)) (hi : PE X i (tE (ct X) W fi))
    (ha : ∀ v, assign (.Subscript o i pos') X.env v = (do
      let ov ← holding [v] (eval o X.env)
      let iv ← holding [v, ov] (eval i X.env)
      standAt pos'
      holding [v, ov, iv] (setItem ov iv v)
      release [v, ov, iv] []) := by intro _; rfl)
    (hs : swapsWithSole [.Subscript o i pos'] e pos.line X.env = pure false := by rfl) (hw : swappedStores [.Subscript o i pos'] e X.env = pure none := by rfl) (h1 : (assignEach [.Subscript o i pos'] X.env).map (·.2) = [assign (.Subscript o i pos') X.env] := by rfl) :
    PS X (.Assign [.Subscript o i pos'] e pos) (tS (ct X) W (sSetI fo fi fe)) :=
  PS.mono (ps_asg he (pg_sub ho hi set_list ha) hs hw h1) fun D σ H ⟨g, ρ, h, rh, rs, p⟩ => by
    refine ⟨g, ρ, h, rh, rs, (Pst.st (R := RT (ct X)) rs p).imp fun u H1 ⟨g1, v, h1, st, rh1, rs1, rv1, p1⟩ => ?_⟩
    refine ⟨g1, ρ, h1, rh1, rs1, (Pst.st (R := RT (ct X)) rs1 p1).imp fun u2 H2 ⟨g2, ov, h2, st2, rh2, rs2, rv2, p2⟩ => ?_⟩
    refine ⟨g2, ρ, h2, rh2, rs2, (Pst.st (R := RT (ct X)) rs2 p2).imp fun u3 H3 ⟨g3, iv, h3, st3, rh3, rs3, rv3, p3⟩ => ?_⟩
    cases e : setI h3 ov iv v with
    | none => rw [e] at p3; exact p3.elim
    | some h4 =>
      rw [e] at p3
      exact setI_ok rh3 (rv2.stp st3) rv3 ((rv1.stp st2).stp st3) e _ fun H' st' rh' => p3 g3 H' σ st' rh' (rs3.stp st')
def appV (h2 : VH) (ov v : VV) : Res VV := match ov with
    | .obj n => match h2[n]? with
      | some (.fl xs) => if xs.length ≥ SZ then .no else if v.isObj = true then .ok .non (h2.set n (.lo (xs ++ [v]))) else .ok .non (h2.set n (.fl (xs ++ [v])))
      | some (.lo xs) => if xs.length ≥ SZ then .no else .ok .non (h2.set n (.lo (xs ++ [v])))
      | _ => .no
    | _ => .no
theorem RTs.app {c : Ct} {g : Gh} {H : Hp} : ∀ {vs ws : List VV} {us ys : List V}, RTs c g H vs us → RTs c g H ws ys → RTs c g H (vs ++ ws) (us ++ ys)
  | [], ws, us, ys, h, k => by rw [show us = [] from h]; exact k
  | x :: xs, ws, us, ys, h, k => by
    obtain ⟨u, r, rfl, a, b⟩ := h
    exact ⟨u, _, rfl, a, RTs.app b k⟩
theorem RTs.one {c : Ct} {g : Gh} {H : Hp} {v : VV} {u : V} (q : RT c g H v u) : RTs c g H [v] [u] := ⟨u, [], rfl, q, rfl⟩
def eApp (o e : EF) : EF := fun ρ h => (o ρ h).bind fun ov h1 => match lstR h1 ov with
  | none => .no
  | some _ => (e ρ h1).bind fun v h2 => appV h2 ov v
theorem j_app {o e : Expr} {fo fe : EF} {apos cpos : Pos} (ho : PE X o (tE (ct X) W fo)) (ha : PE X e (tE (ct X) W fe)) (hs1 : starEach (e :: []) X.env = (false, eval e X.env) :: starEach [] X.env := by rfl)
    (hbase : attributeBase o "append" X.env (eval o X.env) = eval o X.env := by rfl)
    (hfew : ((backTo cpos (starEach [e] X.env)).all (fun x => !x.1) && (backToKw cpos (keywordEach [] X.env)).all (fun x => x.1.isSome)
      && decide ([e].length + ([] : List Keyword).length + (if ([] : List Keyword).isEmpty then 0 else 1) < 30)) = true := by rfl)
    (hline : (apos.endLine == cpos.line) = true := by rfl) (hplain : (backTo cpos (starEach [] X.env)).any (·.1) = false := by rfl) :
    PE X (.Call (.Attribute o "append" apos) [e] [] cpos) (tE (ct X) W (eApp fo fe)) :=
  PE.mono (pe_bm PySem.F.plainAttrs_list PySem.F.slot_list_append PySem.F.type_list_append mt_append ho (pa_cons ha pa_nil hs1) hbase hfew hline hs1 hplain) fun σ H Q ⟨g, ρ, h0, rh, rs, p⟩ => by
    refine ⟨g, ρ, h0, rh, rs, (Pst.bind (R := RT (ct X)) p).imp fun u H1 ⟨g1, ov, h1, st, rh1, rv1, p1⟩ => ?_⟩
    cases e : lstR h1 ov with
    | none => rw [e] at p1; exact p1.elim
    | some ys =>
      rw [e] at p1
      obtain ⟨a, us, eu, sq, rvs⟩ := lstR_get rh1 rv1 e
      refine ⟨by rw [eu]; exact .inl ⟨rfl, us, sq⟩, g1, ρ, h1, rh1, rs.stp st, (Pst.bind (R := RT (ct X)) p1).imp fun u2 H2 ⟨g2, v, h2, st2, rh2, rv2, p2⟩ => ?_⟩
      cases ov with
      | obj n =>
        unfold appV at p2
        simp only at p2
        obtain ⟨b, eb, eu'⟩ := rv1.stp st2
        split at p2
        · rename_i xs en
          obtain ⟨nz, ws, hl, rws⟩ := rh2.at' n _ b en eb
          split at p2
          · exact p2.elim
          · rename_i cc
            have nk : ¬ g2.kp b := fun z => (rh2.kd b z).2 (List.mem_of_getElem? eb)
            have nt : ∀ ys, H2 b ≠ some (.tup ys) := fun ys z => by rw [hl] at z; cases z
            have stw : Stp g2 H2 g2 (upd H2 b (.lst (ws ++ [u2]))) := Stp.wr (c := ct X) nz nk nt
            refine ⟨b, ws, u2, eu', rfl, hl, by rw [← rws.len]; exact SZ_lt (by omega), ?_⟩
            split at p2
            · exact p2 g2 _ .non stw (rh2.wr eb nz nt ⟨nz, _, upd_same, (RTs.app (RTs.of_rvs rws) (RTs.one rv2)).stp stw⟩) rt_non
            · rename_i cv
              exact p2 g2 _ .non stw (rh2.wr eb nz nt ⟨nz, _, upd_same, stw.rvs (RVs.app rws (RVs.one (rv2.rv (by simpa using cv))))⟩) rt_non
        · rename_i xs en
          obtain ⟨nz, ws, hl, rws⟩ := rh2.at' n _ b en eb
          split at p2
          · exact p2.elim
          · rename_i cc
            have nk : ¬ g2.kp b := fun z => (rh2.kd b z).2 (List.mem_of_getElem? eb)
            have nt : ∀ ys, H2 b ≠ some (.tup ys) := fun ys z => by rw [hl] at z; cases z
            have stw : Stp g2 H2 g2 (upd H2 b (.lst (ws ++ [u2]))) := Stp.wr (c := ct X) nz nk nt
            refine ⟨b, ws, u2, eu', rfl, hl, by rw [← rws.len]; exact SZ_lt (by omega), ?_⟩
            exact p2 g2 _ .non stw (rh2.wr eb nz nt ⟨nz, _, upd_same, (RTs.app rws (RTs.one rv2)).stp stw⟩) rt_non
        · exact p2.elim
      | _ => exact p2.elim
end
end J
namespace J
open PySem L2
/-! numbers -/
def isInt2 (f : Int → Int → Option VV) : Op2 := fun _ v w => match v, w with
  | .int i, .int j => f i j
  | _, _ => none
def opSub : Op2 := isInt2 fun i j => some (.int (i - j))
def opLt : Op2 := isInt2 fun i j => some (.bl (decide (i < j)))
def opLe : Op2 := isInt2 fun i j => some (.bl (decide (i ≤ j)))
def opGt : Op2 := isInt2 fun i j => some (.bl (decide (j < i)))
def opGe : Op2 := isInt2 fun i j => some (.bl (decide (j ≤ i)))
def opFdiv : Op2 := isInt2 fun i j => if j ≠ 0 ∧ j.natAbs.log2 < 9000 then some (.int (i.fdiv j)) else none
def opMod : Op2 := isInt2 fun i j => if j ≠ 0 then some (.int (i.fmod j)) else none
def mulOk (i j : Int) : Bool := decide (i.natAbs < 2 ^ 64) || decide (j.natAbs < 2 ^ 64) || decide (i.natAbs.log2 + j.natAbs.log2 < 1000000)
def opPow : Op2 := isInt2 fun i j => if 0 ≤ j ∧ j ≤ 1000000 ∧ i.natAbs < 2 ^ 64 then some (.int (i ^ j.toNat)) else none
def opNeg : Op1 := fun _ v => match v with
  | .int i => some (.int (-i))
  | _ => none
def opAdd : Op2 := fun h v w => match v, w with
  | .int i, .int j => some (.int (i + j))
  | .str x, .str y => if x.length + y.length ≤ SZ then some (.str (x ++ y)) else none
  | .tup xs, .tup ys => if xs.length + ys.length ≤ SZ then some (.tup (xs ++ ys)) else none
  | .lst xs, .lst ys => if xs.length + ys.length ≤ SZ then some (.lst (xs ++ ys)) else none
  | _, _ => none
def opMul : Op2 := fun h v w => match v, w with
  | .int i, .int j => if mulOk i j = true then some (.int (i * j)) else none
  | .lst xs, .int k => if -(2 ^ 63) ≤ k ∧ k < 2 ^ 63 ∧ xs.length * k.toNat ≤ SZ then some (.lst (List.replicate k.toNat xs).flatten) else none
  | _, _ => none
section
variable {X : Cx} {W : WX}
theorem opR_int {f : Value → Value → Sem Value} {C : Int → Int → Prop} {g : Int → Int → V} {o : Int → Int → Option VV} (h : OpR X f (rI C g)) (ho : ∀ i j r, o i j = some r → C i j ∧ ∀ c z H, RV c z H r (g i j)) : OpR X f (Rd2 (ct X) (isInt2 o)) :=
  OpR.imp h fun x y H Q ⟨g0, hh, v, w, r, rh, rv, rw', e, k⟩ => by
    unfold isInt2 at e
    split at e
    · rename_i i j
      obtain ⟨c, rr⟩ := ho i j r e
      exact ⟨i, j, int_get rv, int_get rw', c, k g0 H _ .refl rh (RT.of_rv (rr _ _ _))⟩
    · cases e
theorem opR_int0 {f : Value → Value → Sem Value} {g : Int → Int → V} {o : Int → Int → Option VV} (h : OpR X f (rI0 g)) (ho : ∀ i j r, o i j = some r → ∀ c z H, RV c z H r (g i j)) : OpR X f (Rd2 (ct X) (isInt2 o)) :=
  OpR.imp h fun x y H Q ⟨g0, hh, v, w, r, rh, rv, rw', e, k⟩ => by
    unfold isInt2 at e
    split at e
    · rename_i i j
      have rr := ho i j r e
      exact ⟨i, j, int_get rv, int_get rw', k g0 H _ .refl rh (RT.of_rv (rr _ _ _))⟩
    · cases e
theorem rv_int (c : Ct) (z : Addr → Prop) (H : Hp) (i : Int) : RV c z H (.int i) (.int i) := by rw [RV]
theorem rv_bl (c : Ct) (z : Addr → Prop) (H : Hp) (i : Bool) : RV c z H (.bl i) (.bl i) := by rw [RV]
theorem or_sub : OpR X (binaryOp .Sub) (Rd2 (ct X) opSub) := opR_int0 op_sub fun i j r e => by cases e; exact fun c z H => rv_int c z H _
theorem or_lt : OpR X (compareOp .Lt) (Rd2 (ct X) opLt) := opR_int0 op_lt fun i j r e => by cases e; exact fun c z H => rv_bl c z H _
theorem or_le : OpR X (compareOp .LtE) (Rd2 (ct X) opLe) := opR_int0 op_le fun i j r e => by cases e; exact fun c z H => rv_bl c z H _
theorem or_gt : OpR X (compareOp .Gt) (Rd2 (ct X) opGt) := opR_int0 op_gt fun i j r e => by cases e; exact fun c z H => rv_bl c z H _
theorem or_ge : OpR X (compareOp .GtE) (Rd2 (ct X) opGe) := opR_int0 op_ge fun i j r e => by cases e; exact fun c z H => rv_bl c z H _
theorem or_fdiv : OpR X (binaryOp .FloorDiv) (Rd2 (ct X) opFdiv) :=
  opR_int (C := fun _ j => j ≠ 0 ∧ j.natAbs.log2 < 9000) (g := fun i j => .int (i.fdiv j)) (opI fun _ _ _ _ _ _ _ hc q => PyProof.Rows.floordiv_int hc.1 q (.inl (PyProof.noPylong_of_log2 hc.2))) fun i j r e => by
    split at e
    · rename_i h; cases e; exact ⟨h, fun c z H => rv_int c z H _⟩
    · cases e
theorem or_mod : OpR X (binaryOp .Mod) (Rd2 (ct X) opMod) :=
  opR_int (C := fun _ j => j ≠ 0) (g := fun i j => .int (i.fmod j)) op_modN fun i j r e => by
    split at e
    · rename_i h; cases e; exact ⟨h, fun c z H => rv_int c z H _⟩
    · cases e
theorem or_pow : OpR X (binaryOp .Pow) (Rd2 (ct X) opPow) :=
  opR_int (C := CPow) (g := fun i j => .int (i ^ j.toNat)) op_pow fun i j r e => by
    split at e
    · rename_i h; cases e; exact ⟨h, fun c z H => rv_int c z H _⟩
    · cases e
theorem ur_neg : UnR X (unaryOp .USub) (Rd1 (ct X) opNeg) :=
  UnR.imp un_neg fun x H Q ⟨g0, hh, v, r, rh, rv, e, k⟩ => by
    cases v with
    | int i => cases e; exact ⟨i, int_get rv, k g0 H _ .refl rh rt_int⟩
    | _ => cases e
/-- new frozen data -/
theorem new_lst {c : Ct} {g : Gh} {h : VH} {H : Hp} {p : Addr} {xs : List VV} {us : List V} (rh : RH c g h H) (hp : H p = none) (rv : RVs c g.fz H xs us) :
    Stp g H (g.frz p) (upd H p (.lst us)) ∧ RH c (g.frz p) h (upd H p (.lst us)) ∧ RT c (g.frz p) (upd H p (.lst us)) (.lst xs) (.ref p) := by
  refine ⟨.new rh hp, rh.new hp, ?_⟩
  show RV _ _ _ _ _
  rw [RV]
  exact ⟨p, us, rfl, .inr rfl, upd_same, (Stp.new rh hp).rvs rv⟩
/-- () + t -/
theorem op_catT0 : OpR X (binaryOp .Add) (fun x y H Q => ∃ a b ys, x = .ref a ∧ y = .ref b ∧ SqT X.K H a [] ∧ SqT X.K H b ys ∧ Q (.ref b) H) := by
  intro pins s σ H x y v u Q I rx ry h
  obtain ⟨a, b, ys, e1, e2, ha, hb, q⟩ := h
  subst e1; subst e2
  cases rx
  cases ry
  obtain ⟨its, r, ht, hz⟩ := I.tuple ha
  obtain ⟨its2, r2, ht2, hz2⟩ := I.tuple hb
  have e0 : its = [] := by cases r; rfl
  subst e0
  obtain ⟨⟨cls, dd, data, sl⟩, ho, hc, n, hd⟩ := id ht
  obtain ⟨⟨cls2, dd2, data2, sl2⟩, ho2, hc2, n2, hd2⟩ := id ht2
  simp only at hc hd hc2 hd2
  subst hc hd hc2 hd2
  exact PySem.concat_meets ⟨_, ho, rfl⟩ ⟨_, ho2, rfl⟩ noFill_tuple_add seq_tuple_add PySem.F.slot_tuple_add PySem.F.entry_tuple_add (PySem.F.args_tuple_add_2 _ _)
      (PyProof.Rows.tuple_addW0 a b (([] : List Value).toArray) its2.toArray n n2 dd dd2 sl sl2 (by simp)) ⟨ho, ho2, ⟨.ref b, H, I, rfl, q⟩⟩
theorem or_add : OpR X (binaryOp .Add) (Rd2 (ct X) opAdd) :=
  OpR.imp (OpR.or op_add (OpR.or op_add_str (OpR.or op_catT (OpR.or op_cat op_catT0)))) fun x y H Q ⟨g, h, v, w, r, rh, rv, rw', e, k⟩ => by
    unfold opAdd at e
    split at e
    · cases e
      exact .inl ⟨_, _, int_get rv, int_get rw', k g H _ .refl rh rt_int⟩
    · split at e
      · rename_i hl
        cases e
        exact .inr (.inl ⟨_, _, str_get rv, str_get rw', SZ_le hl, k g H _ .refl rh rt_str⟩)
      · cases e
    · split at e
      · rename_i xs ys hl
        cases e
        obtain ⟨p, us, ep, sp, rp⟩ := tup_get rv
        obtain ⟨q, ws, eq, sq, rq⟩ := tup_get rw'
        by_cases hx : us = []
        · subst hx
          have hx' : xs = [] := List.length_eq_zero_iff.mp rp.len
          subst hx'
          exact .inr (.inr (.inr (.inr ⟨p, q, ws, ep, eq, sp.sq, sq.sq, by rw [← eq]; exact k g H y .refl rh (by rw [List.nil_append]; exact rw')⟩)))
        · refine .inr (.inr (.inl ⟨p, q, us, ws, ep, eq, sp.sq, sq.sq, hx, by rw [← rp.len, ← rq.len]; exact SZ_le hl, fun z => ?_, fun _ p hp => ?_⟩))
          · subst z
            have hy' : ys = [] := List.length_eq_zero_iff.mp rq.len
            subst hy'
            rw [← ep]
            exact k g H x .refl rh (by rw [List.append_nil]; exact rv)
          · obtain ⟨s1, s2, s3⟩ := pair_new rh hp (RVs.app rp rq)
            exact k _ _ _ s1 s2 s3
      · cases e
    · split at e
      · rename_i hl
        cases e
        obtain ⟨p, us, ep, sp, rp⟩ := lstOf'_get rh rv rfl
        obtain ⟨q, ws, eq, sq, rq⟩ := lstOf'_get rh rw' rfl
        refine .inr (.inr (.inr (.inl ⟨p, q, us, ws, ep, eq, sp, sq, by rw [← rp.len, ← rq.len]; exact SZ_le hl, fun p hp => ?_⟩)))
        obtain ⟨s1, s2, s3⟩ := new_lst rh hp (RVs.app rp rq)
        exact k _ _ _ s1 s2 s3
      · cases e
    · cases e
theorem RVs.rep {c : Ct} {z : Addr → Prop} {H : Hp} {xs : List VV} {us : List V} (r : RVs c z H xs us) : ∀ n : Nat, RVs c z H (List.replicate n xs).flatten (List.replicate n us).flatten
  | 0 => RVs.nil
  | n + 1 => by
    rw [List.replicate_succ, List.replicate_succ, List.flatten_cons, List.flatten_cons]
    exact RVs.app r (RVs.rep r n)
theorem mulOk_ok {i j : Int} (h : mulOk i j = true) : IntMulOk i j := by
  unfold mulOk at h
  rw [Bool.or_eq_true, Bool.or_eq_true] at h
  rcases h with (h | h) | h
  · have := of_decide_eq_true h
    exact IntMulOk.of_left (intBits_le_64 (by omega) (by omega))
  · have := of_decide_eq_true h
    exact IntMulOk.of_right (intBits_le_64 (by omega) (by omega))
  · exact CMulW.ok (show CMulW i j from of_decide_eq_true (p := i.natAbs.log2 + j.natAbs.log2 < 1000000) h)
theorem or_mul : OpR X (binaryOp .Mult) (Rd2 (ct X) opMul) :=
  OpR.imp (OpR.or (opI (C := fun i j => mulOk i j = true) (g := fun i j => i * j) fun _ _ _ _ _ _ _ hc q => PyProof.Rows.mul_int q (mulOk_ok hc)) op_rep) fun x y H Q ⟨g, h, v, w, r, rh, rv, rw', e, k⟩ => by
    unfold opMul at e
    split at e
    · split at e
      · rename_i hm
        cases e
        exact .inl ⟨_, _, int_get rv, int_get rw', hm, k g H _ .refl rh rt_int⟩
      · cases e
    · split at e
      · rename_i hl
        cases e
        obtain ⟨p, us, ep, sp, rp⟩ := lstOf'_get rh rv rfl
        refine .inr ⟨p, _, us, ep, int_get rw', sp, hl.1, hl.2.1, by rw [← rp.len]; exact SZ_le hl.2.2, fun p hp => ?_⟩
        obtain ⟨s1, s2, s3⟩ := new_lst rh hp (RVs.rep rp _)
        exact k _ _ _ s1 s2 s3
      · cases e
    · cases e
/-! places -/
def opIx : Op2 := fun h v w => match v, w with
  | .tup xs, .int i => atI xs i
  | .str z, .int i => if z.length ≤ SZ then (atI z.cps.toList i).map fun c => .str ⟨#[c]⟩ else none
  | v, .int i => (lstR h v).bind fun xs => atI xs i
  | _, _ => none
theorem atI_rv {c : Ct} {z : Addr → Prop} {H : Hp} {xs : List VV} {us : List V} {i : Int} {v : VV} (r : RVs c z H xs us) (e : atI xs i = some v) : ∃ u, atI us i = some u ∧ RV c z H v u := by
  unfold atI at e ⊢
  rw [← r.len]
  cases q : ixN xs.length i with
  | none => rw [q] at e; cases e
  | some j => rw [q] at e; exact r.get e
theorem RTs.get {c : Ct} {g : Gh} {H : Hp} : ∀ {vs : List VV} {us : List V} {i : Nat} {v : VV}, RTs c g H vs us → vs[i]? = some v → ∃ u, us[i]? = some u ∧ RT c g H v u
  | [], us, i, v, h, e => by simp at e
  | x :: xs, us, i, v, h, e => by
    obtain ⟨u, r, rfl, a, b⟩ := h
    cases i with
    | zero => simp at e; subst e; exact ⟨u, rfl, a⟩
    | succ i => exact RTs.get (i := i) b (by simpa using e)
theorem atI_rt {c : Ct} {g : Gh} {H : Hp} {xs : List VV} {us : List V} {i : Int} {v : VV} (r : RTs c g H xs us) (e : atI xs i = some v) : ∃ u, atI us i = some u ∧ RT c g H v u := by
  unfold atI at e ⊢
  rw [← r.len]
  cases q : ixN xs.length i with
  | none => rw [q] at e; cases e
  | some j => rw [q] at e; exact r.get e
theorem ir_ix : IxR X (Rd2 (ct X) opIx) :=
  IxR.imp ix_seq fun x y H Q ⟨g, h, v, w, r, rh, rv, rw', e, k⟩ => by
    unfold opIx at e
    split at e
    · rename_i xs i
      obtain ⟨p, us, ep, sp, rp⟩ := tup_get rv
      obtain ⟨u, eu, ru⟩ := atI_rv rp e
      exact .inr (.inl ⟨p, us, i, u, ep, int_get rw', sp.sq, eu, k g H u .refl rh (RT.of_rv ru)⟩)
    · rename_i z i
      split at e
      · rename_i hz
        cases q : atI z.cps.toList i with
        | none => rw [q] at e; cases e
        | some cc =>
          rw [q] at e
          cases e
          exact .inr (.inr ⟨z, i, cc, str_get rv, int_get rw', SZ_le hz, q, k g H _ .refl rh rt_str⟩)
      · cases e
    · rename_i v i _ _
      obtain ⟨xs, e1, e2⟩ := Option.bind_eq_some_iff.mp e
      obtain ⟨p, us, ep, sp, rp⟩ := lstR_get rh rv e1
      obtain ⟨u, eu, ru⟩ := atI_rt rp e2
      exact .inl ⟨p, us, i, u, ep, int_get rw', sp, eu, k g H u .refl rh ru⟩
    · cases e
/-! slices: data -/
abbrev POF := VSt → VH → Res (Option Int)
def RO_ (_ : Gh) (_ : Hp) (a b : Option Int) : Prop := b = a
abbrev tO (c : Ct) (W : WX) (f : POF) : TO := tG c W RO_ f
def oNone : POF := fun _ h => .ok none h
def oSome (a : EF) : POF := fun ρ h => (a ρ h).bind fun v h1 => match v with
  | .int i => .ok (some i) h1
  | _ => .no
theorem PO.mono {e : Option Expr} {t t' : TO} (h : PO X e t) (m : ∀ σ H Q, t' σ H Q → t σ H Q) : PO X e t' := ⟨fun pins s σ H Q I q => h.run pins s σ H Q I (m σ H Q q)⟩
theorem jo_none : PO X none (tO (ct X) W oNone) := PO.mono po_none fun σ H Q ⟨g, ρ, h, rh, rs, p⟩ => p g H none .refl rh rfl
theorem jo_some {e : Expr} {f : EF} (h : PE X e (tE (ct X) W f)) : PO X (some e) (tO (ct X) W (oSome f)) :=
  PO.mono (po_some h) fun σ H Q ⟨g, ρ, h0, rh, rs, p⟩ => by
    refine ⟨g, ρ, h0, rh, rs, (Pst.bind (R := RT (ct X)) p).imp fun u H1 ⟨g1, v, h1, st, rh1, rv1, p1⟩ => ?_⟩
    cases v with
    | int i => exact ⟨i, int_get rv1, p1 g1 H1 _ .refl rh1 rfl⟩
    | _ => exact p1.elim
def cut (xs : List VV) (lo hi : Option Int) : List VV := (xs.drop (HT.sIx xs.length 0 lo)).take (HT.sIx xs.length xs.length hi - HT.sIx xs.length 0 lo)
theorem RVs.cut {c : Ct} {z : Addr → Prop} {H : Hp} {xs : List VV} {us : List V} (r : RVs c z H xs us) (lo hi : Option Int) : RVs c z H (J.cut xs lo hi) (cutV us lo hi) := by
  unfold J.cut cutV
  rw [r.len]
  exact RVs.take _ (RVs.drop _ r)
abbrev OpS := VH → VV → Option Int → Option Int → Option VV
def opSl : OpS := fun h v lo hi => match v with
  | .tup xs => some (.tup (cut xs lo hi))
  | .str z => if z.length ≤ SZ then some (.str (cutS z lo hi)) else none
  | v => (lstOf h v).map fun xs => .lst (cut xs lo hi)
def eSl (op : OpS) (a : EF) (lo hi : POF) : EF := fun ρ h => (a ρ h).bind fun v h1 => (lo ρ h1).bind fun l h2 => (hi ρ h2).bind fun u h3 => lift (op h3 v l u) h3
theorem j_sl {e : Expr} {lo hi : Option Expr} {p2 pos : Pos} {fe : EF} {fl fh : POF} (he : PE X e (tE (ct X) W fe)) (hl : PO X lo (tO (ct X) W fl)) (hu : PO X hi (tO (ct X) W fh)) : PE X (.Subscript e (.Slice lo hi none p2) pos) (tE (ct X) W (eSl opSl fe fl fh)) :=
  PE.mono (pe_slice (SlR.or sl_list (SlR.or sl_tupA sl_str)) he hl hu) fun σ H Q ⟨g, ρ, h0, rh, rs, p⟩ => by
    refine ⟨g, ρ, h0, rh, rs, (Pst.bind (R := RT (ct X)) p).imp fun u H1 ⟨g1, v, h1, st, rh1, rv1, p1⟩ => ?_⟩
    refine ⟨g1, ρ, h1, rh1, rs.stp st, (Pst.bind (R := RO_) p1).imp fun l H2 ⟨g2, l', h2, st2, rh2, el, p2⟩ => ?_⟩
    cases el
    refine ⟨g2, ρ, h2, rh2, (rs.stp st).stp st2, (Pst.bind (R := RO_) p2).imp fun l2 H3 ⟨g3, l2', h3, st3, rh3, el2, p3⟩ => ?_⟩
    cases el2
    have rv3 := (rv1.stp st2).stp st3
    unfold lift at p3
    cases er : opSl h3 v l l2 with
    | none => rw [er] at p3; exact p3.elim
    | some r =>
      rw [er] at p3
      unfold opSl at er
      split at er
      · cases er
        obtain ⟨p, us, ep, sp, rp⟩ := tup_get rv3
        refine .inr (.inl ⟨p, us, ep, sp.sq, fun hw => ?_, fun hne p hp => ?_⟩)
        · rw [← rp.len] at hw
          unfold J.cut at p3
          rw [hw.1, hw.2, List.drop_zero, Nat.sub_zero, List.take_length] at p3
          rw [← ep]
          exact p3 g3 H3 _ .refl rh3 rv3
        · obtain ⟨s1, s2, s3⟩ := pair_new rh3 hp (RVs.cut rp l l2)
          exact p3 _ _ _ s1 s2 s3
      · split at er
        · rename_i hz
          cases er
          exact .inr (.inr ⟨_, str_get rv3, SZ_le hz, p3 g3 H3 _ .refl rh3 rt_str⟩)
        · cases er
      · obtain ⟨xs, e1, e2⟩ := Option.map_eq_some_iff.mp er
        cases e2
        obtain ⟨p, us, ep, sp, rp⟩ := lstOf_get rh3 rv3 e1
        refine .inl ⟨p, us, ep, sp, fun p hp => ?_⟩
        obtain ⟨s1, s2, s3⟩ := new_lst rh3 hp (RVs.cut rp l l2)
        exact p3 _ _ _ s1 s2 s3
/-! == of data -/
mutual
def toD : VV → PyData
  | .non => .none
  | .bl b => .bool b
  | .int i => .int i
  | .str x => .str x
  | .tup xs => .tuple (toDs xs)
  | .lst xs => .list (toDs xs)
  | _ => .none
def toDs : List VV → List PyData
  | [] => []
  | x :: xs => toD x :: toDs xs
end
mutual
def isD : VV → Bool
  | .non => true
  | .bl _ => true
  | .int _ => true
  | .str _ => true
  | .tup xs => isDs xs
  | .lst xs => isDs xs
  | _ => false
def isDs : List VV → Bool
  | [] => true
  | x :: xs => isD x && isDs xs
end
mutual
theorem dp_of {c : Ct} {z : Addr → Prop} {H : Hp} : ∀ (v : VV) (u : V), RV c z H v u → isD v = true → Dp c.K H u (toD v)
  | .non, u, r, _ => by rw [RV] at r; subst r; rw [toD]; exact .non
  | .bl b, u, r, _ => by rw [RV] at r; subst r; rw [toD]; exact .bl b
  | .int b, u, r, _ => by rw [RV] at r; subst r; rw [toD]; exact .int b
  | .str b, u, r, _ => by rw [RV] at r; subst r; rw [toD]; exact .str b
  | .tup xs, u, r, d => by
    rw [RV] at r
    obtain ⟨p, us, e, t, q⟩ := r
    subst e
    rw [toD]
    rw [isD] at d
    exact .tup t.sq (dps_of xs us q d)
  | .lst xs, u, r, d => by
    rw [RV] at r
    obtain ⟨p, us, e, _, t, q⟩ := r
    subst e
    rw [toD]
    rw [isD] at d
    exact .lst (SqL.of t) (dps_of xs us q d)
  | .scr _, _, _, d => by rw [isD] at d <;> first | exact (Bool.false_ne_true d).elim | simp
  | .dT _ _, _, _, d => by rw [isD] at d <;> first | exact (Bool.false_ne_true d).elim | simp
  | .dK _ _, _, _, d => by rw [isD] at d <;> first | exact (Bool.false_ne_true d).elim | simp
  | .ins _ _ _, _, _, d => by rw [isD] at d <;> first | exact (Bool.false_ne_true d).elim | simp
  | .obj _, _, _, d => by rw [isD] at d <;> first | exact (Bool.false_ne_true d).elim | simp
  | .glb _, _, _, d => by rw [isD] at d <;> first | exact (Bool.false_ne_true d).elim | simp
  | .ty _, _, _, d => by rw [isD] at d <;> first | exact (Bool.false_ne_true d).elim | simp
theorem dps_of {c : Ct} {z : Addr → Prop} {H : Hp} : ∀ (vs : List VV) (us : List V), RVs c z H vs us → isDs vs = true → DpAll c.K H us (toDs vs)
  | [], us, r, _ => by rw [RVs] at r; subst r; rw [toDs]; exact .nil
  | x :: xs, us, r, d => by
    rw [RVs] at r
    obtain ⟨u, q, e, a, b⟩ := r
    subst e
    rw [isDs, Bool.and_eq_true] at d
    rw [toDs]
    exact .cons (dp_of x u a d.1) (dps_of xs q b d.2)
end
theorem noObj {v : VV} (h : isD v = true) : v.isObj = false := by
  cases v with
  | obj n => simp [isD] at h
  | _ => rfl
/-- == : scalars of one kind, else data -/
def eqD (v w : VV) : Option Bool := match v, w with
  | .int i, .int j => some (decide (i = j))
  | .str i, .str j => some (decide (i = j))
  | .bl i, .bl j => some (decide (i = j))
  | v, w => if isD v = true ∧ isD w = true ∧ SeqAt.shaped (toD v) = true ∧ SeqAt.shaped (toD w) = true then some (PyData.eqv (toD v) (toD w)) else none
def opEq : Op2 := fun _ v w => (eqD v w).map .bl
def opNe : Op2 := fun _ v w => (eqD v w).map fun b => .bl (!b)
theorem eqD_cases {c : Ct} {g : Gh} {H : Hp} {v w : VV} {x y : V} {b : Bool} (rv : RT c g H v x) (rw' : RT c g H w y) (e : eqD v w = some b) :
    (scal x y = true ∧ decide (x = y) = b) ∨ ∃ d e, Dp c.K H x d ∧ Dp c.K H y e ∧ SeqAt.shaped d = true ∧ SeqAt.shaped e = true ∧ PyData.eqv d e = b := by
  unfold eqD at e
  split at e
  · cases e
    rw [int_get rv, int_get rw']
    exact .inl ⟨rfl, by rw [dec_int, Bool.beq_eq_decide_eq]⟩
  · cases e
    rw [str_get rv, str_get rw']
    exact .inl ⟨rfl, by rw [dec_str, Bool.beq_eq_decide_eq]⟩
  · cases e
    rw [bl_get rv, bl_get rw']
    exact .inl ⟨rfl, by rw [dec_bl, Bool.beq_eq_decide_eq]⟩
  · split at e
    · rename_i hd
      cases e
      have n1 : v.isObj = false := noObj hd.1
      have n2 : w.isObj = false := noObj hd.2.1
      exact .inr ⟨_, _, dp_of _ _ (rv.rv n1) hd.1, dp_of _ _ (rw'.rv n2) hd.2.1, hd.2.2.1, hd.2.2.2, rfl⟩
    · cases e
theorem or_eq {k : Nat} (hr : Room k X.A) : OpR X (compareOp .Eq) (Rd2 (ct X) opEq) :=
  OpR.imp (OpR.or op_eq (op_eqD hr.units)) fun x y H Q ⟨g, h, v, w, r, rh, rv, rw', e, kk⟩ => by
    obtain ⟨b, e1, e2⟩ := Option.map_eq_some_iff.mp e
    cases e2
    rcases eqD_cases rv rw' e1 with ⟨q1, q2⟩ | ⟨d, e, q1, q2, q3, q4, q5⟩
    · exact .inl ⟨q1, by rw [q2]; exact kk g H _ .refl rh rt_bl⟩
    · exact .inr ⟨d, e, q1, q2, q3, q4, by rw [q5]; exact kk g H _ .refl rh rt_bl⟩
theorem or_ne {k : Nat} (hr : Room k X.A) : OpR X (compareOp .NotEq) (Rd2 (ct X) opNe) :=
  OpR.imp (OpR.or op_ne (op_neD hr.units)) fun x y H Q ⟨g, h, v, w, r, rh, rv, rw', e, kk⟩ => by
    obtain ⟨b, e1, e2⟩ := Option.map_eq_some_iff.mp e
    cases e2
    rcases eqD_cases rv rw' e1 with ⟨q1, q2⟩ | ⟨d, e, q1, q2, q3, q4, q5⟩
    · exact .inl ⟨q1, by rw [q2]; exact kk g H _ .refl rh rt_bl⟩
    · exact .inr ⟨d, e, q1, q2, q3, q4, by rw [q5]; exact kk g H _ .refl rh rt_bl⟩
/-- is None -/
def opIsN : Op2 := fun _ v w => match v, w with
  | .non, .non => some (.bl true)
  | v, .non => if v.isObj = true then none else some (.bl false)
  | _, _ => none
def opNotN : Op2 := fun _ v w => match v, w with
  | .non, .non => some (.bl false)
  | v, .non => if v.isObj = true then none else some (.bl true)
  | _, _ => none
theorem non_dec {c : Ct} {g : Gh} {H : Hp} {v : VV} {u : V} (rv : RT c g H v u) (no : v.isObj = false) (nn : v ≠ .non) : decide (u = V.non) = false := by
  have r := rv.rv no
  refine decide_eq_false fun z => ?_
  subst z
  cases v with
  | non => exact nn rfl
  | bl b => rw [RV] at r; cases r
  | int b => rw [RV] at r; cases r
  | str b => rw [RV] at r; cases r
  | tup xs => rw [RV] at r; obtain ⟨p, us, e, _⟩ := r; cases e
  | lst xs => rw [RV] at r; obtain ⟨p, us, e, _⟩ := r; cases e
  | scr xs => rw [RV] at r; obtain ⟨p, us, e, _⟩ := r; cases e
  | dT ks xs => rw [RV] at r; obtain ⟨p, us, e, _⟩ := r; cases e
  | dK ks xs => rw [RV] at r; obtain ⟨p, us, e, _⟩ := r; cases e
  | ins a ks xs => rw [RV] at r; obtain ⟨p, C, dx, us, e, _⟩ := r; cases e
  | obj n => cases no
  | glb x => rw [RV] at r; obtain ⟨a, _, e⟩ := r; cases e
  | ty n => rw [RV] at r; cases r
  | raw n => rw [RV] at r; cases r
theorem or_isN : OpR X (compareOp .Is) (Rd2 (ct X) opIsN) :=
  OpR.imp op_isN fun x y H Q ⟨g, h, v, w, r, rh, rv, rw', e, kk⟩ => by
    unfold opIsN at e
    split at e
    · cases e
      refine ⟨non_get rw', ?_⟩
      rw [non_get rv]
      exact kk g H _ .refl rh rt_bl
    · split at e
      · cases e
      · rename_i nv no
        cases e
        refine ⟨non_get rw', ?_⟩
        rw [non_dec rv (by simpa using no) (fun z => nv z)]
        exact kk g H _ .refl rh rt_bl
    · cases e
/-! calls of built-ins -/
def cLen : OpN := fun h vs => match vs with
  | [.tup xs] => some (.int xs.length)
  | [.str z] => if z.length ≤ SZ then some (.int z.length) else none
  | [v] => (lstR h v).map fun xs => .int xs.length
  | _ => none
theorem cr_len : CallR X (.builtin "len") (RdN (ct X) cLen) :=
  CallR.imp (CallR.or call_len_seq call_len_str) fun xs H Q ⟨g, h, vs, r, rh, rv, e, kk⟩ => by
    unfold cLen at e
    split at e
    · cases e
      obtain ⟨u, q, rfl, a, rfl⟩ := rv
      obtain ⟨p, us, ep, sp, rp⟩ := tup_get a
      exact .inl ⟨p, us, by rw [ep], .inr sp.sq, by rw [← rp.len]; exact kk g H _ .refl rh rt_int⟩
    · split at e
      · rename_i hz
        cases e
        obtain ⟨u, q, rfl, a, rfl⟩ := rv
        exact .inr ⟨_, by rw [str_get a], SZ_le hz, kk g H _ .refl rh rt_int⟩
      · cases e
    · obtain ⟨ys, e1, e2⟩ := Option.map_eq_some_iff.mp e
      cases e2
      obtain ⟨u, q, rfl, a, rfl⟩ := rv
      obtain ⟨p, us, ep, sp, rp⟩ := lstR_get rh a e1
      exact .inl ⟨p, us, by rw [ep], .inl sp, by rw [← rp.len]; exact kk g H _ .refl rh rt_int⟩
    · cases e
def intsOf : List VV → Option (List Int)
  | [] => some []
  | .int i :: xs => (intsOf xs).map fun l => i :: l
  | _ => none
def blsOf : List VV → Option (List Bool)
  | [] => some []
  | .bl i :: xs => (blsOf xs).map fun l => i :: l
  | _ => none
def strsOf : List VV → Option (List Str)
  | [] => some []
  | .str i :: xs => (strsOf xs).map fun l => i :: l
  | _ => none
theorem intsOf_rv {c : Ct} {z : Addr → Prop} {H : Hp} : ∀ {vs : List VV} {us : List V} {ns : List Int}, RVs c z H vs us → intsOf vs = some ns → us = ns.map V.int
  | [], us, ns, r, e => by cases e; rw [RVs] at r; exact r
  | x :: xs, us, ns, r, e => by
    rw [RVs] at r
    obtain ⟨u, q, rfl, a, b⟩ := r
    cases x with
    | int i =>
      rw [intsOf] at e
      obtain ⟨l, e1, rfl⟩ := Option.map_eq_some_iff.mp e
      rw [RV] at a
      rw [a, intsOf_rv b e1]; rfl
    | _ => simp [intsOf] at e
theorem blsOf_rv {c : Ct} {z : Addr → Prop} {H : Hp} : ∀ {vs : List VV} {us : List V} {ns : List Bool}, RVs c z H vs us → blsOf vs = some ns → us = ns.map V.bl
  | [], us, ns, r, e => by cases e; rw [RVs] at r; exact r
  | x :: xs, us, ns, r, e => by
    rw [RVs] at r
    obtain ⟨u, q, rfl, a, b⟩ := r
    cases x with
    | bl i =>
      rw [blsOf] at e
      obtain ⟨l, e1, rfl⟩ := Option.map_eq_some_iff.mp e
      rw [RV] at a
      rw [a, blsOf_rv b e1]; rfl
    | _ => simp [blsOf] at e
theorem strsOf_rv {c : Ct} {z : Addr → Prop} {H : Hp} : ∀ {vs : List VV} {us : List V} {ns : List Str}, RVs c z H vs us → strsOf vs = some ns → us = ns.map V.str
  | [], us, ns, r, e => by cases e; rw [RVs] at r; exact r
  | x :: xs, us, ns, r, e => by
    rw [RVs] at r
    obtain ⟨u, q, rfl, a, b⟩ := r
    cases x with
    | str i =>
      rw [strsOf] at e
      obtain ⟨l, e1, rfl⟩ := Option.map_eq_some_iff.mp e
      rw [RV] at a
      rw [a, strsOf_rv b e1]; rfl
    | _ => simp [strsOf] at e
def cSum : OpN := fun h vs => match vs with
  | [v] => (lstOf h v).bind fun xs => (intsOf xs).map fun ns => .int ns.sum
  | _ => none
def cAll : OpN := fun h vs => match vs with
  | [v] => (lstOf h v).bind fun xs => (blsOf xs).map fun ns => .bl (ns.all id)
  | _ => none
theorem cr_sumJ (hc : X.calm = true) : CallR X (.builtin "sum") (RdN (ct X) cSum) :=
  CallR.imp (cr_sum hc) fun xs H Q ⟨g, h, vs, r, rh, rv, e, kk⟩ => by
    unfold cSum at e
    split at e
    · obtain ⟨ys, e1, e2⟩ := Option.bind_eq_some_iff.mp e
      obtain ⟨ns, e3, e4⟩ := Option.map_eq_some_iff.mp e2
      cases e4
      obtain ⟨u, q, rfl, a, rfl⟩ := rv
      obtain ⟨p, us, ep, sp, rp⟩ := lstOf_get rh a e1
      exact ⟨p, ns, by rw [ep], by rw [← intsOf_rv rp e3]; exact sp, kk g H _ .refl rh rt_int⟩
    · cases e
theorem cr_allJ (hc : X.calm = true) : CallR X (.builtin "all") (RdN (ct X) cAll) :=
  CallR.imp (cr_all hc) fun xs H Q ⟨g, h, vs, r, rh, rv, e, kk⟩ => by
    unfold cAll at e
    split at e
    · obtain ⟨ys, e1, e2⟩ := Option.bind_eq_some_iff.mp e
      obtain ⟨ns, e3, e4⟩ := Option.map_eq_some_iff.mp e2
      cases e4
      obtain ⟨u, q, rfl, a, rfl⟩ := rv
      obtain ⟨p, us, ep, sp, rp⟩ := lstOf_get rh a e1
      exact ⟨p, ns, by rw [ep], by rw [← blsOf_rv rp e3]; exact sp, kk g H _ .refl rh rt_bl⟩
    · cases e
/-- list(..), tuple(..): data -/
def cList : OpN := fun h vs => match vs with
  | [.tup xs] => some (.lst xs)
  | [v] => (lstOf h v).map fun xs => .lst xs
  | _ => none
theorem cr_listJ : CallR X (.type "list") (RdN (ct X) cList) :=
  CallR.imp call_list_of fun xs H Q ⟨g, h, vs, r, rh, rv, e, kk⟩ => by
    unfold cList at e
    split at e
    · cases e
      obtain ⟨u, q, rfl, a, rfl⟩ := rv
      obtain ⟨p, us, ep, sp, rp⟩ := tup_get a
      refine ⟨p, us, by rw [ep], .inr sp.sq, fun l hl => ?_⟩
      obtain ⟨s1, s2, s3⟩ := new_lst rh hl rp
      exact kk _ _ _ s1 s2 s3
    · obtain ⟨ys, e1, e2⟩ := Option.map_eq_some_iff.mp e
      cases e2
      obtain ⟨u, q, rfl, a, rfl⟩ := rv
      obtain ⟨p, us, ep, sp, rp⟩ := lstOf_get rh a e1
      refine ⟨p, us, by rw [ep], .inl sp, fun l hl => ?_⟩
      obtain ⟨s1, s2, s3⟩ := new_lst rh hl rp
      exact kk _ _ _ s1 s2 s3
    · cases e
def cTuple : OpN := fun h vs => match vs with
  | [.tup xs] => some (.tup xs)
  | [v] => (lstOf h v).map fun xs => .tup xs
  | _ => none
theorem cr_tupleJ : CallR X (.type "tuple") (RdN (ct X) cTuple) :=
  CallR.imp call_tuple_of fun xs H Q ⟨g, h, vs, r, rh, rv, e, kk⟩ => by
    unfold cTuple at e
    split at e
    · cases e
      obtain ⟨u, q, rfl, a, rfl⟩ := rv
      obtain ⟨p, us, ep, sp, rp⟩ := tup_get a
      exact ⟨p, us, by rw [ep], .inr ⟨sp.sq, by rw [← ep]; exact kk g H u .refl rh a⟩⟩
    · obtain ⟨ys, e1, e2⟩ := Option.map_eq_some_iff.mp e
      cases e2
      obtain ⟨u, q, rfl, a, rfl⟩ := rv
      obtain ⟨p, us, ep, sp, rp⟩ := lstOf_get rh a e1
      refine ⟨p, us, by rw [ep], .inl ⟨sp, fun l hl => ?_⟩⟩
      obtain ⟨s1, s2, s3⟩ := pair_new rh hl rp
      exact kk _ _ _ s1 s2 s3
    · cases e
/-- isinstance(x, T), T a built-in type, x data -/
def tyN (h : VH) : VV → Option String
  | .non => some "NoneType"
  | .bl _ => some "bool"
  | .int _ => some "int"
  | .str _ => some "str"
  | .tup _ => some "tuple"
  | .lst _ => some "list"
  | .obj n => match h[n]? with
    | some (.fl _) => some "list"
    | some (.fzn (.lst _)) => some "list"
    | _ => none
  | _ => none
theorem tyX_of {c : Ct} {g : Gh} {h : VH} {H : Hp} {v : VV} {u : V} {n : String} (rh : RH c g h H) (rv : RT c g H v u) (e : tyN h v = some n) : TyX c.K H u (.type n) := by
  cases v with
  | non => cases e; rw [non_get rv]; exact .base .non
  | bl b => cases e; rw [bl_get rv]; exact .base (.bl b)
  | int b => cases e; rw [int_get rv]; exact .base (.int b)
  | str b => cases e; rw [str_get rv]; exact .base (.str b)
  | tup xs =>
    cases e
    obtain ⟨p, us, ep, sp, rp⟩ := tup_get rv
    rw [ep]
    exact .base (.tup sp)
  | lst xs =>
    cases e
    obtain ⟨p, us, ep, sp, rp⟩ := lstOf'_get (xs := xs) rh rv rfl
    rw [ep]
    exact .base (.lst sp)
  | obj m =>
    unfold tyN at e
    simp only at e
    split at e
    · rename_i xs en
      cases e
      obtain ⟨p, us, ep, sp, rp⟩ := lstOf'_get (xs := xs) rh rv (by unfold lstOf'; simp only [en])
      rw [ep]
      exact .base (.lst sp)
    · rename_i xs en
      cases e
      obtain ⟨p, us, ep, sp, rp⟩ := lstOf'_get (xs := xs) rh rv (by unfold lstOf'; simp only [en])
      rw [ep]
      exact .base (.lst sp)
    · cases e
  | _ => cases e
def cIsi : OpN := fun h vs => match vs with
  | [v, .ty b] => (tyN h v).bind fun a => (kitB a b).map .bl
  | _ => none
theorem cr_isi : CallR X (.builtin "isinstance") (RdN (ct X) cIsi) :=
  CallR.imp call_isi fun xs H Q ⟨g, h, vs, r, rh, rv, e, kk⟩ => by
    unfold cIsi at e
    split at e
    · obtain ⟨n, e1, e2⟩ := Option.bind_eq_some_iff.mp e
      obtain ⟨b, e3, e4⟩ := Option.map_eq_some_iff.mp e2
      cases e4
      obtain ⟨u, q, rfl, a, u2, q2, rfl, a2, rfl⟩ := rv
      exact ⟨u, u2, _, _, b, rfl, by rw [ty_get a2]; exact .ty _, tyX_of rh a e1, kit_ty e3, kk g H _ .refl rh rt_bl⟩
    · cases e
end
end J
namespace J
open PySem L2
theorem fn_no {P : Program} {w : World} {K : PySem.W.Frag} {mg : Str → Option Value} {base : Heap} {CX : CXT} {k n : Nat} {f : Addr} {fd : FuncData} {ps : List Str} {c : Ct} (hn : ps.length = n) : FnOk P w K mg base CX k f fd ps (spF c n (fun _ _ => .no)) :=
  ⟨fun vs H Q E h => by obtain ⟨_, _, _, _, _, _, p⟩ := h; exact p.elim, fun A outer s H args us vs Q E hr e0 hb r hsp => by obtain ⟨_, _, _, _, _, _, p⟩ := hsp; exact p.elim⟩
/-- a law's end: its own function gives True at every script -/
theorem law_sp {K : PySem.W.Frag} {mg : Str → Option Value} {F : FF} {H : Hp} {a : Addr} {ns : List Int} (hT : LTab ⟨K, mg⟩ H) (hS : SqL K H a (ns.map V.int)) (hF : ∃ h', F [.scr (ns.map VV.int)] [] = .ok (.bl true) h') :
    spF ⟨K, mg⟩ 1 F [.ref a] H (fun v _ => v = .bl true) fun _ _ _ => False := by
  obtain ⟨h', e⟩ := hF
  have rvs : ∀ (z : Addr → Prop) (l : List Int), RVs ⟨K, mg⟩ z H (l.map VV.int) (l.map V.int) := by
    intro z l
    induction l with
    | nil => exact RVs.nil
    | cons x xs ih => exact RVs.cons (rv_int _ _ _ _) ih
  have fin : ∀ g : Gh, RH ⟨K, mg⟩ g [] H → RT ⟨K, mg⟩ g H (.scr (ns.map VV.int)) (.ref a) → spF ⟨K, mg⟩ 1 F [.ref a] H (fun v _ => v = .bl true) fun _ _ _ => False := by
    intro g rh rt
    refine ⟨g, [.scr (ns.map VV.int)], [], rh, ⟨.ref a, [], rfl, rt, rfl⟩, rfl, ?_⟩
    rw [e]
    exact fun g' H' u st rh' rv => bl_get rv
  rcases hS with hS | hS
  · refine fin ⟨[], fun q => q = a, fun _ => False⟩ ⟨rfl, List.nodup_nil, fun n o a h => by simp at h, fun q z => ?_, fun q z => z.elim, fun q z => z.elim, hT, fun q z ps y => ?_⟩ ?_
    · have z' : q = a := z
      subst z'
      rcases hS with hS | ⟨o, hS⟩
      · exact ⟨_, hS⟩
      · exact ⟨_, hS⟩
    · have z' : q = a := z.elim id (fun z => z.elim)
      subst z'
      rcases hS with hS | ⟨o, hS⟩ <;> (rw [hS] at y; cases y)
    · show RV _ _ _ _ _
      rw [RV]
      exact ⟨a, _, rfl, .inl ⟨rfl, hS⟩, rvs _ _⟩
  · refine fin ⟨[], fun _ => False, fun _ => False⟩ ⟨rfl, List.nodup_nil, fun n o a h => by simp at h, fun q z => z.elim, fun q z => z.elim, fun q z => z.elim, hT, fun q z => z.elim False.elim False.elim⟩ ?_
    show RV _ _ _ _ _
    rw [RV]
    exact ⟨a, _, rfl, .inr hS, rvs _ _⟩
theorem cx_no {P : Program} {w : World} {l : List Env} {H : Hp} {s : Shared} {e : Value} {s' : Shared} (h : L2N.CX P w l H s (fun _ _ _ => False) e s') : False := by
  obtain ⟨_, _, _, _, _, _, _, _, _, _, _, _, z⟩ := h
  exact z.elim
theorem walk_J {l : PySem.W.OpenLaw} {n k : Nat} {q : Program} {loose : List Str} {XP : (Str → Option Value) → Heap → Prop} {YP : World → Heap → Prop} {d : DefRec} {K : Params → PySem.W.Frag} {x : Str} {Fm : FF}
    (hn : l.most = some n) (hn2 : n ≤ sizeLine) (hdf : d.params.defaults = []) (hr : Room k PySem.callerA)
    (hrec : ((PyProof.Rows.recsOf q).find? fun e => e.name == lamFn).isSome = true) (hY : ∀ (w : World) (h : Heap), YP w h → (K w.params).In h)
    (F : ∀ (w : World) (mg : Str → Option Value) (fa : Addr) (h : Heap), (K w.params).In h → h.Ns mainGlobals mg → mg d.name = some (.ref fa) →
      ∃ (fd : FuncData) (cc P : Addr), PySem.W.tabIn (K w.params) lamFn = some (cc, P) ∧ (K w.params).lookup P = none ∧ (∀ (s : Shared) (u : Value), BindsTo s fd ⟨[u], []⟩ [(x, u)]) ∧
        ∀ base : Heap, (K w.params).In base → base.Ns mainGlobals mg → LamX.TabB base mg cc P → FnOk l.prog w (K w.params) mg base (L2N.CX l.prog w) k fa fd [x] (spF ⟨K w.params, mg⟩ 1 Fm))
    (hF : ∀ ns : List Int, ns.length ≤ n → (∀ z ∈ ns, Builtin.Int.intBits z ≤ 1048576) → ∃ h', Fm [.scr (ns.map VV.int)] [] = .ok (.bl true) h') :
    PySem.W.WalkO q loose XP YP l.row.toRowW d [] (fun f vs => PySem.call f vs) := by
  refine Att.attach_callB hn hdf fun w s₀ s₁ mg mb fa o pm cd doc a vs ns G Y ho hd hcd hmg hobj hints hlen hbits hg => ?_
  have KX := hY w _ Y
  obtain ⟨fd, cc, P, hT, nT, hb, hF'⟩ := F w mg fa _ KX G.T.g hmg
  obtain ⟨dL, hL⟩ := Option.isSome_iff_exists.mp hrec
  obtain ⟨C, hP⟩ := PySem.W.tab_of G.T KX hL hT
  have one : ∀ p ∈ [(cc, P)], p = (cc, P) := fun p hp => by simpa using hp
  exact LamX.law_callTs (cs := [(cc, P)]) KX G.T.g G.T.b G.T.builtins G.T.nolimit hg (fun p hp => by rw [one p hp]; exact hP) (fun p hp => by rw [one p hp]; exact nT) (fun p hp => by rw [one p hp]; exact C) G.T.bmain hobj hints (Nat.le_trans hlen hn2) hr
    (fun base KB GB TB => hF' base KB GB (TB (cc, P) (by simp))) hb (fun H hH hS => law_sp (fun c2 P2 e2 => by
      have e3 := hT.symm.trans e2
      cases e3
      exact LamX.TabS.nil (hH (cc, P) (by simp))) hS (hF ns hlen hbits)) fun H e s' => cx_no
section
variable {X : Cx} {W : WX}
theorem j_globI {x : Str} {i : Int} {pos : Pos} (hg : Gl X x) (h : ∃ t, X.mg x = some (.int i t)) (hd : (x == ("__debug__" : Str)) = false := by decide) : PE X (.Name x pos) (tE (ct X) W (eC (.int i))) := by
  obtain ⟨t, h⟩ := h
  exact j_c (pe_glob (v := .int i) hg h ⟨t, rfl⟩ hd) fun _ _ => rt_int
theorem j_ty {x : Str} {n : String} {pos : Pos} (hg : Gl X x) (hm : X.mg x = none) (hv : bootBuiltins x = some (.type n)) (hn : x ≠ "__name__" := by decide) (hd : (x == ("__debug__" : Str)) = false := by decide) : PE X (.Name x pos) (tE (ct X) W (eC (.ty n))) :=
  j_c (pe_bltn (v := .ty n) hg hm hv rfl hn hd) fun _ _ => rt_ty
theorem jt_chain {o o' : Op2} {op op' : CmpOp} {a b c : Expr} {fa fb fc : EF} {pos : Pos} (ho : OpR X (compareOp op) (Rd2 (ct X) o)) (ho' : OpR X (compareOp op') (Rd2 (ct X) o')) (ha : PE X a (tE (ct X) W fa)) (hb : PE X b (tE (ct X) W fb)) (hc : PE X c (tE (ct X) W fc))
    (hm : lastMarks [op, op'] [b, c] = false := by with_unfolding_all rfl) : PT X (.Compare a [op, op'] [b, c] pos) (tT (ct X) W (tVal (eChain o o' fa fb fc))) :=
  PT.mono (pt_chain ho ho' ha hb hc hm) fun σ H Q h => by
    have := tChain_of (tVal_of h)
    exact this
end
open PyProof.Rows (envOfC)
/-- a def of the text -/
structure Dn (K : PySem.W.Frag) (mg : Str → Option Value) (x : Str) (st : Stmt) (dvs : List V) (kws : List (Str × V)) (f : Addr) (fd : FuncData) : Prop where
  F : FunD K x x (defArgs st) (defBody st) (defScope st) dvs kws f fd
  m : mg x = some (.ref f)
/-- a def that may be called with the last arguments left out (dws in their place) -/
structure Ok1 (P : Program) (w : World) (K : PySem.W.Frag) (mg : Str → Option Value) (base : Heap) (k : Nat) (x : Str) (n : Nat) (dws : List VV) (Fm : FF) : Prop where
  ex : ∃ (f : Addr) (fd : FuncData) (ps : List Str) (dvs : List V) (ds : List Value), mg x = some (.ref f) ∧ PySem.W.keepIn K (.ref f) = true ∧ FnOk P w K mg base (L2N.CX P w) k f fd ps (spF ⟨K, mg⟩ n Fm) ∧ Binds K fd ps ds ∧ Vals dvs ds ∧ ∀ g H, RTs ⟨K, mg⟩ g H dws dvs
section
variable {X : Cx} {W : WX}
theorem j_callO {k n : Nat} {Fm : FF} {dws : List VV} {x : Str} {p pos : Pos} {e : Expr} {es : List Expr} {fa : AF} (O : Ok1 X.prog X.w X.K X.mg X.base k x n dws Fm) (hr : Room k X.A) (hg : Gl X x) (tk : L2N.Takes X W)
    (ha : PA X (e :: es) (tA (ct X) W fa)) (hdb : (x == ("__debug__" : Str)) = false := by decide) (he : starEach (e :: es) X.env = (false, eval e X.env) :: starEach es X.env := by rfl) (hpl : (backTo pos (starEach es X.env)).any (·.1) = false := by rfl) :
    PE X (.Call (.Name x p) (e :: es) [] pos) (tE (ct X) W (eFn n Fm dws fa)) := by
  obtain ⟨f, fd, ps, dvs, ds, h1, h2, h3, h4, h5, h6⟩ := O.ex
  exact j_call h3 hr hg h1 h2 h4 h5 h6 tk ha hdb he hpl
end
section
variable {P : Program} {w : World} {K : PySem.W.Frag} {mg : Str → Option Value} {base : Heap}
/-- every parameter is given -/
theorem ok_of {x : Str} {st : Stmt} {f : Addr} {fd : FuncData} {ps : List Str} {k m : Nat} {Fm : FF} (D : Dn K mg x st [] [] f fd) (hF : FnOk P w K mg base (L2N.CX P w) k f fd ps (spF ⟨K, mg⟩ m Fm))
    (hb : ∀ (kV doc pm : Value) (an : Option Addr) (cdv ct : Value) (us : List Value), us.length = ps.length → bindArgs (PySem.W.fnOf x x (defArgs st) (defBody st) (defScope st) .none kV doc pm an cdv ct) ⟨us, []⟩ = pure (ps.zip us)) :
    Ok1 P w K mg base k x m [] Fm := by
  refine ⟨f, fd, ps, [], [], D.m, D.F.kp, hF, ?_, .nil, fun _ _ => rfl⟩
  obtain ⟨oc, od, dV, kV, doc, pm, an, cdv, ct, osl, e, lk, hcd, hD, _⟩ := D.F.ex
  subst e
  rcases hD with ⟨_, rfl⟩ | ⟨h, _⟩
  · exact .all (hb kV doc pm an cdv ct)
  · exact absurd rfl h
/-- some defaults fill up -/
theorem okD_of {x : Str} {st : Stmt} {dvs : List V} {f : Addr} {fd : FuncData} {ps : List Str} {k m : Nat} {Fm : FF} {dws : List VV} (D : Dn K mg x st dvs [] f fd) (hF : FnOk P w K mg base (L2N.CX P w) k f fd ps (spF ⟨K, mg⟩ m Fm)) (n j : Nat) (hd : dvs ≠ []) (hn : n + (dvs.length - j) = ps.length)
    (h : ∀ (T : Addr) (kV doc pm : Value) (an : Option Addr) (cdv ct : Value) (us its : List Value), us.length = n → its.length = dvs.length →
      ∃ k, bindArgs (PySem.W.fnOf x x (defArgs st) (defBody st) (defScope st) (.ref T) kV doc pm an cdv ct) ⟨us, []⟩ = seqItems? (.ref T) >>= k ∧ k (some its.toArray) = pure (ps.zip (us ++ its.drop j)))
    (hr : ∀ g H, RTs ⟨K, mg⟩ g H dws (dvs.drop j)) : Ok1 P w K mg base k x m dws Fm := by
  obtain ⟨ds, h1, h2⟩ := D.F.binds1 n j hd hn h
  exact ⟨f, fd, ps, dvs.drop j, ds, D.m, D.F.kp, hF, h2, h1, hr⟩
end
end J
namespace J
open PySem L2
/-! evaluation -/
/-- a step that is told, not seen through -/
theorem nr {α : Sort _} {a b : α} (h : a = b) : a = b := h
/-- a mark by which simp leaves a continuation alone -/
def Tg {γ : Type} (_ : γ) : Type := Unit
def tg {γ : Type} (k : γ) : Tg k := ()
section
variable {α β : Type}
def bnd (r : Res α) (k : α → VH → Res β) (_ : Tg k) : Res β := r.bind k
def sbd (r : Res α) (ρ : VSt) (k : α → VH → SR) (_ : Tg k) : SR := r.st ρ k
theorem bind_ok {a : α} {h : VH} {k : α → VH → Res β} : (Res.ok a h).bind k = k a h := nr rfl
theorem bnd_ok {a : α} {h : VH} {k : α → VH → Res β} {u : Tg k} : bnd (Res.ok a h) k u = k a h := nr rfl
theorem bnd_no {k : α → VH → Res β} {u : Tg k} : bnd (Res.no : Res α) k u = .no := nr rfl
theorem bnd_exc {x ns vs h} {k : α → VH → Res β} {u : Tg k} : bnd (Res.exc x ns vs h : Res α) k u = .exc x ns vs h := nr rfl
theorem sbd_ok {a : α} {h : VH} {ρ : VSt} {k : α → VH → SR} {u : Tg k} : sbd (Res.ok a h) ρ k u = k a h := nr rfl
theorem sbd_no {ρ : VSt} {k : α → VH → SR} {u : Tg k} : sbd (Res.no : Res α) ρ k u = .no := nr rfl
theorem sbd_exc {x ns vs h} {ρ : VSt} {k : α → VH → SR} {u : Tg k} : sbd (Res.exc x ns vs h : Res α) ρ k u = .exc x ns vs ρ h := nr rfl
end
def getV (o : Option (Option VV)) (h : VH) : Res VV := match o with
  | some (some v) => .ok v h
  | _ => .no
theorem getV_some {v : VV} {h : VH} : getV (some (some v)) h = .ok v h := nr rfl
section
variable {ρ : VSt} {h : VH}
theorem a_var {i : Nat} : eVar i ρ h = getV (ρ[i]?) h := nr rfl
theorem a_c {v : VV} : eC v ρ h = .ok v h := nr rfl
theorem a_bin {op a b} : eBin op a b ρ h = bnd (a ρ h) (fun v h1 => bnd (b ρ h1) (fun w h2 => lift (op h2 v w) h2) (tg _)) (tg _) := nr rfl
theorem a_un {op a} : eUn op a ρ h = bnd (a ρ h) (fun v h1 => lift (op h1 v) h1) (tg _) := nr rfl
theorem a_call {op a} : eCall op a ρ h = bnd (a ρ h) (fun v h1 => lift (op h1 v) h1) (tg _) := nr rfl
theorem a_nil : aNil ρ h = .ok [] h := nr rfl
theorem a_cons {a b} : aCons a b ρ h = bnd (a ρ h) (fun v h1 => bnd (b ρ h1) (fun w h2 => .ok (v :: w) h2) (tg _)) (tg _) := nr rfl
theorem a_tup {a} : eTup a ρ h = bnd (a ρ h) (fun vs h1 => if vs.any VV.isObj = true ∨ vs.length > SZ then .no else .ok (.tup vs) h1) (tg _) := nr rfl
theorem a_lst {a} : eLst a ρ h = bnd (a ρ h) (fun vs h1 => if vs.any VV.isObj = true ∨ vs.length > SZ then .no else .ok (.lst vs) h1) (tg _) := nr rfl
theorem a_lstO {a} : eLstO a ρ h = bnd (a ρ h) (fun vs h1 => if vs.any VV.isObj = true ∨ vs.length > SZ then .no else .ok (.obj h1.length) (h1 ++ [.fl vs])) (tg _) := nr rfl
def toB (v : VV) (h : VH) : Res Bool := match v with
  | .bl b => .ok b h
  | _ => .no
theorem toB_bl {b : Bool} : toB (.bl b) h = .ok b h := nr rfl
theorem a_val {a} : tVal a ρ h = bnd (a ρ h) toB (tg _) := nr rfl
theorem a_tand {a b} : tAnd a b ρ h = bnd (a ρ h) (fun v h1 => if v = true then b ρ h1 else .ok false h1) (tg _) := nr rfl
theorem a_tor {a b} : tOr a b ρ h = bnd (a ρ h) (fun v h1 => if v = true then .ok true h1 else b ρ h1) (tg _) := nr rfl
theorem a_tnot {a} : tNot a ρ h = bnd (a ρ h) (fun v h1 => .ok (!v) h1) (tg _) := nr rfl
theorem a_if {c a b} : eIf c a b ρ h = bnd (c ρ h) (fun v h1 => if v = true then a ρ h1 else b ρ h1) (tg _) := nr rfl
theorem a_and {a b} : eAnd a b ρ h = bnd (bnd (a ρ h) toB (tg _)) (fun v h1 => if v = true then b ρ h1 else .ok (.bl false) h1) (tg _) := by
  unfold eAnd
  cases a ρ h with
  | no => rfl
  | exc => rfl
  | ok v h1 =>
    simp only [bind_ok]
    cases v with
    | bl b => cases b <;> rfl
    | _ => rfl
theorem a_or {a b} : eOr a b ρ h = bnd (bnd (a ρ h) toB (tg _)) (fun v h1 => if v = true then .ok (.bl true) h1 else b ρ h1) (tg _) := by
  unfold eOr
  cases a ρ h with
  | no => rfl
  | exc => rfl
  | ok v h1 =>
    simp only [bind_ok]
    cases v with
    | bl b => cases b <;> rfl
    | _ => rfl
theorem a_not {a} : eNot a ρ h = bnd (bnd (a ρ h) toB (tg _)) (fun v h1 => .ok (.bl (!v)) h1) (tg _) := by
  unfold eNot
  cases a ρ h with
  | no => rfl
  | exc => rfl
  | ok v h1 =>
    simp only [bind_ok]
    cases v <;> rfl
theorem a_chain {o o' a b c} : eChain o o' a b c ρ h = bnd (a ρ h) (fun v h1 => bnd (b ρ h1) (fun w h2 => bnd (bnd (lift (o h2 v w) h2) toB (tg _)) (fun k h3 => if k = true then bnd (c ρ h3) (fun z h4 => lift (o' h4 w z) h4) (tg _) else .ok (.bl false) h3) (tg _)) (tg _)) (tg _) := by
  unfold eChain
  congr 1; funext v h1; congr 1; funext w h2
  cases lift (o h2 v w) h2 with
  | no => rfl
  | exc => rfl
  | ok v h1 =>
    simp only [bind_ok]
    cases v with
    | bl b => cases b <;> rfl
    | _ => rfl
theorem a_fn {n F dws a} : eFn n F dws a ρ h = bnd (a ρ h) (fun vs h1 => if (vs ++ dws).length = n then F (vs ++ dws) h1 else .no) (tg _) := nr rfl
def afterL (r : Res (List VV)) : Res VV := match r with
  | .ok vs h2 => .ok (.lst vs) h2
  | _ => .no
theorem afterL_ok {vs : List VV} : afterL (.ok vs h) = .ok (.lst vs) h := nr rfl
theorem a_lc' {own it b t e} : eLc own it b t e ρ h = bnd (it ρ h) (fun xs h1 => if xs.length > SZ then .no else afterL (lcGo b t e (wp ρ own) xs h1)) (tg _) := nr rfl
def seqItems (v : VV) (h : VH) : Res (List VV) := match v with
  | .lst xs => .ok xs h
  | .scr xs => .ok xs h
  | .tup xs => .ok xs h
  | .str s => .ok (signs s) h
  | _ => .no
theorem seqI_lst {xs} : seqItems (.lst xs) h = .ok xs h := nr rfl
theorem seqI_scr {xs} : seqItems (.scr xs) h = .ok xs h := nr rfl
theorem seqI_tup {xs} : seqItems (.tup xs) h = .ok xs h := nr rfl
theorem seqI_str {s} : seqItems (.str s) h = .ok (signs s) h := nr rfl
theorem a_seq {f} : iSeq f ρ h = bnd (f ρ h) seqItems (tg _) := nr rfl
def rng1 (v : VV) (h : VH) : Res (List VV) := match v with
  | .int n => if -(2 ^ 62) ≤ n ∧ n < 2 ^ 62 then .ok (rngV 0 n.toNat) h else .no
  | _ => .no
theorem rng1_int {n : Int} : rng1 (.int n) h = if -(2 ^ 62) ≤ n ∧ n < 2 ^ 62 then .ok (rngV 0 n.toNat) h else .no := nr rfl
theorem a_range1 {f} : iRange1 f ρ h = bnd (f ρ h) rng1 (tg _) := nr rfl
def zipI (v : List VV) (h : VH) : Res (List VV) := match v with
  | [.lst xs, .lst ys] => .ok (prs xs ys) h
  | [.tup xs, .tup ys] => .ok (prs xs ys) h
  | _ => .no
theorem zip_lst {xs ys} : zipI [.lst xs, .lst ys] h = .ok (prs xs ys) h := nr rfl
theorem zip_tup {xs ys} : zipI [.tup xs, .tup ys] h = .ok (prs xs ys) h := nr rfl
theorem a_zip {f} : iZip f ρ h = bnd (f ρ h) zipI (tg _) := nr rfl
theorem a_sl {op a lo hi} : eSl op a lo hi ρ h = bnd (a ρ h) (fun v h1 => bnd (lo ρ h1) (fun l h2 => bnd (hi ρ h2) (fun u h3 => lift (op h3 v l u) h3) (tg _)) (tg _)) (tg _) := nr rfl
theorem a_onone : oNone ρ h = .ok none h := nr rfl
def toO (v : VV) (h : VH) : Res (Option Int) := match v with
  | .int i => .ok (some i) h
  | _ => .no
theorem toO_int {i : Int} : toO (.int i) h = .ok (some i) h := nr rfl
theorem a_osome {a} : oSome a ρ h = bnd (a ρ h) toO (tg _) := nr rfl
theorem lift_some {v : VV} : lift (some v) h = .ok v h := nr rfl
theorem lift_none : lift none h = .no := nr rfl
/-! statements -/
def SR.thn (r : SR) (b : SF) (_ : Tg b) : SR := match r with
  | .nx ρ' h' => b ρ' h'
  | r => r
theorem thn_nx {b : SF} {u : Tg b} : (SR.nx ρ h).thn b u = b ρ h := nr rfl
theorem thn_ret {v} {b : SF} {u : Tg b} : (SR.ret v h).thn b u = .ret v h := nr rfl
theorem thn_no {b : SF} {u : Tg b} : (SR.no).thn b u = .no := nr rfl
theorem thn_brk {b : SF} {u : Tg b} : (SR.brk ρ h).thn b u = .brk ρ h := nr rfl
theorem thn_cnt {b : SF} {u : Tg b} : (SR.cnt ρ h).thn b u = .cnt ρ h := nr rfl
theorem thn_exc {x ns vs} {b : SF} {u : Tg b} : (SR.exc x ns vs ρ h).thn b u = .exc x ns vs ρ h := nr rfl
theorem s_skip : sSkip ρ h = .nx ρ h := nr rfl
theorem s_seq {a b} : sSeq a b ρ h = (a ρ h).thn b (tg _) := nr rfl
theorem s_set {i e} : sSet i e ρ h = sbd (e ρ h) ρ (fun v h1 => .nx (ρ.set i (some v)) h1) (tg _) := nr rfl
def onx (o : Option VSt) (h : VH) : SR := match o with
  | some ρ' => .nx ρ' h
  | none => .no
theorem onx_some {ρ' : VSt} : onx (some ρ') h = .nx ρ' h := nr rfl
theorem s_asg {e b} : sAsg e b ρ h = sbd (e ρ h) ρ (fun v h1 => onx (b v ρ) h1) (tg _) := nr rfl
theorem s_if {c a b} : sIf c a b ρ h = sbd (c ρ h) ρ (fun k h1 => if k = true then a ρ h1 else b ρ h1) (tg _) := nr rfl
theorem s_ret {e} : sRet e ρ h = sbd (e ρ h) ρ (fun v h1 => .ret v h1) (tg _) := nr rfl
theorem s_expr {e} : sExpr e ρ h = sbd (e ρ h) ρ (fun v h1 => .nx ρ h1) (tg _) := nr rfl
theorem s_for {it b body} : sFor it b body ρ h = sbd (it ρ h) ρ (fun xs h1 => forGo b body xs ρ h1) (tg _) := nr rfl
theorem for_nil {b body} : forGo b body [] ρ h = .nx ρ h := by rw [forGo]
def SR.trn (r : SR) (k : VSt → VH → SR) (_ : Tg k) : SR := match r with
  | .nx ρ2 h2 => k ρ2 h2
  | .cnt ρ2 h2 => k ρ2 h2
  | .brk ρ2 h2 => .nx ρ2 h2
  | r => r
theorem trn_nx {k} {u : Tg k} : (SR.nx ρ h).trn k u = k ρ h := nr rfl
def obd (o : Option VSt) (k : VSt → SR) (_ : Tg k) : SR := match o with
  | none => .no
  | some ρ' => k ρ'
theorem obd_some {ρ' : VSt} {k} {u : Tg k} : obd (some ρ') k u = k ρ' := nr rfl
theorem for_cons {b body x xs} : forGo b body (x :: xs) ρ h = obd (b x ρ) (fun ρ' => (body ρ' h).trn (fun ρ2 h2 => forGo b body xs ρ2 h2) (tg _)) (tg _) := by
  rw [forGo]
  cases b x ρ with
  | none => rfl
  | some ρ' => simp only [obd]; cases body ρ' h <;> rfl
theorem bNm_ap {i v} : bNm i v ρ = some (ρ.set i (some v)) := nr rfl
theorem s_par {i j a} : sPar i j a ρ h = sbd (a ρ h) ρ (fun vs h1 => match vs with
  | [v, w] => .nx ((ρ.set i (some v)).set j (some w)) h1
  | _ => .no) (tg _) := nr rfl
theorem s_par3 {i j l a} : sPar3 i j l a ρ h = sbd (a ρ h) ρ (fun vs h1 => match vs with
  | [u, v, w] => .nx (((ρ.set i (some u)).set j (some v)).set l (some w)) h1
  | _ => .no) (tg _) := nr rfl
def onh (o : Option VH) (ρ : VSt) : SR := match o with
  | some h4 => .nx ρ h4
  | none => .no
theorem onh_some {h' : VH} : onh (some h') ρ = .nx ρ h' := nr rfl
theorem s_setI {o i e} : sSetI o i e ρ h = sbd (e ρ h) ρ (fun v h1 => sbd (o ρ h1) ρ (fun ov h2 => sbd (i ρ h2) ρ (fun iv h3 => onh (setI h3 ov iv v) ρ) (tg _)) (tg _)) (tg _) := nr rfl
def SR.fin (r : SR) (n : Nat) : Res VV := match r with
  | .nx _ h' => .ok .non (trim n .non h')
  | .ret v h' => .ok v (trim n v h')
  | .exc x ns vs _ h' => .exc x ns vs h'
  | _ => .no
theorem fn_ap {k B vs} : fnF k B vs h = (B (vs.map some ++ List.replicate (k - vs.length) none) h).fin h.length := by
  unfold fnF
  cases B (vs.map some ++ List.replicate (k - vs.length) none) h <;> rfl
theorem fin_ret {v n} (hl : h.length = n) : (SR.ret v h).fin n = .ok v h := by
  show Res.ok v (trim n v h) = _
  unfold trim
  rw [if_pos hl]
theorem fin_nx {n} (hl : h.length = n) : (SR.nx ρ h).fin n = .ok .non h := by
  show Res.ok VV.non (trim n .non h) = _
  unfold trim
  rw [if_pos hl]
/-! operations -/
theorem o_sub {i j : Int} : opSub h (.int i) (.int j) = some (.int (i - j)) := nr rfl
theorem o_add {i j : Int} : opAdd h (.int i) (.int j) = some (.int (i + j)) := nr rfl
theorem o_lt {i j : Int} : opLt h (.int i) (.int j) = some (.bl (decide (i < j))) := nr rfl
theorem o_le {i j : Int} : opLe h (.int i) (.int j) = some (.bl (decide (i ≤ j))) := nr rfl
theorem o_gt {i j : Int} : opGt h (.int i) (.int j) = some (.bl (decide (j < i))) := nr rfl
theorem o_ge {i j : Int} : opGe h (.int i) (.int j) = some (.bl (decide (j ≤ i))) := nr rfl
theorem o_neg {i : Int} : opNeg h (.int i) = some (.int (-i)) := nr rfl
theorem o_eqI {i j : Int} : opEq h (.int i) (.int j) = some (.bl (decide (i = j))) := nr rfl
theorem o_neI {i j : Int} : opNe h (.int i) (.int j) = some (.bl (!decide (i = j))) := nr rfl
theorem o_eqB {i j : Bool} : opEq h (.bl i) (.bl j) = some (.bl (decide (i = j))) := nr rfl
theorem o_neB {i j : Bool} : opNe h (.bl i) (.bl j) = some (.bl (!decide (i = j))) := nr rfl
theorem o_eqS {i j : Str} : opEq h (.str i) (.str j) = some (.bl (decide (i = j))) := nr rfl
theorem o_fdiv {i j : Int} (h0 : j ≠ 0) (h1 : j.natAbs.log2 < 9000) : opFdiv h (.int i) (.int j) = some (.int (i.fdiv j)) := by
  show (if _ then _ else _) = _; rw [if_pos ⟨h0, h1⟩]
theorem o_mod {i j : Int} (h0 : j ≠ 0) : opMod h (.int i) (.int j) = some (.int (i.fmod j)) := by
  show (if _ then _ else _) = _; rw [if_pos h0]
theorem o_mul {i j : Int} (h0 : mulOk i j = true) : opMul h (.int i) (.int j) = some (.int (i * j)) := by
  show (if _ then _ else _) = _; rw [if_pos h0]
theorem o_pow {i j : Int} (h0 : 0 ≤ j ∧ j ≤ 1000000 ∧ i.natAbs < 2 ^ 64) : opPow h (.int i) (.int j) = some (.int (i ^ j.toNat)) := by
  show (if _ then _ else _) = _; rw [if_pos h0]
theorem o_mul_r {i j : Int} (h0 : j.natAbs < 18446744073709551616) : opMul h (.int i) (.int j) = some (.int (i * j)) := by
  refine o_mul ?_
  unfold mulOk
  rw [decide_eq_true (p := j.natAbs < 2 ^ 64) (by omega)]; simp
theorem o_mul_l {i j : Int} (h0 : i.natAbs < 18446744073709551616) : opMul h (.int i) (.int j) = some (.int (i * j)) := by
  refine o_mul ?_
  unfold mulOk
  rw [decide_eq_true (p := i.natAbs < 2 ^ 64) (by omega)]; simp
end
/-! loops by what holds -/
theorem lc_pure {b : VV → VSt → Option VSt} {t : TF} {e : EF} {ρ : VSt} {h : VH} (f : VV → VV) : ∀ {xs : List VV}, (∀ x ∈ xs, ∃ ρ', b x ρ = some ρ' ∧ t ρ' h = .ok true h ∧ e ρ' h = .ok (f x) h ∧ (f x).isObj = false) → lcGo b t e ρ xs h = .ok (xs.map f) h
  | [], _ => rfl
  | x :: xs, hx => by
    obtain ⟨ρ', h1, h2, h3, h4⟩ := hx x List.mem_cons_self
    rw [lcGo, h1]
    simp only [h2, bind_ok, h3, h4, Bool.false_eq_true, if_false, if_true, lc_pure f fun y hy => hx y (List.mem_cons_of_mem _ hy), List.map_cons]
inductive F2 {α β : Type} (P : α → β → Prop) : List α → List β → Prop
  | nil : F2 P [] []
  | cons {a b as bs} : P a b → F2 P as bs → F2 P (a :: as) (b :: bs)
theorem F2.len {α β : Type} {P : α → β → Prop} {as : List α} {bs : List β} (h : F2 P as bs) : as.length = bs.length := by
  induction h with
  | nil => rfl
  | cons _ _ ih => simp [ih]
theorem for_inv {b : VV → VSt → Option VSt} {body : SF} (I : VSt → VH → Prop) : ∀ {xs : List VV} {ρ : VSt} {h : VH}, I ρ h → (∀ x ∈ xs, ∀ ρ h, I ρ h → ∃ ρ' ρ2 h2, b x ρ = some ρ' ∧ body ρ' h = .nx ρ2 h2 ∧ I ρ2 h2) → ∃ ρ2 h2, forGo b body xs ρ h = .nx ρ2 h2 ∧ I ρ2 h2
  | [], ρ, h, hi, _ => ⟨ρ, h, rfl, hi⟩
  | x :: xs, ρ, h, hi, hx => by
    obtain ⟨ρ', ρ2, h2, e1, e2, hi2⟩ := hx x List.mem_cons_self ρ h hi
    obtain ⟨ρ3, h3, e3, hi3⟩ := for_inv I (xs := xs) hi2 fun y hy => hx y (List.mem_cons_of_mem _ hy)
    refine ⟨ρ3, h3, ?_, hi3⟩
    rw [for_cons, e1, obd_some, e2, trn_nx, e3]
end J
namespace J
open PySem L2
theorem ix_root {h : VH} {n : Nat} {xs : List VV} {k : Int} (e : h[n]? = some (.fl xs)) : opIx h (.obj n) (.int k) = atI xs k := by
  unfold opIx
  simp only [lstR, lstOf, e, Option.bind_some]
theorem set_root {h : VH} {n : Nat} {xs : List VV} {k : Int} {j : Nat} {v : VV} (e : h[n]? = some (.fl xs)) (ej : ixN xs.length k = some j) (hv : v.isObj = false) : setI h (.obj n) (.int k) v = some (h.set n (.fl (xs.set j v))) := by
  unfold setI
  simp only [e, ej, hv, Bool.false_eq_true, if_false]
theorem get_set {h : VH} {n : Nat} {v : VO} (hn : n < h.length) : (h.set n v)[n]? = some v := List.getElem?_set_self hn
theorem lt_of_get {α : Type} {h : List α} {n : Nat} {v : α} (e : h[n]? = some v) : n < h.length := (List.getElem?_eq_some_iff.mp e).1
section
variable {a b c d e : VV}
theorem at5_0 : atI [a, b, c, d, e] 0 = some a := nr rfl
theorem at5_1 : atI [a, b, c, d, e] 1 = some b := nr rfl
theorem at5_2 : atI [a, b, c, d, e] 2 = some c := nr rfl
theorem at5_3 : atI [a, b, c, d, e] 3 = some d := nr rfl
theorem at5_4 : atI [a, b, c, d, e] 4 = some e := nr rfl
end
theorem x_lst {h : VH} {xs : List VV} {k : Int} : opIx h (.lst xs) (.int k) = atI xs k := nr rfl
theorem x_tup {h : VH} {xs : List VV} {k : Int} : opIx h (.tup xs) (.int k) = atI xs k := nr rfl
theorem len_lst {h : VH} {xs : List VV} : cLen h [.lst xs] = some (.int xs.length) := nr rfl
theorem len_tup {h : VH} {xs : List VV} : cLen h [.tup xs] = some (.int xs.length) := nr rfl
theorem list_lst {h : VH} {xs : List VV} : cList h [.lst xs] = some (.lst xs) := nr rfl
theorem list_tup {h : VH} {xs : List VV} : cList h [.tup xs] = some (.lst xs) := nr rfl
theorem tuple_lst {h : VH} {xs : List VV} : cTuple h [.lst xs] = some (.tup xs) := nr rfl
theorem atI_in {xs : List VV} {k : Nat} {v : VV} (e : xs[k]? = some v) : atI xs (k : Int) = some v := atI_nat e
end J
namespace J
open PySem L2
theorem kit_NoneType_list : kitB "NoneType" "list" = some false := by decide +kernel
theorem isi_NoneType_list {h : VH} : cIsi h [.non, .ty "list"] = some (.bl false) := by show ((kitB "NoneType" "list").map VV.bl) = _; rw [kit_NoneType_list]; rfl
theorem kit_NoneType_tuple : kitB "NoneType" "tuple" = some false := by decide +kernel
theorem isi_NoneType_tuple {h : VH} : cIsi h [.non, .ty "tuple"] = some (.bl false) := by show ((kitB "NoneType" "tuple").map VV.bl) = _; rw [kit_NoneType_tuple]; rfl
theorem kit_NoneType_bool : kitB "NoneType" "bool" = some false := by decide +kernel
theorem isi_NoneType_bool {h : VH} : cIsi h [.non, .ty "bool"] = some (.bl false) := by show ((kitB "NoneType" "bool").map VV.bl) = _; rw [kit_NoneType_bool]; rfl
theorem kit_NoneType_int : kitB "NoneType" "int" = some false := by decide +kernel
theorem isi_NoneType_int {h : VH} : cIsi h [.non, .ty "int"] = some (.bl false) := by show ((kitB "NoneType" "int").map VV.bl) = _; rw [kit_NoneType_int]; rfl
theorem kit_NoneType_str : kitB "NoneType" "str" = some false := by decide +kernel
theorem isi_NoneType_str {h : VH} : cIsi h [.non, .ty "str"] = some (.bl false) := by show ((kitB "NoneType" "str").map VV.bl) = _; rw [kit_NoneType_str]; rfl
theorem kit_bool_list : kitB "bool" "list" = some false := by decide +kernel
theorem isi_bool_list {h : VH} {b : Bool} : cIsi h [(.bl b), .ty "list"] = some (.bl false) := by show ((kitB "bool" "list").map VV.bl) = _; rw [kit_bool_list]; rfl
theorem kit_bool_tuple : kitB "bool" "tuple" = some false := by decide +kernel
theorem isi_bool_tuple {h : VH} {b : Bool} : cIsi h [(.bl b), .ty "tuple"] = some (.bl false) := by show ((kitB "bool" "tuple").map VV.bl) = _; rw [kit_bool_tuple]; rfl
theorem kit_bool_bool : kitB "bool" "bool" = some true := by decide +kernel
theorem isi_bool_bool {h : VH} {b : Bool} : cIsi h [(.bl b), .ty "bool"] = some (.bl true) := by show ((kitB "bool" "bool").map VV.bl) = _; rw [kit_bool_bool]; rfl
theorem kit_bool_int : kitB "bool" "int" = some true := by decide +kernel
theorem isi_bool_int {h : VH} {b : Bool} : cIsi h [(.bl b), .ty "int"] = some (.bl true) := by show ((kitB "bool" "int").map VV.bl) = _; rw [kit_bool_int]; rfl
theorem kit_bool_str : kitB "bool" "str" = some false := by decide +kernel
theorem isi_bool_str {h : VH} {b : Bool} : cIsi h [(.bl b), .ty "str"] = some (.bl false) := by show ((kitB "bool" "str").map VV.bl) = _; rw [kit_bool_str]; rfl
theorem kit_int_list : kitB "int" "list" = some false := by decide +kernel
theorem isi_int_list {h : VH} {i : Int} : cIsi h [(.int i), .ty "list"] = some (.bl false) := by show ((kitB "int" "list").map VV.bl) = _; rw [kit_int_list]; rfl
theorem kit_int_tuple : kitB "int" "tuple" = some false := by decide +kernel
theorem isi_int_tuple {h : VH} {i : Int} : cIsi h [(.int i), .ty "tuple"] = some (.bl false) := by show ((kitB "int" "tuple").map VV.bl) = _; rw [kit_int_tuple]; rfl
theorem kit_int_bool : kitB "int" "bool" = some false := by decide +kernel
theorem isi_int_bool {h : VH} {i : Int} : cIsi h [(.int i), .ty "bool"] = some (.bl false) := by show ((kitB "int" "bool").map VV.bl) = _; rw [kit_int_bool]; rfl
theorem kit_int_int : kitB "int" "int" = some true := by decide +kernel
theorem isi_int_int {h : VH} {i : Int} : cIsi h [(.int i), .ty "int"] = some (.bl true) := by show ((kitB "int" "int").map VV.bl) = _; rw [kit_int_int]; rfl
theorem kit_int_str : kitB "int" "str" = some false := by decide +kernel
theorem isi_int_str {h : VH} {i : Int} : cIsi h [(.int i), .ty "str"] = some (.bl false) := by show ((kitB "int" "str").map VV.bl) = _; rw [kit_int_str]; rfl
theorem kit_str_list : kitB "str" "list" = some false := by decide +kernel
theorem isi_str_list {h : VH} {x : Str} : cIsi h [(.str x), .ty "list"] = some (.bl false) := by show ((kitB "str" "list").map VV.bl) = _; rw [kit_str_list]; rfl
theorem kit_str_tuple : kitB "str" "tuple" = some false := by decide +kernel
theorem isi_str_tuple {h : VH} {x : Str} : cIsi h [(.str x), .ty "tuple"] = some (.bl false) := by show ((kitB "str" "tuple").map VV.bl) = _; rw [kit_str_tuple]; rfl
theorem kit_str_bool : kitB "str" "bool" = some false := by decide +kernel
theorem isi_str_bool {h : VH} {x : Str} : cIsi h [(.str x), .ty "bool"] = some (.bl false) := by show ((kitB "str" "bool").map VV.bl) = _; rw [kit_str_bool]; rfl
theorem kit_str_int : kitB "str" "int" = some false := by decide +kernel
theorem isi_str_int {h : VH} {x : Str} : cIsi h [(.str x), .ty "int"] = some (.bl false) := by show ((kitB "str" "int").map VV.bl) = _; rw [kit_str_int]; rfl
theorem kit_str_str : kitB "str" "str" = some true := by decide +kernel
theorem isi_str_str {h : VH} {x : Str} : cIsi h [(.str x), .ty "str"] = some (.bl true) := by show ((kitB "str" "str").map VV.bl) = _; rw [kit_str_str]; rfl
theorem kit_tuple_list : kitB "tuple" "list" = some false := by decide +kernel
theorem isi_tuple_list {h : VH} {xs : List VV} : cIsi h [(.tup xs), .ty "list"] = some (.bl false) := by show ((kitB "tuple" "list").map VV.bl) = _; rw [kit_tuple_list]; rfl
theorem kit_tuple_tuple : kitB "tuple" "tuple" = some true := by decide +kernel
theorem isi_tuple_tuple {h : VH} {xs : List VV} : cIsi h [(.tup xs), .ty "tuple"] = some (.bl true) := by show ((kitB "tuple" "tuple").map VV.bl) = _; rw [kit_tuple_tuple]; rfl
theorem kit_tuple_bool : kitB "tuple" "bool" = some false := by decide +kernel
theorem isi_tuple_bool {h : VH} {xs : List VV} : cIsi h [(.tup xs), .ty "bool"] = some (.bl false) := by show ((kitB "tuple" "bool").map VV.bl) = _; rw [kit_tuple_bool]; rfl
theorem kit_tuple_int : kitB "tuple" "int" = some false := by decide +kernel
theorem isi_tuple_int {h : VH} {xs : List VV} : cIsi h [(.tup xs), .ty "int"] = some (.bl false) := by show ((kitB "tuple" "int").map VV.bl) = _; rw [kit_tuple_int]; rfl
theorem kit_tuple_str : kitB "tuple" "str" = some false := by decide +kernel
theorem isi_tuple_str {h : VH} {xs : List VV} : cIsi h [(.tup xs), .ty "str"] = some (.bl false) := by show ((kitB "tuple" "str").map VV.bl) = _; rw [kit_tuple_str]; rfl
theorem kit_list_list : kitB "list" "list" = some true := by decide +kernel
theorem isi_list_list {h : VH} {xs : List VV} : cIsi h [(.lst xs), .ty "list"] = some (.bl true) := by show ((kitB "list" "list").map VV.bl) = _; rw [kit_list_list]; rfl
theorem kit_list_tuple : kitB "list" "tuple" = some false := by decide +kernel
theorem isi_list_tuple {h : VH} {xs : List VV} : cIsi h [(.lst xs), .ty "tuple"] = some (.bl false) := by show ((kitB "list" "tuple").map VV.bl) = _; rw [kit_list_tuple]; rfl
theorem kit_list_bool : kitB "list" "bool" = some false := by decide +kernel
theorem isi_list_bool {h : VH} {xs : List VV} : cIsi h [(.lst xs), .ty "bool"] = some (.bl false) := by show ((kitB "list" "bool").map VV.bl) = _; rw [kit_list_bool]; rfl
theorem kit_list_int : kitB "list" "int" = some false := by decide +kernel
theorem isi_list_int {h : VH} {xs : List VV} : cIsi h [(.lst xs), .ty "int"] = some (.bl false) := by show ((kitB "list" "int").map VV.bl) = _; rw [kit_list_int]; rfl
theorem kit_list_str : kitB "list" "str" = some false := by decide +kernel
theorem isi_list_str {h : VH} {xs : List VV} : cIsi h [(.lst xs), .ty "str"] = some (.bl false) := by show ((kitB "list" "str").map VV.bl) = _; rw [kit_list_str]; rfl
theorem all_true {h : VH} {n : Nat} : cAll h [.lst (List.replicate n (.bl true))] = some (.bl true) := by
  have : ∀ n, blsOf (List.replicate n (.bl true)) = some (List.replicate n true) := by
    intro n
    induction n with
    | zero => rfl
    | succ n ih => rw [List.replicate_succ, blsOf, ih]; rfl
  show ((blsOf (List.replicate n (.bl true))).map fun ns => VV.bl (ns.all id)) = _
  rw [this]
  simp
theorem lc_const {b : VV → VSt → Option VSt} {t : TF} {e : EF} {ρ : VSt} {h : VH} {v : VV} (hv : v.isObj = false) : ∀ {xs : List VV}, (∀ x ∈ xs, ∃ ρ', b x ρ = some ρ' ∧ t ρ' h = .ok true h ∧ e ρ' h = .ok v h) → lcGo b t e ρ xs h = .ok (List.replicate xs.length v) h
  | [], _ => rfl
  | x :: xs, hx => by
    obtain ⟨ρ', h1, h2, h3⟩ := hx x List.mem_cons_self
    rw [lcGo, h1]
    simp only [h2, bind_ok, h3, hv, Bool.false_eq_true, if_false, if_true, lc_const hv fun y hy => hx y (List.mem_cons_of_mem _ hy), List.length_cons, List.replicate_succ]
theorem prs_same : ∀ xs : List VV, prs xs xs = xs.map fun x => .tup [x, x]
  | [] => rfl
  | x :: xs => by rw [prs, prs_same xs]; rfl
mutual
def dep : VV → Nat
  | .tup xs => deps xs + 1
  | .lst xs => deps xs + 1
  | _ => 0
def deps : List VV → Nat
  | [] => 0
  | x :: xs => max (dep x) (deps xs)
end
mutual
def wide : VV → Nat
  | .tup xs => max xs.length (wides xs)
  | .lst xs => max xs.length (wides xs)
  | _ => 0
def wides : List VV → Nat
  | [] => 0
  | x :: xs => max (wide x) (wides xs)
end
theorem mem_deps : ∀ {xs : List VV} {x : VV}, x ∈ xs → dep x ≤ deps xs ∧ wide x ≤ wides xs
  | [], _, h => by simp at h
  | y :: ys, x, h => by
    rw [deps, wides]
    rcases List.mem_cons.mp h with rfl | h
    · omega
    · have := mem_deps h; omega
theorem mem_isDs : ∀ {xs : List VV} {x : VV}, isDs xs = true → x ∈ xs → isD x = true
  | [], _, _, h => by simp at h
  | y :: ys, x, d, h => by
    rw [isDs, Bool.and_eq_true] at d
    rcases List.mem_cons.mp h with rfl | h
    · exact d.1
    · exact mem_isDs d.2 h
end J
namespace J
open PySem L2
theorem intsOf_map : ∀ l : List Int, intsOf (l.map VV.int) = some l
  | [] => rfl
  | x :: xs => by rw [List.map_cons, intsOf, intsOf_map xs]; rfl
theorem sum_ints {h : VH} {l : List Int} : cSum h [.lst (l.map VV.int)] = some (.int l.sum) := by
  show (intsOf (l.map VV.int)).map (fun ns => VV.int ns.sum) = _
  rw [intsOf_map]; rfl
theorem blsOf_map : ∀ l : List Bool, blsOf (l.map VV.bl) = some l
  | [] => rfl
  | x :: xs => by rw [List.map_cons, blsOf, blsOf_map xs]; rfl
theorem all_bls {h : VH} {l : List Bool} : cAll h [.lst (l.map VV.bl)] = some (.bl (l.all id)) := by
  show (blsOf (l.map VV.bl)).map (fun ns => VV.bl (ns.all id)) = _
  rw [blsOf_map]; rfl
theorem prs_ints : ∀ xs ys : List Int, prs (xs.map VV.int) (ys.map VV.int) = (xs.zip ys).map fun p => .tup [.int p.1, .int p.2]
  | [], ys => by simp [prs]
  | x :: xs, [] => by simp [prs]
  | x :: xs, y :: ys => by simp [prs, prs_ints xs ys]
theorem isDs_ints : ∀ l : List Int, isDs (l.map VV.int) = true
  | [] => by simp [isDs]
  | x :: xs => by simp [isDs, isD, isDs_ints xs]
theorem deps_ints : ∀ l : List Int, deps (l.map VV.int) = 0 ∧ wides (l.map VV.int) = 0
  | [] => by simp [deps, wides]
  | x :: xs => by have := deps_ints xs; simp [deps, dep, wides, wide, this.1, this.2]
/-- == of lists of ints -/
theorem toDs_ints : ∀ l : List Int, toDs (l.map VV.int) = l.map PyData.int
  | [] => by simp [toDs]
  | x :: xs => by simp [toDs, toD, toDs_ints xs]
theorem eqvAll_ints : ∀ l m : List Int, PyData.eqvAll (l.map PyData.int) (m.map PyData.int) = decide (l = m)
  | [], [] => by simp [PyData.eqvAll]
  | [], y :: ys => by simp [PyData.eqvAll]
  | x :: xs, [] => by simp [PyData.eqvAll]
  | x :: xs, y :: ys => by
    simp only [List.map_cons, PyData.eqvAll, PyData.eqv, eqvAll_ints xs ys]
    by_cases h1 : x = y <;> by_cases h2 : xs = ys <;> simp [h1, h2]
theorem canLay_ints : ∀ l : List Int, PyData.canLayAll0 (l.map PyData.int) = true
  | [] => by simp [PyData.canLayAll0]
  | x :: xs => by simp [PyData.canLayAll0, PyData.canLay0, canLay_ints xs]
end J
namespace J
open PySem L2
theorem depth_ints : ∀ l : List Int, PyData.depthAll (l.map PyData.int) = 0
  | [] => by simp [PyData.depthAll]
  | x :: xs => by simp [PyData.depthAll, PyData.depth, depth_ints xs]
theorem eq_ints {h : VH} {l m : List Int} : opEq h (.lst (l.map VV.int)) (.lst (m.map VV.int)) = some (.bl (decide (l = m))) := by
  show (eqD _ _).map VV.bl = _
  unfold eqD
  have sh : ∀ l : List Int, SeqAt.shaped (toD (.lst (l.map VV.int))) = true := fun l => by
    rw [toD, toDs_ints]
    unfold SeqAt.shaped
    rw [PyData.canLay0, canLay_ints, PyData.depth, depth_ints]; rfl
  simp only [isD, isDs_ints, sh, and_self, if_true]
  rw [toD, toD, toDs_ints, toDs_ints, PyData.eqv, eqvAll_ints]; rfl
end J
namespace J
open PySem L2
theorem fin1 {v : VV} {o : VO} : (SR.ret v [o]).fin 1 = .ok v [o] := rfl
end J
namespace J
open PySem L2
open PyProof.Rows (envOfC)
/-! loops of a comprehension's block, whatever a turn does -/
/-- what the slots knew they still know -/
def Knows (σ σ' : St) : Prop := σ.length = σ'.length ∧ ∀ (i : Nat) (v : V), σ[i]? = some (some v) → σ'[i]? = some (some v)
theorem Knows.refl {σ : St} : Knows σ σ := ⟨rfl, fun _ _ h => h⟩
theorem own_loop {Y : Cx} {node tg : Expr} {k m0 : Nat} {it : Addr} {acc : Value} {ce : Env} {p : Pos} {body : Value → Sem Unit} {J : It} {fp : List Addr} {tn : Nat → Heap → Prop} {pins : List (Addr × Obj)} {τ : St} {R : Result → Shared → Prop} {s : Shared} {G : Hp} (M : Nat → Nat → Hp → Prop)
    (hY : Y.calm = true) (T : Turn Y.prog Y.w Y.K tg J fp it tn)
    (hct : compTurn node k (.ref it) acc ce = (do
      standAt p
      match ← pyNext (.ref it) with
      | none => pure (.done .next)
      | some v =>
        letOwnedTupleGo tg (.ref it) v
        body v
        again (.compLoop node k (.ref it) acc ce)))
    (hq : (Code.compLoop node k (.ref it) acc ce).quiet = true) (hden : (model Y.prog Y.w).den (.compLoop node k (.ref it) acc ce) = (compTurn node k (.ref it) acc ce).onRaise (fun x => do noteFrame x ce; theTreesLotGoes x))
    (hund : Y.A.under (.compLoop node k (.ref it) acc ce) = Y.A)
    (I : Inv Y pins τ G s) (st : tn 0 s.heap) (hfp : ∀ (b : Addr) (G' : Hp), b ∈ fp → G' b = none → FpOk Y pins G' b) (nf : ∀ b ∈ fp, G b = none) (m1 : M 0 m0 G)
    (fate : ∀ (i m : Nat) (G1 : Hp), M i m G1 → (J.stop i G1 ∧ ∀ s', Inv Y pins τ G1 s' → R (.ok .next) s') ∨
      (J.go i G1 ∧ ∀ x G2, J.yld i G1 x G2 → ∀ (ps : List (Addr × Obj)) (s2 : Shared) (u : Value), Inv Y ps τ G2 s2 → RelV x u →
        wpAny (model Y.prog Y.w) Y.A (body u) (fun _ s3 => ∃ τ3 G3, Inv Y ps τ3 G3 s3 ∧ Knows τ τ3 ∧ ∃ m', m' < m ∧ M (i + 1) m' G3) (fun _ _ => False) s2)) :
    codeAny (model Y.prog Y.w) Y.A (.compLoop node k (.ref it) acc ce) R s := by
  refine codeAny_loop hq (fun n s' => ∃ i G', Inv Y pins τ G' s' ∧ tn i s'.heap ∧ (∀ b ∈ fp, G' b = none) ∧ M i n G') ?_ m0 ⟨0, G, I, st, nf, m1⟩
  rintro n s1 ⟨i, G1, I1, st1, nf1, mm⟩
  rw [hund, hden]
  refine wpAny_noted ?_
  rw [hct]
  refine wpAny_bind (wpAny_standAt (wpAny_bind ?_))
  rcases fate i n G1 mm with ⟨hstop, fin⟩ | ⟨hgo, step⟩
  · refine thnF (T.done Y rfl rfl rfl hY i pins s1 τ G1 (fun _ _ => False) I1 (fun b hb => hfp b G1 hb (nf1 b hb)) st1 hstop) fun r s2 z => ?_
    obtain ⟨z1, z2⟩ := z
    subst z1
    exact wpAny_pure (fin s2 z2)
  · refine thnF (T.item Y rfl rfl rfl hY i pins s1 τ G1 (fun _ _ => False) I1 (fun b hb => hfp b G1 hb (nf1 b hb)) st1 hgo) fun r s2 z => ?_
    obtain ⟨u, z1, z2⟩ := z
    subst z1
    refine wpAny_bind (thnF z2 fun _ s3 y => ?_)
    obtain ⟨x, G3, I3, rx, yl, st3, nf3⟩ := y
    have I3p := I3.pinned (fun b hb => hfp b G3 hb (nf3 b hb)) (T.obj _ _ st3)
    refine wpAny_bind (thnF (step x G3 yl _ s3 u I3p rx) fun _ s4 y => ?_)
    obtain ⟨τ4, G4, I4, kn, m', lt, mm'⟩ := y
    have held : ∀ b ∈ fp, ∀ o, s3.heap.get? b = some o → s4.heap.get? b = some o ∧ G4 b = none := by
      intro b hb o e
      have q := I4.pin (b, o) (List.mem_append_right _ (List.mem_append_right _ (mem_pinsAt hb e)))
      exact ⟨q.1, q.2.1⟩
    refine wpAny_pure ⟨rfl, m', lt, i + 1, G4, I4.unpinned.weak kn.1 kn.2, T.keep _ _ _ st3 fun b hb o e => (held b hb o e).1, fun b hb => ?_, mm'⟩
    obtain ⟨o, e, _⟩ := T.obj _ _ st3 b hb
    exact (held b hb o e).2
/-- into a comprehension's block and out of it -/
theorem blk_enter {X : Cx} {pins : List (Addr × Obj)} {s : Shared} {σ : St} {H : Hp} {Q : VK} {node tg iter : Expr} {ifs : List Expr} {gs : List Comprehension} {scope : Scope} {own : List (Str × Nat)} {pos' : Pos} {wi : TI} {new : Sem Value} {o0 : Obj} {O : Addr → HO}
    (L : It → Addr → Hp → Prop) (hcl : clausesOf node = ⟨tg, iter, ifs, 0⟩ :: gs) (hN : X.N.Nodup) (I : Inv X pins σ H s) (hi : PI X tg iter wi) (ok : BlkOk X.N X.env.scope scope own) (hs : ∀ x, foldedSetIterable iter X.env x = pure x)
    (hnew : ∀ (s : Shared) (E Q : Value → Shared → Prop), Q (.ref s.heap.objs.size) { s with heap := s.heap.push o0 } → wpAny (model X.prog X.w) X.A new Q E s)
    (hO : ∀ (h : Heap) (G : Hp), sysModules < h.objs.size → ObjOk X.prog X.w G (h.push o0) h.objs.size (O h.objs.size))
    (hst : ∀ (it acc : Value) (env : Env) (R : Result → Shared → Prop) (s : Shared), codeAny (model X.prog X.w) X.A (.compLoop node 0 it acc env) R s →
      wpAny (model X.prog X.w) X.A (pyIter it) (fun it' s' => codeAny (model X.prog X.w) X.A (.compLoop node 0 it' acc env) R s') (notedBy (model X.prog X.w) X.A env fun x s' => R (.error x) s') s → codeAny (model X.prog X.w) X.A (.compStart node 0 it acc env) R s)
    (h : wi σ H fun Jt H1 => ∀ D, H1 D = none → L Jt D (upd H1 D (O D)))
    (loop : ∀ (s3 : Shared) (H3 : Hp) (C : Addr) (cl : List (Str × Addr)) (fp : List Addr) (it D : Addr) (tn : Nat → Heap → Prop) (Jt : It) (s4 : Shared) (R : Result → Shared → Prop), L Jt D H3 → Inv (X.blk s3 H3 scope (compEnvC scope cl C X.env) fp) [] (wipe σ (own.map (·.2))) H3 s4 →
      Turn X.prog X.w X.K tg Jt fp it tn → tn 0 s4.heap → (∀ b ∈ fp, H3 b = none) → (∀ (b : Addr) (G : Hp), b ∈ fp → G b = none → FpOk (X.blk s3 H3 scope (compEnvC scope cl C X.env) fp) [] G b) →
      (∀ G s', Inv (X.blk s3 H3 scope (compEnvC scope cl C X.env) fp) [] (wipe σ (own.map (·.2))) G s' → Q (.ref D) G → R (.ok .next) s') →
      codeAny (model X.prog X.w) X.A (.compLoop node 0 (.ref it) (.ref D) (compEnvC scope cl C X.env)) R s4) :
    wpAny (model X.prog X.w) X.A (comprehension node scope X.env pos' new false (eval iter X.env) none) (EP X pins σ Q) X.xe s := by
  have hfree : ∀ y ∈ scope.names, y.2 = .free → ∃ c, X.env.cells.lookup y.1 = some c := by
    intro y hy e
    exact (ok.free y hy e).elim (fun k => I.ok.has _ (.inl k)) (fun k => I.ok.has _ (.inr k))
  refine wpAny_comprehension_free (use := none) hcl hs (closure_ok hfree) ok.kind (by intro y hy e; rw [ok.uniq y hy, e]) (thn (hi.run pins s σ H _ I h) fun xv s1 hx => thn hx fun itv s2 h2 => ?_)
  obtain ⟨it, fp, tn, Jt, H2, e, I2, T, st2, f2, lp⟩ := h2
  subst e
  refine hnew s2 _ _ (newEnv_comp ?_)
  have nD : H2 s2.heap.objs.size = none := I2.hok.fresh (Nat.le_refl _)
  have lp' := lp s2.heap.objs.size nD
  have I3 : Inv X pins σ (upd H2 s2.heap.objs.size (O s2.heap.objs.size)) { s2 with heap := s2.heap.push o0 } :=
    I2.laid (t' := s2.toks) (fun b o e => Heap.get?_push_of_some _ e) (Nat.le_refl _) (hO _ _ I2.big)
  have old : ∀ b ∈ fp, b < s2.heap.objs.size := by
    intro b hb
    obtain ⟨o, e, _⟩ := T.obj _ _ st2 b hb
    exact Heap.lt_size e
  have f3 : ∀ b ∈ fp, FpOk X pins (upd H2 s2.heap.objs.size (O s2.heap.objs.size)) b ∧ b < (s2.heap.push o0).objs.size := by
    intro b hb
    refine ⟨⟨?_, (f2 b hb).2⟩, by rw [Heap.size_push]; exact Nat.lt_succ_of_lt (old b hb)⟩
    rw [upd_ne (Nat.ne_of_lt (old b hb))]
    exact (f2 b hb).1
  have st3 : tn 0 (s2.heap.push o0) := T.keep _ _ _ st2 fun b _ o e => Heap.get?_push_of_some _ e
  have I4 := block_start I3 ok hN f3
  generalize hH3 : upd H2 s2.heap.objs.size (O s2.heap.objs.size) = H3 at I3 I4 f3 lp'
  have f3' : ∀ b ∈ fp, FpOk X pins H3 b ∧ b < ({ s2 with heap := s2.heap.push o0 } : Shared).heap.objs.size := f3
  have st3' : tn 0 ({ s2 with heap := s2.heap.push o0 } : Shared).heap := st3
  generalize ({ s2 with heap := s2.heap.push o0 } : Shared) = s3 at I3 I4 f3' st3' ⊢
  generalize s2.heap.objs.size = D at lp' ⊢
  clear f3 st3 nD hH3
  have st4 : tn 0 (pushCells (s3.heap.push { cls := .type "dict", data := .dict #[] }) scope.names) := T.keep _ _ _ st3' fun b _ o e => pushCells_keeps _ _ _ _ (Heap.get?_push_of_some _ e)
  have nfp : ∀ b ∈ fp, H3 b = none := fun b hb => (f3' b hb).1.1
  have stat : ∀ (b : Addr) (G : Hp), b ∈ fp → G b = none → FpOk (X.blk s3 H3 scope (compEnvC scope (cellsFrom (s3.heap.objs.size + 1) scope.names (cloFrom X.env.cells scope.names [])) s3.heap.objs.size X.env) fp) [] G b := by
    intro b G hb gn
    refine ⟨gn, (I4.ok.exf b hb).1, I4.ok.exfs b hb, .inl hb, fun x c e => (I4.ok.exf b hb).2 x c e, fun p hp => ?_⟩
    cases (show p ∈ ([] : List (Addr × Obj)) ++ [] from hp)
  have go := loop s3 H3 s3.heap.objs.size (cellsFrom (s3.heap.objs.size + 1) scope.names (cloFrom X.env.cells scope.names [])) fp it D tn Jt _ (compPost (model X.prog X.w) X.A X.xe none (EP X pins σ Q) (.ref D) s3.heap.objs.size) lp' I4 T st4 nfp stat fun G s' I5 q => ?_
  · exact hst _ _ _ _ _ go (T.self X.A 0 _ _ _ st4 go)
  · have cL : (X.blk s3 H3 scope (compEnvC scope (cellsFrom (s3.heap.objs.size + 1) scope.names (cloFrom X.env.cells scope.names [])) s3.heap.objs.size X.env) fp).env.locals = s3.heap.objs.size := rfl
    have I6 : Inv X pins σ G s' := I3.call' (ch := fp) I5.os I5.base I5.hok I5.bare fun b hb => by
      obtain ⟨-, q1, q2, q3, q4, q5⟩ := (f3' b hb).1
      exact ⟨q3, q1, q4, q5⟩
    have nC : G s3.heap.objs.size = none := by
      rw [← cL]; exact I5.free
    obtain ⟨m, hn, _⟩ := I5.loc
    rw [cL] at hn
    obtain ⟨q0, q1, q2, q3, q4, q5⟩ := I3.fpOk (H' := G) (Nat.le_refl _) nC
    exact ⟨m, hn, fun h' sb => ⟨.ref D, G, I6.turned (t' := s'.toks) (fun b o hb e => (sb.2 b hb).trans e) q0 q1 q3 q4 q5, rfl, q⟩⟩
end J
namespace J
open PySem L2
open PyProof.Rows (envOfC)
/-! an accumulator that grows by turns -/
/-- D is nobody's -/
structure Dz (g : Gh) (D : Addr) : Prop where
  nf : ¬ g.fz D
  ni : D ∉ g.io
  nk : ¬ g.kp D
def accGo {α : Type} (b : VV → VSt → Option VSt) (stp : VSt → VH → α → Res α) (ρ : VSt) : List VV → VH → α → Res α
  | [], h, a => .ok a h
  | x :: xs, h, a => match b x ρ with
    | none => .no
    | some ρ' => (stp ρ' h a).bind fun a' h' => accGo b stp ρ xs h' a'
/-- what a turn's inner part does to the accumulator at D -/
def StepOk {α : Type} (Y : Cx) (τ : St) (inner : Sem Unit) (D : Addr) (Ra : Gh → Hp → α → HO → Prop) (stp : VSt → VH → α → Res α) : Prop :=
  ∀ (ps : List (Addr × Obj)) (s : Shared) (σ : St) (H : Hp) (g : Gh) (ρ : VSt) (h : VH) (a a' : α) (h' : VH), Inv Y ps σ H s → Knows τ σ → RH (ct Y) g h H → RS (ct Y) g H ρ σ → Dz g D → (∃ o, H D = some o ∧ Ra g H a o) → stp ρ h a = .ok a' h' →
    wpAny (model Y.prog Y.w) Y.A inner (fun _ s' => ∃ σ' H' g', Inv Y ps σ' H' s' ∧ Knows τ σ' ∧ Stp g H g' H' ∧ RH (ct Y) g' h' H' ∧ Dz g' D ∧ ∃ o, H' D = some o ∧ Ra g' H' a' o) (fun _ _ => False) s
theorem acc_loop {α : Type} {Y : Cx} {node tg : Expr} {k : Nat} {it D : Addr} {ce : Env} {p : Pos} {inner : Sem Unit} {Jt : It} {fp : List Addr} {tn : Nat → Heap → Prop} {pins : List (Addr × Obj)} {τ : St} {R : Result → Shared → Prop} {s : Shared} {H : Hp} {Ra : Gh → Hp → α → HO → Prop} {stp : VSt → VH → α → Res α}
    {b : VV → VSt → Option VSt} {tgT : TG} {own : List Nat} {g : Gh} {h h' : VH} {a a' : α} {xs : List VV} {ρ : VSt}
    (hY : Y.calm = true) (hxe : ∀ e s, Y.xe e s → False) (he : Y.env = ce) (T : Turn Y.prog Y.w Y.K tg Jt fp it tn) (hct : compTurn node k (.ref it) (.ref D) ce = (do
      standAt p
      match ← pyNext (.ref it) with
      | none => pure (.done .next)
      | some v =>
        letOwnedTupleGo tg (.ref it) v
        (do assign tg ce v; inner)
        again (.compLoop node k (.ref it) (.ref D) ce)))
    (hq : (Code.compLoop node k (.ref it) (.ref D) ce).quiet = true) (hden : (model Y.prog Y.w).den (.compLoop node k (.ref it) (.ref D) ce) = (compTurn node k (.ref it) (.ref D) ce).onRaise (fun x => do noteFrame x ce; theTreesLotGoes x))
    (hund : Y.A.under (.compLoop node k (.ref it) (.ref D) ce) = Y.A)
    (pg : PG Y tg tgT) (pat : PatOk Y.K tgT b own) (hown : ∀ i ∈ own, ∀ v, τ[i]? ≠ some (some v)) (ok : StepOk Y τ inner D Ra stp)
    (hRa : ∀ g H g' H' a o, Stp g H g' H' → Ra g H a o → Ra g' H' a o)
    (I : Inv Y pins τ H s) (st : tn 0 s.heap) (hfp : ∀ (b : Addr) (G' : Hp), b ∈ fp → G' b = none → FpOk Y pins G' b) (nf : ∀ b ∈ fp, H b = none)
    (rh : RH (ct Y) g h H) (rs : RS (ct Y) g H ρ τ) (dz : Dz g D) (hD : ∃ o, H D = some o ∧ Ra g H a o) (dl : Deliv (ct Y) g H xs Jt) (res : accGo b stp ρ xs h a = .ok a' h')
    (fin : ∀ G' s' g', Inv Y pins τ G' s' → Stp g H g' G' → RH (ct Y) g' h' G' → Dz g' D → (∃ o, G' D = some o ∧ Ra g' G' a' o) → R (.ok .next) s')
    (hRt : ∀ g H a o, Ra g H a o → ∀ ps, o ≠ .tbl ps := by rintro g H a o ⟨_, rfl, _⟩ ps z; first | cases z | (unfold SetO at z; cases z)) :
    codeAny (model Y.prog Y.w) Y.A (.compLoop node k (.ref it) (.ref D) ce) R s := by
  subst he
  refine own_loop (m0 := xs.length) (body := fun v => do assign tg Y.env v; inner) (fun i m G => m = xs.length - i ∧ i ≤ xs.length ∧ ∃ gi hi ai, Stp g H gi G ∧ RH (ct Y) gi hi G ∧ Dz gi D ∧ (∃ o, G D = some o ∧ Ra gi G ai o) ∧ accGo b stp ρ (xs.drop i) hi ai = .ok a' h') hY T hct hq hden hund I st hfp nf ⟨by simp, Nat.zero_le _, g, h, a, .refl, rh, dz, hD, by rw [List.drop_zero]; exact res⟩ ?_
  rintro i m G1 ⟨rfl, hi, gi, hh, ai, sti, rhi, dzi, ⟨oi, hDi, rai⟩, resi⟩
  by_cases hlt : i < xs.length
  · refine .inr ⟨dl.go gi G1 sti.f i hlt, fun x G2 yl ps s2 u I2 rx => ?_⟩
    have ed : xs.drop i = xs[i] :: xs.drop (i + 1) := List.drop_eq_getElem_cons hlt
    rw [ed] at resi
    unfold accGo at resi
    -- D stays while the iterator yields
    have rhk : RH (ct Y) (gi.keep D) hh G1 := rhi.keep hDi dzi.nf dzi.ni (hRt _ _ _ _ rai)
    obtain ⟨g1, st1, rh1, rt1⟩ := dl.yld (gi.keep D) G1 (sti.trans .keep).f i xs[i] hh (List.getElem?_eq_getElem hlt) rhk x G2 yl
    have kD : g1.kp D := st1.kp D (.inr rfl)
    have hD2 : G2 D = G1 D := st1.kH D (.inr rfl)
    have st1b : Stp gi G1 (g1.back gi.kp) G2 := st1.back
    have rh1b : RH (ct Y) (g1.back gi.kp) hh G2 := rh1.back fun q z => st1.kp q (.inl z)
    have dz1 : Dz (g1.back gi.kp) D := ⟨(rh1.kd D kD).1, (rh1.kd D kD).2, dzi.nk⟩
    have rs1 : RS (ct Y) (g1.back gi.kp) G2 ρ τ := (rs.stp sti).stp st1b
    have rt1b : RT (ct Y) (g1.back gi.kp) G2 xs[i] x := rt1.back rfl rfl
    cases eb : b xs[i] ρ with
    | none => rw [eb] at resi; cases resi
    | some ρ' =>
      rw [eb] at resi
      simp only at resi
      cases es : stp ρ' hh ai with
      | no => rw [es] at resi; cases resi
      | exc _ _ _ _ => rw [es] at resi; cases resi
      | ok a2 h2 =>
        rw [es] at resi
        simp only [Res.bind] at resi
        have tgt := pat.run (ct Y) (g1.back gi.kp) hh G2 ρ τ xs[i] x ρ' rfl rh1b rs1 rt1b eb (fun σ' G' => G' = G2 ∧ RS (ct Y) (g1.back gi.kp) G2 ρ' σ' ∧ (∀ j, j ∉ own → σ'[j]? = τ[j]?) ∧ σ'.length = τ.length) fun σ' r o l => ⟨rfl, r, o, l⟩
        refine wpAny_bind (wpAny_mono (pg.run ps s2 τ G2 x u _ I2 rx tgt) (fun _ s3 z => ?_) fun e s z => (hxe e s z).elim)
        obtain ⟨σ3, G3, I3, eG, rs3, o3, l3⟩ := z
        subst eG
        have kn : Knows τ σ3 := ⟨l3.symm, fun j v e => by
          by_cases hj : j ∈ own
          · exact absurd e (hown j hj v)
          · rw [o3 j hj]; exact e⟩
        refine wpAny_mono (ok ps s3 σ3 G3 (g1.back gi.kp) ρ' hh ai a2 h2 I3 kn rh1b rs3 dz1 ⟨oi, hD2.trans hDi, hRa _ _ _ _ _ _ st1b rai⟩ es) (fun _ s4 z => ?_) fun _ _ z => z
        obtain ⟨σ4, G4, g4, I4, kn4, st4, rh4, dz4, hD4⟩ := z
        exact ⟨σ4, G4, I4, kn4, xs.length - (i + 1), by omega, rfl, hlt, g4, h2, a2, (sti.trans st1b).trans st4, rh4, dz4, hD4, resi⟩
  · have e : i = xs.length := by omega
    subst e
    rw [List.drop_length] at resi
    unfold accGo at resi
    cases resi
    exact .inl ⟨dl.stop gi G1 sti.f _ (Nat.le_refl _), fun s' I' => fin G1 s' gi I' sti rhi dzi ⟨oi, hDi, rai⟩⟩
end J
namespace J
open PySem L2
open PyProof.Rows (envOfC)
open PpSet (compTurn_set)
theorem ev_keep {Y : Cx} {e : Expr} {f : EF} {ps : List (Addr × Obj)} {s : Shared} {σ : St} {H : Hp} {g : Gh} {ρ : VSt} {h h1 : VH} {D : Addr} {o : HO} {v : VV} (hxe : ∀ e s, Y.xe e s → False) (pe : PE Y e (tE (ct Y) W0 f)) (I : Inv Y ps σ H s) (rh : RH (ct Y) g h H) (rs : RS (ct Y) g H ρ σ) (dz : Dz g D) (hD : H D = some o) (er : f ρ h = .ok v h1) (nt : ∀ ps, o ≠ .tbl ps := by intro _ z; subst_vars; first | cases z | (unfold SetO at z; cases z)) :
    wpAny (model Y.prog Y.w) Y.A (eval e Y.env) (fun u s' => ∃ H' g' x, Inv Y ps σ H' s' ∧ RelV x u ∧ Stp g H g' H' ∧ RH (ct Y) g' h1 H' ∧ RT (ct Y) g' H' v x ∧ Dz g' D ∧ H' D = some o) (fun _ _ => False) s := by
  refine wpAny_mono (pe.run ps s σ H (fun x H' => ∃ g', Stp g H g' H' ∧ RH (ct Y) g' h1 H' ∧ RT (ct Y) g' H' v x ∧ Dz g' D ∧ H' D = some o) I ⟨g.keep D, ρ, h, rh.keep hD dz.nf dz.ni nt, rs.stp .keep, ?_⟩) (fun u s' ⟨x, H', I', rx, g', a1, a2, a3, a4, a5⟩ => ⟨H', g', x, I', rx, a1, a2, a3, a4, a5⟩) fun e s z => (hxe e s z).elim
  rw [er]
  intro g' H' u st rh' rv
  have kD : g'.kp D := st.kp D (.inr rfl)
  exact ⟨g'.back g.kp, st.back, rh'.back fun q z => st.kp q (.inl z), rv.back rfl rfl, ⟨(rh'.kd D kD).1, (rh'.kd D kD).2, dz.nk⟩, (st.kH D (.inr rfl)).trans hD⟩
theorem ct_set (elt target iter : Expr) (scope : Scope) (pos : Pos) (it acc : Value) (env : Env) :
    compTurn (.SetComp elt [⟨target, iter, [], 0⟩] scope pos) 0 it acc env = (do
      standAt iter.pos
      match ← pyNext it with
      | none => pure (.done .next)
      | some v =>
        letOwnedTupleGo target it v
        (do assign target env v; (do let v ← eval elt env; standAt elt.pos; let _ ← call (.builtin "set.add") [acc, v]))
        again (.compLoop (.SetComp elt [⟨target, iter, [], 0⟩] scope pos) 0 it acc env)) := by
  rw [compTurn_set]
  simp only [List.forIn_nil, pure_bind, bind_assoc, if_true]
  rfl
theorem ct_dict_out (kx vx t0 i0 t1 i1 : Expr) (scope : Scope) (pos : Pos) (it acc : Value) (env : Env) :
    compTurn (.DictComp kx vx [⟨t0, i0, [], 0⟩, ⟨t1, i1, [], 0⟩] scope pos) 0 it acc env = (do
      standAt i0.pos
      match ← pyNext it with
      | none => pure (.done .next)
      | some v =>
        letOwnedTupleGo t0 it v
        (do assign t0 env v; (do let x ← eval i1 env; standAt i1.pos; let x ← foldedSetIterable i1 env x; let _ ← runOwn (.compStart (.DictComp kx vx [⟨t0, i0, [], 0⟩, ⟨t1, i1, [], 0⟩] scope pos) 1 (← holding [x] (pyIter x)) acc env) env))
        again (.compLoop (.DictComp kx vx [⟨t0, i0, [], 0⟩, ⟨t1, i1, [], 0⟩] scope pos) 0 it acc env)) := by
  unfold compTurn
  simp only [List.forIn_nil, pure_bind, bind_assoc, if_true]
  rfl
theorem ct_dict_in (kx vx t0 i0 t1 i1 : Expr) (scope : Scope) (pos : Pos) (it : Value) (D : Addr) (env : Env) :
    compTurn (.DictComp kx vx [⟨t0, i0, [], 0⟩, ⟨t1, i1, [], 0⟩] scope pos) 1 it (.ref D) env = (do
      standAt i1.pos
      match ← pyNext it with
      | none => pure (.done .next)
      | some v =>
        letOwnedTupleGo t1 it v
        (do assign t1 env v; (do let kv ← eval kx env; let vv ← holding [kv] (eval vx env); standAt { kx.pos with endLine := vx.pos.endLine, endCol := vx.pos.endCol }; holding [kv, vv] (dictSet D kv vv)))
        again (.compLoop (.DictComp kx vx [⟨t0, i0, [], 0⟩, ⟨t1, i1, [], 0⟩] scope pos) 1 it (.ref D) env)) := by
  unfold compTurn
  simp only [List.forIn_nil, pure_bind, bind_assoc, if_true]
  rfl
theorem cs_dict_in {prog : Program} {w : World} {A : Around} {R : Result → Shared → Prop} {s : Shared} {kx vx t0 i0 t1 i1 : Expr} {scope : Scope} {pos : Pos} {it acc : Value} {env : Env}
    (h0 : codeAny (model prog w) A (.compLoop (.DictComp kx vx [⟨t0, i0, [], 0⟩, ⟨t1, i1, [], 0⟩] scope pos) 1 it acc env) R s)
    (h : wpAny (model prog w) A (pyIter it) (fun it' s' => codeAny (model prog w) A (.compLoop (.DictComp kx vx [⟨t0, i0, [], 0⟩, ⟨t1, i1, [], 0⟩] scope pos) 1 it' acc env) R s') (notedBy (model prog w) A env fun x s' => R (.error x) s') s) :
    codeAny (model prog w) A (.compStart (.DictComp kx vx [⟨t0, i0, [], 0⟩, ⟨t1, i1, [], 0⟩] scope pos) 1 it acc env) R s := by
  apply codeAny_of_tree
  show wpAny _ _ ((compStart (.DictComp kx vx [⟨t0, i0, [], 0⟩, ⟨t1, i1, [], 0⟩] scope pos) 1 it acc env).onRaise (fun x => do noteFrame x env; standAt theWindowsPlace)) _ _ s
  apply wpAny_notedAt
  unfold compStart
  show wpAny _ _ (ask >>= _) _ _ s
  apply wpAny_bind
  apply wpAny_askSetting
  apply wpAny_ite
  split
  · first
      | exact wpAny_pure ⟨rfl, h0⟩
      | exact wpAny_bind (wpAny_pure (wpAny_pure ⟨rfl, h0⟩))
  · apply wpAny_bind
    apply wpAny_rule
    first
      | (apply wpAny_bind; apply wpAny_standAt; apply wpAny_bind; exact wpAny_mono h (fun it' s' q => wpAny_pure ⟨rfl, q⟩) fun _ _ q => q)
      | (show wpAny _ _ (standAt i1.pos >>= _) _ _ s; apply wpAny_bind; apply wpAny_standAt; apply wpAny_bind; exact wpAny_mono h (fun it' s' q => wpAny_pure ⟨rfl, q⟩) fun _ _ q => q)
def noX {α : Type} : Res α → Res α
  | .ok a h => .ok a h
  | _ => .no
/-- a comprehension whose accumulator is any one thing -/
theorem acc_PE {α : Type} {X : Cx} {W : WX} {node tg iter : Expr} {gs : List Comprehension} {scope : Scope} {own : List (Str × Nat)} {pos' p : Pos} {new : Sem Value} {o0 : Obj} {O : Addr → HO} {Ra : Addr → Gh → Hp → α → HO → Prop} {stp : VSt → VH → α → Res α} {b : VV → VSt → Option VSt} {tgT : TG} {it : AF} {a0 : α} {inner : Addr → Env → Sem Unit} {own1 : List Nat}
    (heval : eval node X.env = comprehension node scope X.env pos' new false (eval iter X.env) none)
    (hcl : clausesOf node = ⟨tg, iter, [], 0⟩ :: gs) (hc : X.calm = true) (hN : X.N.Nodup) (hi : PI X tg iter (tI (ct X) W it)) (ok : BlkOk X.N X.env.scope scope own) (hs : ∀ x, foldedSetIterable iter X.env x = pure x)
    (hnew : ∀ (s : Shared) (E Q : Value → Shared → Prop), Q (.ref s.heap.objs.size) { s with heap := s.heap.push o0 } → wpAny (model X.prog X.w) X.A new Q E s)
    (hO : ∀ (h : Heap) (G : Hp), sysModules < h.objs.size → ObjOk X.prog X.w G (h.push o0) h.objs.size (O h.objs.size))
    (hst : ∀ (it acc : Value) (env : Env) (R : Result → Shared → Prop) (s : Shared), codeAny (model X.prog X.w) X.A (.compLoop node 0 it acc env) R s →
      wpAny (model X.prog X.w) X.A (pyIter it) (fun it' s' => codeAny (model X.prog X.w) X.A (.compLoop node 0 it' acc env) R s') (notedBy (model X.prog X.w) X.A env fun x s' => R (.error x) s') s → codeAny (model X.prog X.w) X.A (.compStart node 0 it acc env) R s)
    (hct : ∀ (it D : Addr) (ce : Env), compTurn node 0 (.ref it) (.ref D) ce = (do
      standAt p
      match ← pyNext (.ref it) with
      | none => pure (.done .next)
      | some v =>
        letOwnedTupleGo tg (.ref it) v
        (do assign tg ce v; inner D ce)
        again (.compLoop node 0 (.ref it) (.ref D) ce)))
    (hq : ∀ (it D : Addr) (ce : Env), (Code.compLoop node 0 (.ref it) (.ref D) ce).quiet = true)
    (hden : ∀ (it D : Addr) (ce : Env), (model X.prog X.w).den (.compLoop node 0 (.ref it) (.ref D) ce) = (compTurn node 0 (.ref it) (.ref D) ce).onRaise (fun x => do noteFrame x ce; theTreesLotGoes x))
    (hund : ∀ (it D : Addr) (ce : Env), X.A.under (.compLoop node 0 (.ref it) (.ref D) ce) = X.A)
    (hg : ∀ (s : Shared) (H : Hp) (C : Addr) (cl : List (Str × Addr)) (fp : List Addr), PG (X.blk s H scope (compEnvC scope cl C X.env) fp) tg tgT) (pat : PatOk X.K tgT b own1) (hown1 : ∀ i ∈ own1, i ∈ own.map (·.2))
    (hRa : ∀ D g H g' H' a o, Stp g H g' H' → Ra D g H a o → Ra D g' H' a o) (hR0 : ∀ D g H, Ra D g H a0 (O D))
    (hok : ∀ (s : Shared) (H : Hp) (C : Addr) (cl : List (Str × Addr)) (fp : List Addr) (D : Addr) (τ : St), (∀ i ∈ own.map (·.2), ∀ v, τ[i]? ≠ some (some v)) → StepOk (X.blk s H scope (compEnvC scope cl C X.env) fp) τ (inner D (compEnvC scope cl C X.env)) D (Ra D) stp)
    (hRt : ∀ D g H a o, Ra D g H a o → ∀ ps, o ≠ .tbl ps := by rintro D g H a o ⟨_, rfl, _⟩ ps z; first | cases z | (unfold SetO at z; cases z)) :
    PE X node (tG (ct X) W (fun g H a u => ∃ D o, u = .ref D ∧ Dz g D ∧ H D = some o ∧ Ra D g H a o) (fun ρ h => (it ρ h).bind fun xs h1 => noX (accGo b stp (wp ρ (own.map (·.2))) xs h1 a0))) := by
  refine ⟨fun pins s σ H Q I h => ?_⟩
  rw [heval]
  refine blk_enter (O := O) (Q := Q) (fun Jt D H3 => ∃ g1 ρ1 xs h1, RH (ct X) g1 h1 H3 ∧ RS (ct X) g1 H3 ρ1 σ ∧ Deliv (ct X) g1 H3 xs Jt ∧ Dz g1 D ∧ (∃ o, H3 D = some o ∧ Ra D g1 H3 a0 o) ∧
    Pst (ct X) W σ (fun g H a u => ∃ D o, u = .ref D ∧ Dz g D ∧ H D = some o ∧ Ra D g H a o) g1 H3 Q (noX (accGo b stp (wp ρ1 (own.map (·.2))) xs h1 a0))) hcl hN I hi ok hs hnew hO hst ?_ ?_
  · obtain ⟨g, ρ, h0, rh, rs, pp⟩ := tG.bind (R := fun g H xs J => Deliv (ct X) g H xs J) (f := it) (k := fun (xs : List VV) ρ h1 => noX (accGo b stp (wp ρ (own.map (·.2))) xs h1 a0)) h
    refine ⟨g, ρ, h0, rh, rs, pp.imp fun Jt H1 ⟨g1, ρ1, xs, h1, rh1, rs1, dl, p1⟩ D hD => ?_⟩
    have st : Stp g1 H1 g1 (upd H1 D (O D)) := .junk rh1 hD
    refine ⟨g1, ρ1, xs, h1, rh1.junk hD, rs1.stp st, ⟨fun g' H' f => dl.go g' H' (st.f.trans f), fun g' H' f => dl.stop g' H' (st.f.trans f), fun g' H' f => dl.yld g' H' (st.f.trans f)⟩, ⟨fun z => ?_, fun z => ?_, fun z => ?_⟩, ⟨_, upd_same, hR0 D g1 _⟩, Pst.step st p1⟩
    · obtain ⟨o, e⟩ := rh1.fz D z; rw [hD] at e; cases e
    · obtain ⟨o, e⟩ := rh1.root z; rw [hD] at e; cases e
    · obtain ⟨o, e⟩ := rh1.kp D z; rw [hD] at e; cases e
  · rintro s3 H3 C cl fp itA D tn Jt s4 R ⟨g1, ρ1, xs, h1, rh1, rs1, dl, dz, hD, pp⟩ I4 T st4 nfp stat fin
    have wn : ∀ i ∈ own.map (·.2), ∀ v, (wipe σ (own.map (·.2)))[i]? ≠ some (some v) := fun i hi v e => (wipe_some e).2 hi
    cases er : accGo b stp (wp ρ1 (own.map (·.2))) xs h1 a0 with
    | no => rw [er] at pp; exact pp.elim
    | exc _ _ _ _ => rw [er] at pp; exact pp.elim
    | ok a' h' =>
      rw [er] at pp
      refine acc_loop (Y := X.blk s3 H3 scope (compEnvC scope cl C X.env) fp) (ρ := wp ρ1 (own.map (·.2))) (a := a0) hc (fun _ _ z => z) rfl T (hct itA D _) (hq itA D _) (hden itA D _) (hund itA D _) (hg s3 H3 C cl fp) pat (fun i hi => wn i (hown1 i hi)) (hok s3 H3 C cl fp D _ wn) (hRa D) I4 st4 stat nfp rh1 (rs1.wipe _) dz hD dl er ?_ (hRt D)
      intro G' s' g' I' st' rh' dz' ⟨o, e1, e2⟩
      exact fin G' s' I' (pp g' G' (.ref D) st' rh' ⟨D, o, rfl, dz', e1, e2⟩)
end J
namespace J
open PySem L2
open PyProof.Rows (envOfC)
theorem RH.wrD {c : Ct} {g : Gh} {h : VH} {H : Hp} {D : Addr} {O : HO} (rh : RH c g h H) (dz : Dz g D) (nt : ∀ us, H D ≠ some (.tup us)) (nb : NoTab D (H D)) : RH c g h (upd H D O) := by
  have stw : Stp g H g (upd H D O) := Stp.wr (c := c) dz.nf dz.nk nt
  refine ⟨rh.len, rh.nd, fun n o' b q1 q2 => ?_, fun q z => ?_, fun q z => ?_, rh.kd, rh.tb.upd nb, fun q z ps y => rh.nt q z ps (by rw [upd_ne (show q ≠ D from fun e => z.elim (fun z => dz.nf (e ▸ z)) (fun z => dz.nk (e ▸ z)))] at y; exact y)⟩
  · have nb : b ≠ D := fun e => dz.ni (e ▸ List.mem_of_getElem? q2)
    exact RO.stp stw (fun x => x) (upd_ne nb) (rh.at' n o' b q1 q2)
  · rw [upd_ne (show q ≠ D from fun e => dz.nf (e ▸ z))]; exact rh.fz q z
  · rw [upd_ne (show q ≠ D from fun e => dz.nk (e ▸ z))]; exact rh.kp q z
theorem noTab_setO {w : World} {D : Addr} {S : Int → Bool} {n : Nat} : NoTab D (some (SetO w D S n)) := by
  refine ⟨fun _ z => (by unfold SetO at z; cases z), fun q z => ?_⟩
  unfold SetO LamX.CodeO at z
  have e := HO.ext.inj (Option.some.inj z)
  let ob : Obj := { cls := .none, data := .fields #[.none, .str q 0] }
  let h0 : Heap := { objs := Array.replicate (D + 1) ob }
  have g0 : h0.get? D = some ob := by
    show (match (Array.replicate (D + 1) ob)[D]? with | some ⟨_, _, .freed, _⟩ => none | o => o) = some ob
    rw [Array.getElem?_replicate, if_pos (Nat.lt_succ_self D)]
  have k := congrFun e h0
  have y : SetR w h0 D S n := by
    rw [k]
    exact ⟨ob, _, 0, g0, rfl, rfl⟩
  obtain ⟨o, _, _, _, ho, hr⟩ := y
  rw [g0] at ho
  cases ho
  simp [ob] at hr
/-! len({e for x in xs}), ints -/
def stSet (fe : EF) : VSt → VH → List Int → Res (List Int) := fun ρ h a => (fe ρ h).bind fun v h1 => match v with
  | .int i => if a.length ≥ 4000 then .no else .ok (if i ∈ a then a else a ++ [i]) h1
  | _ => .no
def RaSet (w : World) (D : Addr) (_ : Gh) (_ : Hp) (a : List Int) (o : HO) : Prop := ∃ S, o = SetO w D S a.length ∧ ∀ j, S j = decide (j ∈ a)
theorem addI_ok {Y : Cx} {ps : List (Addr × Obj)} {σ : St} {H : Hp} {s : Shared} {E : Value → Shared → Prop} {D : Addr} {S : Int → Bool} {n : Nat} {i : Int} {t : Tok} {Q : Value → Shared → Prop} (I : Inv Y ps σ H s) (hD : H D = some (SetO Y.w D S n)) (room : n + 1 < scanBound)
    (h : ∀ s', Inv Y ps σ (upd H D (SetO Y.w D (fun j => S j || decide (j = i)) (if S i = true then n else n + 1))) s' → Q .none s') : wpAny (model Y.prog Y.w) Y.A (call (.builtin "set.add") [.ref D, .int i t]) Q E s := by
  have R := setO_get I hD
  refine setR_add R room fun h' sb new => h _ ?_
  have he : ∃ u, h'.get? D = some u := by
    obtain ⟨o, _, _, _, ho, _⟩ := new
    exact ⟨o, ho⟩
  exact I.write (e := D) (t' := s.toks + 1) (by rw [hD]; trivial) (.inl rfl) (fun b u hb hu => (sb.2 b hb).trans hu) he (setO_new new)
theorem step_set {Y : Cx} {τ : St} {elt : Expr} {fe : EF} {D : Addr} (hxe : ∀ e s, Y.xe e s → False) (pe : PE Y elt (tE (ct Y) W0 fe)) :
    StepOk Y τ (do let v ← eval elt Y.env; standAt elt.pos; let _ ← call (.builtin "set.add") [.ref D, v]) D (RaSet Y.w D) (stSet fe) := by
  intro ps s σ H g ρ h a a' h' I kn rh rs dz ⟨o, hD, S, eo, hS⟩ es
  unfold stSet at es
  cases ee : fe ρ h with
  | no => rw [ee] at es; cases es
  | exc _ _ _ _ => rw [ee] at es; cases es
  | ok v h1 =>
    rw [ee] at es
    simp only [Res.bind] at es
    split at es
    · rename_i i
      split at es
      · cases es
      · rename_i room
        cases es
        refine wpAny_bind (wpAny_mono (ev_keep hxe pe I rh rs dz hD ee) (fun u s1 z => ?_) fun _ _ z => z)
        obtain ⟨H1, g1, x, I1, rx, st1, rh1, rv1, dz1, hD1⟩ := z
        have ex := int_get rv1
        subst ex
        obtain ⟨t, rfl⟩ := (show ∃ t, u = Value.int i t from rx)
        rw [eo] at hD1
        refine wpAny_bind (wpAny_standAt (wpAny_bind (addI_ok I1 hD1 (show a.length + 1 < 4096 by omega) fun s2 I2 => wpAny_pure ?_)))
        have stw : Stp g1 H1 g1 (upd H1 D (SetO Y.w D (fun j => S j || decide (j = i)) (if S i = true then a.length else a.length + 1))) := Stp.wr (c := ct Y) dz1.nf dz1.nk (fun ys z => by rw [hD1] at z; cases z)
        refine ⟨σ, _, g1, I2, kn, st1.trans stw, ?_, dz1, _, upd_same, (fun j => S j || decide (j = i)), ?_, fun j => ?_⟩
        · exact rh1.wrD dz1 (fun ys z => by rw [hD1] at z; cases z) (by rw [hD1]; exact noTab_setO)
        · have e1 : (if S i = true then a.length else a.length + 1) = (if i ∈ a then a else a ++ [i]).length := by
            rw [hS i]
            by_cases m : i ∈ a
            · simp [m]
            · simp [m]
          rw [e1]
        · show (S j || decide (j = i)) = _
          rw [hS j]
          by_cases m : i ∈ a
          · rw [if_pos m]
            by_cases e : j = i
            · subst e; simp [m]
            · simp [e]
          · rw [if_neg m]
            simp
    · cases es
section
variable {X : Cx} {W : WX}
def rLenSO (w : World) : List V → Hp → VK → Prop := fun xs H Q => ∃ (D : Addr) (S : Int → Bool) (n : Nat), xs = [.ref D] ∧ H D = some (SetO w D S n) ∧ Q (.int n) H
theorem call_lenSO : CallR X (.builtin "len") (rLenSO X.w) := by
  intro pins s σ H xs us Q I r h
  obtain ⟨D, S, n, rfl, hD, q⟩ := h
  obtain ⟨u, rfl, ru⟩ := vals1 r
  cases ru
  obtain ⟨o, es, ep, t, ho, hx, hd, g, nd, hm, hb, hf, hn, _⟩ := setO_get I hD
  subst hn
  have hb' : es.size < 4096 := hb
  exact call_len_set ho hx hd hf (by omega) ⟨.int es.size, H, (I.tok _).tok _, ⟨_, rfl⟩, q⟩
def eLenSc (own : List Nat) (it : AF) (b : VV → VSt → Option VSt) (fe : EF) : EF := fun ρ h => (it ρ h).bind fun xs h1 => (noX (accGo b (stSet fe) (wp ρ own) xs h1 [])).bind fun a h2 => .ok (.int a.length) h2
theorem res_assoc {α β γ : Type} {r : Res α} {k : α → VH → Res β} {m : β → VH → Res γ} : (r.bind k).bind m = r.bind fun a h => (k a h).bind m := by cases r <;> rfl
theorem j_lenSc {elt tg iter : Expr} {scope : Scope} {own : List (Str × Nat)} {p pos cpos : Pos} {it : AF} {tgT : TG} {b : VV → VSt → Option VSt} {fe : EF} (hc : X.calm = true) (hN : X.N.Nodup) (hg : Gl X "len") (hm : X.mg "len" = none) (hi : PI X tg iter (tI (ct X) W it)) (ok : BlkOk X.N X.env.scope scope own)
    (hgt : ∀ (s : Shared) (H : Hp) (C : Addr) (cl : List (Str × Addr)) (fp : List Addr), PG (X.blk s H scope (compEnvC scope cl C X.env) fp) tg tgT) (pat : PatOk X.K tgT b (own.map (·.2)))
    (he : ∀ (s : Shared) (H : Hp) (C : Addr) (cl : List (Str × Addr)) (fp : List Addr), PE (X.blk s H scope (compEnvC scope cl C X.env) fp) elt (tE (ct X) W0 fe)) (hs : ∀ x, foldedSetIterable iter X.env x = pure x := by intro _; rfl)
    (hst1 : starEach [.SetComp elt [⟨tg, iter, [], 0⟩] scope pos] X.env = (false, eval (.SetComp elt [⟨tg, iter, [], 0⟩] scope pos) X.env) :: starEach [] X.env := by rfl) (hpl : (backTo cpos (starEach [] X.env)).any (·.1) = false := by rfl) :
    PE X (.Call (.Name "len" p) [.SetComp elt [⟨tg, iter, [], 0⟩] scope pos] [] cpos) (tE (ct X) W (eLenSc (own.map (·.2)) it b fe)) := by
  have key := acc_PE (X := X) (W := W) (node := .SetComp elt [⟨tg, iter, [], 0⟩] scope pos) (new := newSet (.type "set")) (O := fun D => SetO X.w D (fun _ => false) 0) (Ra := RaSet X.w) (stp := stSet fe) (a0 := []) (p := iter.pos)
    (inner := fun D env => do let v ← eval elt env; standAt elt.pos; let _ ← call (.builtin "set.add") [.ref D, v]) (PpSet.eval_SetComp elt _ scope pos) rfl hc hN hi ok hs (fun s E Q h => PpSet.newSet_ok h) (fun h G hb => setO_new (setR_fresh X.w)) (fun it acc env R s a b => PpSet.codeAny_compStart_set a b)
    (fun it D ce => ct_set elt tg iter scope pos (.ref it) (.ref D) ce) (fun _ _ _ => rfl) (fun _ _ _ => rfl) (fun _ _ _ => rfl) hgt pat (fun i hi => hi) (fun D g H g' H' a o _ h => h) (fun D g H => ⟨_, rfl, fun j => by simp⟩)
    (fun s H C cl fp D τ _ => step_set (Y := X.blk s H scope (compEnvC scope cl C X.env) fp) (fun _ _ z => z) (he s H C cl fp))
  refine PE.mono (pe_callB (call_lenSO (X := X)) hg hm rfl (pa_cons key pa_nil hst1) (by decide) (by decide) hst1 hpl) fun σ H Q h => ?_
  have h2 := tG.bind (R := fun g H (a : List Int) u => ∃ D o, u = V.ref D ∧ Dz g D ∧ H D = some o ∧ RaSet X.w D g H a o) (f := fun ρ h => (it ρ h).bind fun xs h1 => noX (accGo b (stSet fe) (wp ρ (own.map (·.2))) xs h1 [])) (k := fun (a : List Int) ρ h2 => .ok (VV.int a.length) h2) (R' := RT (ct X)) (W := W) (Q := Q) (by
    obtain ⟨g, ρ, h0, rh, rs, pp⟩ := h
    refine ⟨g, ρ, h0, rh, rs, ?_⟩
    unfold eLenSc at pp
    show Pst (ct X) W σ (RT (ct X)) g H Q (((it ρ h0).bind fun xs h1 => noX (accGo b (stSet fe) (wp ρ (own.map (·.2))) xs h1 [])).bind fun a h2 => .ok (VV.int a.length) h2)
    rw [res_assoc]
    exact pp)
  obtain ⟨g, ρ, h0, rh, rs, pp⟩ := h2
  refine ⟨g, ρ, h0, rh, rs, pp.imp fun u H1 ⟨g1, ρ1, a, h1, rh1, rs1, ⟨D, o, eu, dz, hD, S, eo, _⟩, p1⟩ => ?_⟩
  subst eu eo
  exact ⟨D, S, a.length, rfl, hD, p1 g1 H1 (.int a.length) .refl rh1 rt_int⟩
end
end J
namespace J
open PySem L2
open PyProof.Rows (envOfC)
/-! dicts whose keys are tuples -/
def keyA : VV → Option Key
  | .int i => some (.inl i)
  | .str x => some (.inr x)
  | _ => none
def keyL : List VV → Option (List Key)
  | [] => some []
  | x :: xs => (keyA x).bind fun a => (keyL xs).map fun r => a :: r
def keyV : VV → Option (List Key)
  | .tup xs => keyL xs
  | _ => none
theorem keyL_vals {c : Ct} {z : Addr → Prop} {H : Hp} : ∀ {xs : List VV} {us : List V} {k : List Key}, RVs c z H xs us → keyL xs = some k → us = k.map kV
  | [], us, k, r, e => by
    cases e
    rw [RVs] at r
    rw [r]; rfl
  | x :: xs, us, k, r, e => by
    rw [RVs] at r
    obtain ⟨u, q, rfl, a, b⟩ := r
    unfold keyL at e
    obtain ⟨y, e1, e2⟩ := Option.bind_eq_some_iff.mp e
    obtain ⟨l, e3, e4⟩ := Option.map_eq_some_iff.mp e2
    subst e4
    rw [keyL_vals b e3, List.map_cons]
    congr 1
    cases x with
    | int i => cases e1; rw [RV] at a; exact a
    | str i => cases e1; rw [RV] at a; exact a
    | _ => cases e1
theorem keyV_at {c : Ct} {g : Gh} {H : Hp} {v : VV} {u : V} {k : List Key} (r : RT c g H v u) (e : keyV v = some k) : ∃ b, u = .ref b ∧ H b = some (.tup (k.map kV)) := by
  cases v with
  | tup xs =>
    obtain ⟨p, us, rfl, ta, rs⟩ := tup_get r
    refine ⟨p, rfl, ?_⟩
    rw [← keyL_vals rs e]
    exact ta
  | _ => cases e
def hasK (ks : List (List Key)) (k : List Key) : Bool := ks.any fun x => decide (x = k)
/-- in its place, or at the end -/
def putVs {α : Type} (ks : List (List Key)) (vs : List α) (k : List Key) (v : α) : List α := if hasK ks k = true then (ks.zip vs).map (fun p => if p.1 = k then v else p.2) else vs ++ [v]
def putKs (ks : List (List Key)) (k : List Key) : List (List Key) := if hasK ks k = true then ks else ks ++ [k]
theorem zip_any {ks : List (List Key)} {us : List V} (hl : ks.length = us.length) (k : List Key) : ((ks.zip us).any fun kv => decide (kv.1 = k)) = hasK ks k := by
  unfold hasK
  induction ks generalizing us with
  | nil => simp
  | cons x xs ih =>
    cases us with
    | nil => cases hl
    | cons u us =>
      simp only [List.zip_cons_cons, List.any_cons, ih (Nat.succ.inj hl)]
theorem zip_put {ks : List (List Key)} {us : List V} (hl : ks.length = us.length) (k : List Key) (u : V) : putK (ks.zip us) k u = (putKs ks k).zip (putVs ks us k u) := by
  unfold putK putKs putVs
  rw [zip_any hl]
  by_cases m : hasK ks k = true
  · rw [if_pos m, if_pos m, if_pos m]
    clear m
    induction ks generalizing us with
    | nil => rfl
    | cons x xs ih =>
      cases us with
      | nil => cases hl
      | cons w us =>
        simp only [List.zip_cons_cons, List.map_cons, ih (Nat.succ.inj hl)]
        congr 1
        split <;> rfl
  · rw [if_neg m, if_neg m, if_neg m, List.zip_append hl]
    rfl
theorem put_len {α : Type} {ks : List (List Key)} {vs : List α} (hl : ks.length = vs.length) (k : List Key) (v : α) : (putKs ks k).length = (putVs ks vs k v).length := by
  unfold putKs putVs
  split
  · simp [hl]
  · simp [hl]
theorem RVs.put {c : Ct} {z : Addr → Prop} {H : Hp} {ks : List (List Key)} {vs : List VV} {us : List V} {k : List Key} {v : VV} {u : V} (hl : ks.length = us.length) (r : RVs c z H vs us) (q : RV c z H v u) : RVs c z H (putVs ks vs k v) (putVs ks us k u) := by
  unfold putVs
  split
  · rename_i m
    clear m
    induction ks generalizing vs us with
    | nil => simp only [List.zip_nil_left, List.map_nil]; exact RVs.nil
    | cons x xs ih =>
      cases us with
      | nil => cases hl
      | cons w us =>
        cases vs with
        | nil => rw [RVs] at r; cases r
        | cons y ys =>
          rw [RVs] at r
          obtain ⟨a1, a2, e, a3, a4⟩ := r
          cases e
          simp only [List.zip_cons_cons, List.map_cons]
          refine RVs.cons ?_ (ih (Nat.succ.inj hl) a4)
          by_cases e : x = k
          · rw [if_pos e, if_pos e]; exact q
          · rw [if_neg e, if_neg e]; exact a3
  · exact RVs.app r (RVs.one q)
theorem dict_setT {X : Cx} {pins : List (Addr × Obj)} {σ : St} {H : Hp} {s : Shared} {E : Value → Shared → Prop} {D b : Addr} {kvs : List (List Key × V)} {k : List Key} {v : V} {r : Value} {Q : Unit → Shared → Prop} (hu : X.A.units < cLine) (I : Inv X pins σ H s) (hD : H D = some (.dT kvs)) (hz : kvs.length < sizeLine)
    (eb : H b = some (.tup (k.map kV))) (rv : RelV v r) (h : ∀ s', Inv X pins σ (upd H D (.dT (putK kvs k v))) s' → Q () s') : wpAny (model X.prog X.w) X.A (dictSet D (.ref b) r) Q E s := by
  obtain ⟨z, hd, xs, rel, dd⟩ := dt_of I.hok hD
  have z1 : xs.length ≤ sizeLine := by rw [← Paired.length rel]; exact z
  have z2 : (putK kvs k v).length ≤ sizeLine := Nat.le_trans (length_putK kvs k v) (by omega)
  refine wpAny_dictSet_heap (hsz := z1) (show (tupleKind (mixKind X.prog X.w)).room X.A from hu) (key_of I.hok eb) dd fun h' dd' hs => h _ ?_
  obtain ⟨q, es, ep, hq, q2, q3, q4, _, q5⟩ := dd'
  exact d_write I (by rw [hD]; exact True.intro) hs ⟨q, hq⟩ ⟨z2, hd, _, (rel.put k eb rv).keeps (fun c ys ec => by rw [upd_ne (ne_of ec hD (fun z => nomatch z))]; exact ec), q, es, ep, hq, q2, q3, q4, q5⟩
end J
namespace J
open PySem L2
open PyProof.Rows (envOfC)
/-! {k: v for x in xs for y in ys}, keys tuples -/
abbrev DA := List (List Key) × List VV
def stDict (fk fv : EF) : VSt → VH → DA → Res DA := fun ρ h a => (fk ρ h).bind fun kv h1 => (fv ρ h1).bind fun v h2 => match keyV kv with
  | some k => if v.isObj = true ∨ a.1.length ≥ SZ then .no else .ok (putKs a.1 k, putVs a.1 a.2 k v) h2
  | none => .no
def stIn {α : Type} (it1 : AF) (b1 : VV → VSt → Option VSt) (vs1 : List Nat) (stp : VSt → VH → α → Res α) : VSt → VH → α → Res α := fun ρ h a => (it1 ρ h).bind fun xs h1 => accGo b1 stp (wp ρ vs1) xs h1 a
def RaD (c : Ct) (_ : Addr) (g : Gh) (H : Hp) (a : DA) (o : HO) : Prop := ∃ us, o = .dT (a.1.zip us) ∧ a.1.length = us.length ∧ RVs c g.fz H a.2 us
theorem RaD.nt {c : Ct} {D : Addr} {g : Gh} {H : Hp} {a : DA} {o : HO} (h : RaD c D g H a o) (ps : Array Value) : o ≠ .tbl ps := by
  obtain ⟨us, rfl, _⟩ := h
  intro z
  cases z
theorem RaD.stp {c : Ct} {D : Addr} {g g' : Gh} {H H' : Hp} {a : DA} {o : HO} (s : Stp g H g' H') (h : RaD c D g H a o) : RaD c D g' H' a o := by
  obtain ⟨us, e, l, r⟩ := h
  exact ⟨us, e, l, s.rvs r⟩
theorem step_dict {Y : Cx} {τ : St} {kx vx : Expr} {fk fv : EF} {D : Addr} {p : Pos} (hu : Y.A.units < cLine) (hxe : ∀ e s, Y.xe e s → False) (pk : PE Y kx (tE (ct Y) W0 fk)) (pv : PE Y vx (tE (ct Y) W0 fv)) :
    StepOk Y τ (do let kv ← eval kx Y.env; let vv ← holding [kv] (eval vx Y.env); standAt p; holding [kv, vv] (dictSet D kv vv)) D (RaD (ct Y) D) (stDict fk fv) := by
  intro ps s σ H g ρ h a a' h' I kn rh rs dz ⟨o, hD, ra⟩ es
  unfold stDict at es
  cases e1 : fk ρ h with
  | no => rw [e1] at es; cases es
  | exc _ _ _ _ => rw [e1] at es; cases es
  | ok kv h1 =>
    rw [e1] at es
    simp only [Res.bind] at es
    cases e2 : fv ρ h1 with
    | no => rw [e2] at es; cases es
    | exc _ _ _ _ => rw [e2] at es; cases es
    | ok v h2 =>
      rw [e2] at es
      simp only at es
      cases e3 : keyV kv with
      | none => rw [e3] at es; cases es
      | some k =>
        rw [e3] at es
        simp only at es
        split at es
        · cases es
        · rename_i cc
          cases es
          rw [not_or] at cc
          refine wpAny_bind (wpAny_mono (ev_keep hxe pk I rh rs dz hD e1 ra.nt) (fun u s1 z => ?_) fun _ _ z => z)
          obtain ⟨H1, g1, x, I1, rx, st1, rh1, rv1, dz1, hD1⟩ := z
          refine wpAny_bind (wpAny_holding (wpAny_mono (ev_keep hxe pv I1 rh1 (rs.stp st1) dz1 hD1 e2 ra.nt) (fun w s2 z => ?_) fun _ _ z => z))
          obtain ⟨H2, g2, y, I2, ry, st2, rh2, rv2, dz2, hD2⟩ := z
          obtain ⟨b, eb, hb⟩ := keyV_at (rv1.stp st2) e3
          subst eb
          obtain rfl : u = Value.ref b := rx
          obtain ⟨us, eo, hl, rvs⟩ := ra
          subst eo
          refine wpAny_bind (wpAny_standAt (wpAny_holding (dict_setT hu I2 hD2 (by rw [List.length_zip, ← hl, Nat.min_self]; exact SZ_lt (by omega)) hb ry fun s3 I3 => ?_)))
          have stw : Stp g2 H2 g2 (upd H2 D (.dT (putK (a.1.zip us) k y))) := Stp.wr (c := ct Y) dz2.nf dz2.nk (fun ys z => by rw [hD2] at z; cases z)
          refine ⟨σ, _, g2, I3, kn, (st1.trans st2).trans stw, rh2.wrD dz2 (fun ys z => by rw [hD2] at z; cases z) (by rw [hD2]; exact noTab_of (fun _ z => by cases z) (fun _ z => by cases z)), dz2, _, upd_same, putVs a.1 us k y, by rw [zip_put hl], put_len hl k y, ?_⟩
          exact RVs.put hl (stw.rvs (st2.rvs (st1.rvs rvs))) (stw.rv (rv2.rv (by simpa using cc.1)))
/-- the second for -/
theorem step_in {Y : Cx} {τ : St} {kx vx t0 i0 t1 i1 : Expr} {scope : Scope} {pos : Pos} {D : Addr} {it1 : AF} {b1 : VV → VSt → Option VSt} {tgT : TG} {vs1 : List Nat} {fk fv : EF} (hu : Y.A.units < cLine) (hY : Y.calm = true) (hxe : ∀ e s, Y.xe e s → False) (hvs : ∀ i ∈ vs1, ∀ v, τ[i]? ≠ some (some v))
    (pi1 : PI Y t1 i1 (tI (ct Y) W0 it1)) (pg : PG Y t1 tgT) (pat : PatOk Y.K tgT b1 vs1) (pk : PE Y kx (tE (ct Y) W0 fk)) (pv : PE Y vx (tE (ct Y) W0 fv)) (hs : ∀ x, foldedSetIterable i1 Y.env x = pure x) (hmark : Y.A.mark none = Y.A)
    (hund : ∀ (it : Value), Y.A.under (.compLoop (.DictComp kx vx [⟨t0, i0, [], 0⟩, ⟨t1, i1, [], 0⟩] scope pos) 1 it (.ref D) Y.env) = Y.A) :
    StepOk Y τ (do let x ← eval i1 Y.env; standAt i1.pos; let x ← foldedSetIterable i1 Y.env x; let _ ← runOwn (.compStart (.DictComp kx vx [⟨t0, i0, [], 0⟩, ⟨t1, i1, [], 0⟩] scope pos) 1 (← holding [x] (pyIter x)) (.ref D) Y.env) Y.env) D (RaD (ct Y) D) (stIn it1 b1 vs1 (stDict fk fv)) := by
  intro ps s σ H g ρ h a a' h' I kn rh rs dz ⟨o, hD, ra⟩ es
  unfold stIn at es
  cases e1 : it1 ρ h with
  | no => rw [e1] at es; cases es
  | exc _ _ _ _ => rw [e1] at es; cases es
  | ok xs h1 =>
    rw [e1] at es
    simp only [Res.bind] at es
    refine wpAny_bind (wpAny_mono (pi1.run ps s σ H (fun J H1 => ∃ g1, Stp g H g1 H1 ∧ RH (ct Y) g1 h1 H1 ∧ Deliv (ct Y) g1 H1 xs J ∧ Dz g1 D ∧ H1 D = some o) I ⟨g.keep D, ρ, h, rh.keep hD dz.nf dz.ni ra.nt, rs.stp .keep, ?_⟩) (fun x s1 z => ?_) fun e s z => (hxe e s z).elim)
    · rw [e1]
      intro g' H' J st rh' dl
      have kD : g'.kp D := st.kp D (.inr rfl)
      refine ⟨g'.back g.kp, st.back, rh'.back fun q z => st.kp q (.inl z), ⟨fun g2 H2 f => dl.go g2 H2 ⟨f.fz, f.fH, f.tp⟩, fun g2 H2 f => dl.stop g2 H2 ⟨f.fz, f.fH, f.tp⟩, fun g2 H2 f => dl.yld g2 H2 ⟨f.fz, f.fH, f.tp⟩⟩, ⟨(rh'.kd D kD).1, (rh'.kd D kD).2, dz.nk⟩, (st.kH D (.inr rfl)).trans hD⟩
    · refine wpAny_bind (wpAny_standAt (wpAny_bind (wpAny_of_eq (hs x) (wpAny_bind (wpAny_holding (wpAny_mono z (fun itv s2 z => ?_) fun e s z => (hxe e s z).elim))))))
      obtain ⟨it, fp, tn, J, H2, eit, I2, T, st2, f2, g2, stp2, rh2, dl, dz2, hD2⟩ := z
      subst eit
      refine wpAny_bind (wpAny_runOwn ?_)
      rw [hmark]
      have wkn : Knows (wipe σ vs1) σ := ⟨wipe_length _ _, fun i v e => (wipe_some e).1⟩
      have hK : Knows τ (wipe σ vs1) := ⟨kn.1.trans (wipe_length _ _).symm, fun i v e => by
        have ni : i ∉ vs1 := fun m => hvs i m v e
        rw [wipe_out ni]; exact kn.2 i v e⟩
      have go : codeAny (model Y.prog Y.w) Y.A (.compLoop (.DictComp kx vx [⟨t0, i0, [], 0⟩, ⟨t1, i1, [], 0⟩] scope pos) 1 (.ref it) (.ref D) Y.env)
          (fun r s' => match r with
            | .ok _ => ∃ σ' H' g', Inv Y ps σ' H' s' ∧ Knows τ σ' ∧ Stp g H g' H' ∧ RH (ct Y) g' h' H' ∧ Dz g' D ∧ ∃ o, H' D = some o ∧ RaD (ct Y) D g' H' a' o
            | .error _ => False) s2 := by
        refine acc_loop (Y := Y) (ρ := wp ρ vs1) (a := a) (τ := wipe σ vs1) (p := i1.pos) hY hxe rfl T (ct_dict_in kx vx t0 i0 t1 i1 scope pos (.ref it) D Y.env) rfl rfl (hund _) pg pat (fun i hi v e => (wipe_some e).2 hi) (step_dict hu hxe pk pv) (fun g H g' H' a o s h => h.stp s)
          (I2.weak wkn.1 wkn.2) st2 (fun b G hb gn => ⟨gn, (f2 b hb).2⟩) (fun b hb => (f2 b hb).1) rh2 ((rs.stp stp2).wipe _) dz2 ⟨o, hD2, ra.stp stp2⟩ dl es ?_
        intro G' s' g' I' st' rh' dz' ho
        exact ⟨_, G', g', I', hK, stp2.trans st', rh', dz', ho⟩
      refine codeAny_mono (cs_dict_in go (T.self Y.A 0 _ _ _ st2 go)) fun r s' hr => ?_
      cases r with
      | ok f => exact wpAny_pure hr
      | error e => exact hr.elim
end J
namespace J
open PySem L2
open PyProof.Rows (envOfC)
section
variable {X : Cx} {W : WX}
/-- a thing that nobody holds is frozen -/
theorem frz_nobody {c : Ct} {g : Gh} {h : VH} {H : Hp} {D : Addr} {o : HO} (rh : RH c g h H) (dz : Dz g D) (e : H D = some o) (nt : ∀ ps, o ≠ .tbl ps := by intro _ z; cases z) : Stp g H (g.frz D) H ∧ RH c (g.frz D) h H := by
  have st : Stp g H (g.frz D) H := .kill
  refine ⟨st, rh.len, rh.nd, fun n o a h1 h2 => ?_, fun q z => ?_, rh.kp, fun q z => ⟨fun y => y.elim (rh.kd q z).1 (fun e => dz.nk (e ▸ z)), (rh.kd q z).2⟩, rh.tb, fun q z ps y => z.elim (fun z => z.elim (fun z => rh.nt q (.inl z) ps y) (fun z => by rw [z, e] at y; exact nt ps (Option.some.inj y))) (fun z => rh.nt q (.inr z) ps y)⟩
  · exact RO.stp st (fun x z => z.elim x (fun e => dz.ni (e ▸ List.mem_of_getElem? h2))) rfl (rh.at' n o a h1 h2)
  · rcases z with z | z
    · exact rh.fz q z
    · rw [z]; exact ⟨_, e⟩
def eDc2 (own : List Nat) (it : AF) (b : VV → VSt → Option VSt) (it1 : AF) (b1 : VV → VSt → Option VSt) (vs1 : List Nat) (fk fv : EF) : EF := fun ρ h => (it ρ h).bind fun xs h1 => (noX (accGo b (stIn it1 b1 vs1 (stDict fk fv)) (wp ρ own) xs h1 ([], []))).bind fun a h2 => .ok (.dT a.1 a.2) h2
theorem j_dc2 {kx vx t0 i0 t1 i1 : Expr} {scope : Scope} {own : List (Str × Nat)} {own1 vs1 : List Nat} {pos : Pos} {it it1 : AF} {tgT tgT1 : TG} {b b1 : VV → VSt → Option VSt} {fk fv : EF} {k : Nat} (hr : Room k X.A) (hc : X.calm = true) (hN : X.N.Nodup) (hi : PI X t0 i0 (tI (ct X) W it)) (ok : BlkOk X.N X.env.scope scope own)
    (hg : ∀ (s : Shared) (H : Hp) (C : Addr) (cl : List (Str × Addr)) (fp : List Addr), PG (X.blk s H scope (compEnvC scope cl C X.env) fp) t0 tgT) (pat : PatOk X.K tgT b own1) (h1 : ∀ i ∈ own1, i ∈ own.map (·.2))
    (hi1 : ∀ (s : Shared) (H : Hp) (C : Addr) (cl : List (Str × Addr)) (fp : List Addr), PI (X.blk s H scope (compEnvC scope cl C X.env) fp) t1 i1 (tI (ct X) W0 it1))
    (hg1 : ∀ (s : Shared) (H : Hp) (C : Addr) (cl : List (Str × Addr)) (fp : List Addr), PG (X.blk s H scope (compEnvC scope cl C X.env) fp) t1 tgT1) (pat1 : PatOk X.K tgT1 b1 vs1) (h2 : ∀ i ∈ vs1, i ∈ own.map (·.2))
    (hk : ∀ (s : Shared) (H : Hp) (C : Addr) (cl : List (Str × Addr)) (fp : List Addr), PE (X.blk s H scope (compEnvC scope cl C X.env) fp) kx (tE (ct X) W0 fk))
    (hv : ∀ (s : Shared) (H : Hp) (C : Addr) (cl : List (Str × Addr)) (fp : List Addr), PE (X.blk s H scope (compEnvC scope cl C X.env) fp) vx (tE (ct X) W0 fv)) (hs : ∀ x, foldedSetIterable i0 X.env x = pure x := by intro _; rfl) (hs1 : ∀ env x, foldedSetIterable i1 env x = pure x := by intro _ _; rfl) :
    PE X (.DictComp kx vx [⟨t0, i0, [], 0⟩, ⟨t1, i1, [], 0⟩] scope pos) (tE (ct X) W (eDc2 (own.map (·.2)) it b it1 b1 vs1 fk fv)) := by
  have key := acc_PE (X := X) (W := W) (node := .DictComp kx vx [⟨t0, i0, [], 0⟩, ⟨t1, i1, [], 0⟩] scope pos) (new := newDict) (o0 := { cls := .type "dict", data := .dict #[] }) (O := fun D => .dT []) (Ra := RaD (ct X)) (stp := stIn it1 b1 vs1 (stDict fk fv)) (a0 := ([], [])) (p := i0.pos)
    (inner := fun D env => do let x ← eval i1 env; standAt i1.pos; let x ← foldedSetIterable i1 env x; let _ ← runOwn (.compStart (.DictComp kx vx [⟨t0, i0, [], 0⟩, ⟨t1, i1, [], 0⟩] scope pos) 1 (← holding [x] (pyIter x)) (.ref D) env) env)
    (arm_eval_DictComp _ _ _ _ _ _) rfl hc hN hi ok hs (fun s E Q h => wpAny_newObj_type h) (fun h G hb => dt_empty h hb) (fun it acc env R s a b => codeAny_compStart_dict a b)
    (fun it D ce => ct_dict_out kx vx t0 i0 t1 i1 scope pos (.ref it) (.ref D) ce) (fun _ _ _ => rfl) (fun _ _ _ => rfl) (fun _ _ _ => rfl) hg pat h1 (fun D g H g' H' a o s h => h.stp s) (fun D g H => ⟨[], rfl, rfl, RVs.nil⟩)
    (fun s H C cl fp D τ hτ => step_in (Y := X.blk s H scope (compEnvC scope cl C X.env) fp) (show X.A.units < cLine from hr.units0) hc (fun _ _ z => z) (fun i hi => hτ i (h2 i hi)) (hi1 s H C cl fp) (hg1 s H C cl fp) pat1 (hk s H C cl fp) (hv s H C cl fp) (hs1 _) (Around.mark_none _) (fun _ => rfl))
  refine PE.mono key fun σ H Q h => ?_
  have h2 := tG.bind (R := fun g H (a : DA) u => ∃ D o, u = V.ref D ∧ Dz g D ∧ H D = some o ∧ RaD (ct X) D g H a o) (f := fun ρ h => (it ρ h).bind fun xs h1 => noX (accGo b (stIn it1 b1 vs1 (stDict fk fv)) (wp ρ (own.map (·.2))) xs h1 ([], []))) (k := fun (a : DA) ρ h2 => .ok (VV.dT a.1 a.2) h2) (R' := RT (ct X)) (W := W) (Q := Q) (by
    obtain ⟨g, ρ, h0, rh, rs, pp⟩ := h
    refine ⟨g, ρ, h0, rh, rs, ?_⟩
    unfold eDc2 at pp
    show Pst (ct X) W σ (RT (ct X)) g H Q (((it ρ h0).bind fun xs h1 => noX (accGo b (stIn it1 b1 vs1 (stDict fk fv)) (wp ρ (own.map (·.2))) xs h1 ([], []))).bind fun a h2 => .ok (VV.dT a.1 a.2) h2)
    rw [res_assoc]
    exact pp)
  obtain ⟨g, ρ, h0, rh, rs, pp⟩ := h2
  refine ⟨g, ρ, h0, rh, rs, pp.imp fun u H1 ⟨g1, ρ1, a, h1, rh1, rs1, ⟨D, o, eu, dz, hD, us, eo, hl, rvs⟩, p1⟩ => ?_⟩
  subst eu eo
  obtain ⟨st, rhf⟩ := frz_nobody rh1 dz hD
  refine p1 (g1.frz D) H1 (.ref D) st rhf ?_
  show RV _ _ _ _ _
  rw [RV]
  exact ⟨D, us, rfl, .inr rfl, hD, hl, st.rvs rvs⟩
end
end J
namespace J
open PySem PySem.Spec L2 PyProof.Rows
/-! sets of int tuples, up to seventy-six of them -/
structure SetW (P : Program) (w : World) (h : Heap) (a : Addr) (L : List (Addr × List Int)) (es : Array (Int × Value)) (ep : Nat) (t : SetTable) : Prop where
  ob : ∃ o, h.get? a = some o ∧ o.ExactSet ∧ o.data = .set es ep t
  rows : es.toList = L2.rowsOf P w L
  tab : TabOk t (L.map fun q => thash P w q.2)
  nd : (L.map (·.2)).Nodup
  tup : ∀ q ∈ L, IsT P w h q.2 q.1
  plain : t.plain = true
  led : w.params.followText "set-order" = true ∨ t.led = true
  room : L.length * 5 < t.mask * 3
section
variable {P : Program} {w : World} {A : Around} {E : Value → Shared → Prop} {s : Shared} {h : Heap} {a : Addr} {L : List (Addr × List Int)} {es : Array (Int × Value)} {ep : Nat} {t : SetTable}
theorem SetW.of (R : SetTR P w h a L es ep t) : SetW P w h a L es ep t := ⟨R.ob, R.rows, R.tab, R.nd, R.tup, R.plain, R.led, R.room⟩
theorem SetW.low (R : SetW P w h a L es ep t) (f : L.length < 64) : SetTR P w h a L es ep t := ⟨R.ob, R.rows, R.tab, R.nd, R.tup, R.plain, R.led, R.room, f⟩
theorem SetW.size (R : SetW P w h a L es ep t) : es.size = L.length := by
  rw [← Array.length_toList, R.rows]
  exact List.length_map ..
theorem SetW.places (R : SetW P w h a L es ep t) : t.place.size = L.length := by
  have z := R.tab.sz
  rwa [List.length_map] at z
theorem SetW.fits (R : SetW P w h a L es ep t) : t.fits es.size = true := by
  have a1 := R.places
  have a2 := R.size
  have a3 := R.room
  have e : t.fill = L.length := by
    unfold SetTable.fill
    rw [R.tab.dm, a1]
    rfl
  unfold SetTable.fits
  rw [Bool.and_eq_true]
  exact ⟨by rw [a1, a2]; exact beq_self_eq_true _, decide_eq_true (by rw [e]; omega)⟩
theorem SetW.row (R : SetW P w h a L es ep t) {i : Nat} {q : Addr × List Int} (e : L[i]? = some q) : es[i]? = some (thash P w q.2, Value.ref q.1) := by
  have z : es.toList[i]? = (L[i]?).map fun q => (thash P w q.2, Value.ref q.1) := by
    rw [R.rows]
    exact List.getElem?_map
  rw [Array.getElem?_toList] at z
  rw [z, e]
  rfl
theorem SetW.keep {h' : Heap} (R : SetW P w h a L es ep t) (k : ∀ o, h.get? a = some o → h'.get? a = some o) (kt : ∀ q ∈ L, IsT P w h' q.2 q.1) : SetW P w h' a L es ep t := by
  obtain ⟨o, e, r⟩ := R.ob
  exact ⟨⟨o, k o e, r⟩, R.rows, R.tab, R.nd, kt, R.plain, R.led, R.room⟩
/-- where the way stands behind c steps -/
abbrev spot (m : Nat) (H : Int) (c : Nat) : SetTable.Probe := nth m (runAt m (SetTable.bits H % (m + 1)) (SetTable.bits H)) c
theorem spot_plain (m : Nat) (H : Int) : ∀ c, (spot m H c).dummy = none
  | 0 => rfl
  | c + 1 => by
    have ih := spot_plain m H c
    show (nth m _ (c + 1)).dummy = none
    rw [nth_succ]
    unfold adv
    split
    · exact ih
    · exact ih
theorem spot_go (m : Nat) (H : Int) (c d : Nat) : nth m (spot m H c) d = spot m H (c + d) := (nth_add m c _ d).symm
/-- what is met from the c-th step on -/
theorem SetW.meet (R : SetW P w h a L es ep t) {H : Int} {K c : Nat} (hc : c ≤ K) (hf : K < 10 * SetTable.turns t.mask) (hK : way t.mask H K ∉ t.place.toList) (hb : ∀ d, d < K → way t.mask H d ∈ t.place.toList) (ha : Nat → Int) :
    (∃ d i, c ≤ d ∧ d < K ∧ t.place.toList[i]? = some (way t.mask H d) ∧ ha i = H ∧ (∀ d' i', c ≤ d' → d' < d → t.place.toList[i']? = some (way t.mask H d') → ha i' ≠ H) ∧ t.probe ha H (spot t.mask H c) = some (.candidate (way t.mask H d) i (spot t.mask H (d + 1)))) ∨
    ((∀ d' i', c ≤ d' → d' < K → t.place.toList[i']? = some (way t.mask H d') → ha i' ≠ H) ∧ t.probe ha H (spot t.mask H c) = some (.empty (way t.mask H K) none)) := by
  have end_ : c + (K - c) = K := by omega
  have sp := go_spec t R.tab.ris R.tab.dm ha H (10 * SetTable.turns t.mask) (K - c) (spot t.mask H c) (spot_plain _ _ _) (by omega)
    (fun d hd => by rw [spot_go]; exact hb _ (by omega)) (by rw [spot_go, end_]; exact hK)
  have back : ∀ {u : Nat}, (∀ d' i', d' < u → t.place.toList[i']? = some (nth t.mask (spot t.mask H c) d').j → ha i' ≠ H) → ∀ d' i', c ≤ d' → d' < c + u → t.place.toList[i']? = some (way t.mask H d') → ha i' ≠ H := by
    intro u z d' i' h1 h2 h3
    refine z (d' - c) i' (by omega) ?_
    rw [spot_go, show c + (d' - c) = d' by omega]
    exact h3
  rcases sp with ⟨d, i, h1, h2, h3, h4, h5⟩ | ⟨h4, h5⟩
  · refine .inl ⟨c + d, i, by omega, by omega, by rw [spot_go] at h2; exact h2, h3, back h4, ?_⟩
    rw [spot_go, spot_go] at h5
    exact h5
  · refine .inr ⟨fun d' i' z1 z2 => back h4 d' i' z1 (by omega), ?_⟩
    rw [spot_go, end_] at h5
    exact h5
theorem SetW.seek (R : SetW P w s.heap a L es ep t) {x : Addr} {k : List Int} (hx : IsT P w s.heap k x) (hu : A.units < cLine) {K : Nat} (hf : K < 10 * SetTable.turns t.mask) (hK : way t.mask (thash P w k) K ∉ t.place.toList) (hb : ∀ d, d < K → way t.mask (thash P w k) d ∈ t.place.toList)
    {Q : SetFound → Shared → Prop} (yes : k ∈ L.map (·.2) → Q (.there none) s) (no : k ∉ L.map (·.2) → Q (.free (way t.mask (thash P w k) K) false) s) :
    ∀ (n c : Nat) (st : Option SetTable.Probe), c ≤ K → K < c + n → st.getD (t.probeStart (thash P w k)) = spot t.mask (thash P w k) c →
      (∀ (i : Nat) (q : Addr × List Int), L[i]? = some q → q.2 = k → ∃ d, c ≤ d ∧ d < K ∧ t.place.toList[i]? = some (way t.mask (thash P w k) d)) →
      wpAny (model P w) A (setSearchFrom a (.ref x) (thash P w k) true n st) Q E s := by
  obtain ⟨o, eo, ex, ed⟩ := R.ob
  intro n
  induction n with
  | zero => intro c st h1 h2; omega
  | succ n ih =>
    intro c st h1 h2 h3 h4
    rw [setSearchFrom_succ]
    refine wpAny_bind (wpAny_setState_of eo ed R.fits ?_)
    dsimp only
    have calm : ¬ t.gaveWay = true := by
      unfold SetTable.gaveWay
      rw [mask_odd R.tab.mok]
      decide
    refine wp_if_neg calm ?_
    try refine wpAny_bind (wpAny_pure ?_)
    rw [h3]
    have hashes : ∀ (i : Nat) q, L[i]? = some q → (es[i]?.map (·.1)).getD 0 = thash P w q.2 := fun i q e => by rw [R.row e]; rfl
    rcases R.meet h1 hf hK hb (fun i => (es[i]?.map (·.1)).getD 0) with ⟨d, i, m1, m2, m3, m4, m5, m6⟩ | ⟨m5, m6⟩
    · rw [m6]
      dsimp only
      have il : i < L.length := by
        have z := (List.getElem?_eq_some_iff.mp m3).1
        rw [Array.length_toList, R.places] at z
        exact z
      obtain ⟨q, eq⟩ : ∃ q, L[i]? = some q := ⟨_, List.getElem?_eq_getElem il⟩
      have hq := R.tup q (List.mem_of_getElem? eq)
      have live := slot_live R.tab.ris m3
      have tail : wpAny (model P w) A (searchRest a (.ref x) (thash P w k) true n es t (way t.mask (thash P w k) d) i (spot t.mask (thash P w k) (d + 1))) Q E s := by
        unfold searchRest
        rw [R.row eq]
        dsimp only
        refine wpAny_bind (wpAny_holding (wpAny_eqBool_tuple hu hq hx ?_))
        refine wpAny_bind (wpAny_setState_of eo ed R.fits ?_)
        dsimp only
        by_cases same : q.2 = k
        · refine wp_if_pos (by simp [same]) (wpAny_pure (yes ?_))
          exact List.mem_map.mpr ⟨q, List.mem_of_getElem? eq, same⟩
        · refine wp_if_neg (by simp [same]) ?_
          try refine wpAny_bind (wpAny_pure ?_)
          rw [sameMem]
          dsimp only
          simp only [if_true, live, R.row eq]
          refine wpAny_bind (wpAny_isSame_ref_self (wpAny_bind (wpAny_pure ?_)))
          simp only [if_true]
          refine wp_if_neg (by simp [same]) ?_
          refine ih (d + 1) _ (by omega) (by omega) rfl fun i0 q0 e0 k0 => ?_
          obtain ⟨d0, c1, c2, c3⟩ := h4 i0 q0 e0 k0
          refine ⟨d0, ?_, c2, c3⟩
          rcases Nat.lt_trichotomy d0 d with z | z | z
          · exact absurd ((hashes i0 q0 e0).trans (by rw [k0])) (m5 d0 i0 c1 z c3)
          · subst z
            have l2 := slot_live R.tab.ris c3
            rw [live] at l2
            injection l2 with l2
            rw [← l2, eq] at e0
            cases e0
            exact absurd k0 same
          · exact z
      cases lc : t.led with
      | true =>
        refine wp_if_neg (by simp) ?_
        try refine wpAny_bind (wpAny_pure ?_)
        exact tail
      | false =>
        refine wp_if_pos (by simp) ?_
        refine wpAny_bind (seen_tup hx (fun y hy => ?_) (wp_if_neg (by decide) ?_))
        · obtain ⟨e, he, rfl⟩ := List.mem_map.mp hy
          have m : e ∈ L2.rowsOf P w L := by
            rw [← R.rows]
            have z := (Array.mem_filter.mp (Array.mem_def.mpr he)).1
            exact Array.mem_def.mp z
          obtain ⟨q2, h5, rfl⟩ := List.mem_map.mp m
          exact ⟨q2.2, q2.1, rfl, R.tup q2 h5⟩
        · try refine wpAny_bind (wpAny_pure ?_)
          exact tail
    · rw [m6]
      dsimp only
      refine wpAny_pure (no fun hm => ?_)
      obtain ⟨q0, e0, k0⟩ := List.mem_map.mp hm
      obtain ⟨i0, hi0, ei0⟩ := List.getElem_of_mem e0
      have e1 : L[i0]? = some q0 := by rw [List.getElem?_eq_getElem hi0, ei0]
      obtain ⟨d0, c1, c2, c3⟩ := h4 i0 q0 e1 k0
      exact m5 d0 i0 c1 c2 c3 ((hashes i0 q0 e1).trans (by rw [k0]))
theorem SetW.search (R : SetW P w s.heap a L es ep t) {x : Addr} {k : List Int} (hx : IsT P w s.heap k x) (hu : A.units < cLine) {Q : SetFound → Shared → Prop} (yes : k ∈ L.map (·.2) → Q (.there none) s)
    (no : ∀ K, k ∉ L.map (·.2) → way t.mask (thash P w k) K ∉ t.place.toList → (∀ d, d < K → way t.mask (thash P w k) d ∈ t.place.toList) → Q (.free (way t.mask (thash P w k) K) false) s) : wpAny (model P w) A (setSearch a (.ref x) (thash P w k) true) Q E s := by
  have rm := R.room
  obtain ⟨K, h1, h2, h3⟩ := R.tab.first (by rw [List.length_map]; omega) (thash P w k)
  have small : K < 100000 := by
    have z : SetTable.turns t.mask ≤ 142 := by
      unfold SetTable.turns
      have := R.tab.mok
      unfold MaskOk at this
      omega
    omega
  unfold setSearch
  refine R.seek hx hu h1 h2 h3 yes (fun z => no K z h2 h3) 100000 0 none (Nat.zero_le _) (by omega) rfl fun i q e ek => ?_
  have il := (List.getElem?_eq_some_iff.mp e).1
  have ip : i < t.place.toList.length := by rw [Array.length_toList, R.places]; exact il
  obtain ⟨d, c1, c2⟩ := R.tab.before h2 (i := i) (h := thash P w k) (by rw [List.getElem?_map, e, ← ek]; rfl) (List.getElem?_eq_getElem ip)
  exact ⟨d, Nat.zero_le _, c1, by rw [c2]; exact List.getElem?_eq_getElem ip⟩
/-- one more -/
theorem SetW.add (R : SetW P w s.heap a L es ep t) {x : Addr} {k : List Int} (hx : IsT P w s.heap k x) (hu : A.units < cLine) (few : L.length < 76) {Q : Bool → Shared → Prop}
    (hQ : ∀ b h' L' es' ep' t', Heap.SameBut a s.heap h' → SetW P w h' a L' es' ep' t' → (k ∈ L.map (·.2) → L' = L) → (k ∉ L.map (·.2) → L'.Perm ((x, k) :: L)) → Q b { s with heap := h' }) :
    wpAny (model P w) A (setAddHashed a (.ref x) (thash P w k)) Q E s := by
  rcases Nat.lt_or_ge (L.length + 1) 64 with c | c
  · exact add_at (R.low (by omega)) hx hu c fun b h' L' es' ep' t' sb r q1 q2 => hQ b h' L' es' ep' t' sb (.of r) q1 q2
  · obtain ⟨o, eo, ex, ed⟩ := R.ob
    have rm := R.room
    have mk : t.mask = 127 := by
      have := R.tab.mok
      unfold MaskOk at this
      omega
    unfold setAddHashed
    refine wpAny_holding ?_
    rw [show (100000 : Nat) = 99999 + 1 from rfl, setAddHashedIn_succ]
    refine wpAny_bind (wpAny_setState_of eo ed R.fits ?_)
    dsimp only
    refine wp_if_neg (by simp [byScan, Value.scannable]) ?_
    try refine wpAny_bind (wpAny_pure ?_)
    refine wpAny_bind (R.search hx hu (fun hm => ?_) fun K hm h1 h2 => ?_)
    · dsimp only
      exact wpAny_pure (hQ false s.heap L es ep t (Heap.SameBut.refl a _) R (fun _ => rfl) fun z => absurd hm z)
    · dsimp only
      refine wpAny_bind (wpAny_setState_of eo ed R.fits ?_)
      dsimp only
      obtain ⟨p1, p2, p3, p4, p5, p6, p7, p8, p9⟩ := R.tab.put h1 h2
      rw [List.length_map] at p2 p9
      have rw' : (SetTable.insertAt es (t.put (way t.mask (thash P w k) K)).2 (thash P w k, Value.ref x)).toList = L2.rowsOf P w (L.take (t.put (way t.mask (thash P w k) K)).2 ++ (x, k) :: L.drop (t.put (way t.mask (thash P w k) K)).2) := by
        rw [SetTable.toList_insertAt, rows_put, R.rows]
      rw [← p1] at p2 p3
      generalize t.put (way t.mask (thash P w k) K) = pt at p1 p2 p3 p4 p5 p6 p7 p8 p9 rw' ⊢
      obtain ⟨t1, p⟩ := pt
      dsimp only at p1 p2 p3 p4 p5 p6 p7 p8 p9 rw' ⊢
      have pl1 : t1.plain = true := p6.trans R.plain
      first
        | (refine wpAny_bind ?_; refine wp_if_pos pl1 ?_; refine hashBy_tup hx ?_)
        | refine wp_if_pos pl1 (wpAny_bind (hashBy_tup hx ?_))
      simp only [if_true]
      have pm := put_perm L p (x, k)
      have e3 : (L.map fun q => thash P w q.2).take p ++ thash P w k :: (L.map fun q => thash P w q.2).drop p = (L.take p ++ (x, k) :: L.drop p).map fun q => thash P w q.2 := by
        rw [List.map_append, List.map_cons, List.map_take, List.map_drop]
      rw [e3] at p3
      generalize L.take p ++ (x, k) :: L.drop p = M at pm p3 rw'
      have len : M.length = L.length + 1 := by rw [pm.length_eq]; rfl
      have len2 : (SetTable.insertAt es p (thash P w k, Value.ref x)).size = L.length + 1 := by
        rw [← Array.length_toList, rw', ← len]
        exact List.length_map ..
      generalize SetTable.insertAt es p (thash P w k, Value.ref x) = es1 at rw' len2 ⊢
      refine wpAny_bind (wpAny_storeSet_of eo ed ?_ (by rw [len2, sizeLine_eq]; omega))
      have sb : Heap.SameBut a s.heap (s.heap.update a (Obj.putSet es1 t1)) := Heap.SameBut.update ..
      have eo1 := L2.store_at (es' := es1) (t' := t1) eo ed
      generalize s.heap.update a (Obj.putSet es1 t1) = h1 at sb eo1 ⊢
      have notFull : ¬ (!false && t1.tooFull) = true := by
        unfold SetTable.tooFull
        rw [p9, p4, mk]
        simp
        omega
      first
        | refine wp_if_neg notFull ?_
        | (refine wpAny_bind ?_; refine wp_if_neg notFull ?_; refine wpAny_pure ?_)
      refine wpAny_pure (hQ true h1 M es1 (ep + 1) t1 sb ⟨⟨_, eo1, ⟨ex.1, ex.2.1, ex.2.2⟩, rfl⟩, rw', p3, ?_, fun q hq => ?_, pl1, by rw [p5]; exact R.led, by rw [len, p4, mk]; omega⟩ (fun z => absurd z hm) fun _ => pm)
      · refine (pm.map (·.2)).nodup_iff.mpr ?_
        rw [List.map_cons]
        exact List.nodup_cons.mpr ⟨hm, R.nd⟩
      · rcases List.mem_cons.mp (pm.mem_iff.mp hq) with e | e
        · rw [e]; exact isT_same hx eo ed sb
        · exact isT_same (R.tup q e) eo ed sb
end
/-- the set, without the tuples themselves -/
structure SetW0 (P : Program) (w : World) (h : Heap) (a : Addr) (L : List (Addr × List Int)) : Prop where
  ex : ∃ es ep t, ∀ h', (∀ o, h.get? a = some o → h'.get? a = some o) → (∀ q ∈ L, IsT P w h' q.2 q.1) → SetW P w h' a L es ep t
  ob : ∃ o, h.get? a = some o
def SetWO (P : Program) (w : World) (a : Addr) (L : List (Addr × List Int)) : HO := .ext fun h => SetW0 P w h a L
theorem SetW.t0 {P : Program} {w : World} {h : Heap} {a : Addr} {L : List (Addr × List Int)} {es : Array (Int × Value)} {ep : Nat} {t : SetTable} (R : SetW P w h a L es ep t) : SetW0 P w h a L :=
  ⟨⟨es, ep, t, fun h' k kt => R.keep k kt⟩, R.ob.imp fun o e => e.1⟩
theorem SetW0.full {P : Program} {w : World} {h : Heap} {a : Addr} {L : List (Addr × List Int)} (R : SetW0 P w h a L) (kt : ∀ q ∈ L, IsT P w h q.2 q.1) : ∃ es ep t, SetW P w h a L es ep t := by
  obtain ⟨es, ep, t, f⟩ := R.ex
  exact ⟨es, ep, t, f h (fun _ e => e) kt⟩
theorem setWO_new {P : Program} {w : World} {H : Hp} {h : Heap} {a : Addr} {L : List (Addr × List Int)} (R : SetW0 P w h a L) : ObjOk P w H h a (SetWO P w a L) := by
  refine ⟨R, R.ob, fun h1 h2 p k => ?_⟩
  have p : SetW0 P w h1 a L := p
  obtain ⟨es, ep, t, f⟩ := p.ex
  obtain ⟨o, eo⟩ := p.ob
  exact ⟨⟨es, ep, t, fun h' k' kt => f h' (fun o e => k' o (k o e)) kt⟩, o, k o eo⟩
end J
namespace J
open PySem PySem.Spec L2 PyProof.Rows
/-! set(xs) of tuples, sorted(..): few of them are unlike -/
theorem few_of {D M : List (List Int)} (hM : M.Nodup) (hs : ∀ x ∈ M, x ∈ D) : M.length ≤ D.length := by
  induction M generalizing D with
  | nil => exact Nat.zero_le _
  | cons x xs ih =>
    have hx : x ∈ D := hs x List.mem_cons_self
    rw [List.nodup_cons] at hM
    have q := ih (D := D.erase x) hM.2 fun y hy => (List.mem_erase_of_ne (fun (e : y = x) => hM.1 (e ▸ hy))).mpr (hs y (List.mem_cons_of_mem _ hy))
    rw [List.length_erase_of_mem hx] at q
    have : 0 < D.length := List.length_pos_of_mem hx
    rw [List.length_cons]; omega
/-- what the set holds behind the first i items -/
structure Held (ks : List (Addr × List Int)) (i : Nat) (L : List (Addr × List Int)) : Prop where
  sub : ∀ q ∈ L, q ∈ ks.take i
  all : ∀ q ∈ ks.take i, q.2 ∈ L.map (·.2)
theorem Held.next {ks L L' : List (Addr × List Int)} {i : Nat} {x : Addr × List Int} (g : Held ks i L) (h : ks[i]? = some x) (c1 : x.2 ∈ L.map (·.2) → L' = L) (c2 : x.2 ∉ L.map (·.2) → L'.Perm (x :: L)) : Held ks (i + 1) L' := by
  have et : ks.take (i + 1) = ks.take i ++ [x] := by rw [List.take_add_one, h]; rfl
  by_cases m : x.2 ∈ L.map (·.2)
  · rw [c1 m]
    constructor
    · intro q hq; rw [et]; exact List.mem_append_left _ (g.sub q hq)
    · intro q hq
      rw [et] at hq
      rcases List.mem_append.mp hq with z | z
      · exact g.all q z
      · rw [List.mem_singleton] at z; rw [z]; exact m
  · have pm := c2 m
    constructor
    · intro q hq
      rw [et]
      rcases List.mem_cons.mp (pm.mem_iff.mp hq) with z | z
      · exact List.mem_append_right _ (by rw [z]; exact List.mem_singleton.mpr rfl)
      · exact List.mem_append_left _ (g.sub q z)
    · intro q hq
      rw [(pm.map (·.2)).mem_iff, List.map_cons]
      rw [et] at hq
      rcases List.mem_append.mp hq with z | z
      · exact List.mem_cons_of_mem _ (g.all q z)
      · rw [List.mem_singleton] at z; rw [z]; exact List.mem_cons_self
section
variable {P : Program} {w : World} {A : Around} {E : Value → Shared → Prop} {s : Shared}
theorem upd_loop {It : Addr} {fp wr : List Addr} {G : Array GenState → Array GenState → Prop} {n : Nat} {Pv : Nat → Value → Prop} {St : Nat → Shared → Prop} {R : Result → Shared → Prop} (Wk : WalksS P w A.in1 It fp wr G n Pv St) (S : Addr) (hSf : S ∉ fp) (ks : List (Addr × List Int)) (hn : n = ks.length)
    (Dk : List (List Int)) (hDk : ∀ q ∈ ks, q.2 ∈ Dk) (hfew : Dk.length < 76) (hval : ∀ i v, Pv i v → ∃ q, ks[i]? = some q ∧ v = .ref q.1) (h0 : Heap) (hk : ∀ q ∈ ks, IsT P w h0 q.2 q.1) (nS : h0.get? S = none) (nw : ∀ b ∈ wr, h0.get? b = none) (hu : A.in1.units < cLine) :
    ∀ (k i : Nat) (s : Shared), n - i = k → i ≤ n → St i s → (∀ b o, h0.get? b = some o → s.heap.get? b = some o) → (∃ L es ep t, SetW P w s.heap S L es ep t ∧ Held ks i L) →
      (∀ s' L es ep t, Moved (S :: wr) G s s' → SetW P w s'.heap S L es ep t → Held ks n L → (∀ b o, h0.get? b = some o → s'.heap.get? b = some o) → R (.ok (.ret .none)) s') →
      codeAny (model P w) A (.builtin "set.update.loop" ⟨[.ref S, .ref It], []⟩) R s := by
  have nSw : S ∉ wr := fun z => hSf (Wk.sub _ z)
  have incl : ∀ b ∈ wr, b ∈ S :: wr := fun b z => List.mem_cons_of_mem _ z
  have kept : ∀ {s s' : Shared}, Moved wr G s s' → (∀ b o, h0.get? b = some o → s.heap.get? b = some o) → ∀ b o, h0.get? b = some o → s'.heap.get? b = some o := by
    intro s s' mv kp b o e
    refine mv.heap b o (fun z => ?_) (kp b o e)
    rw [nw b z] at e; cases e
  intro k
  induction k with
  | zero =>
    rintro i s ek hi hst kp ⟨L, es, ep, t, hS, g⟩ fin
    obtain rfl : i = n := by omega
    apply codeAny_builtin F.entry_set_update_loop
    rw [Around.under_plainId F.plain_set_update_loop _]
    show wpAny _ A.in1 (pyNext (.ref It) >>= _) _ _ s
    refine wpAny_bind (Wk.done s _ _ hst fun s1 mv => ?_)
    show wpAny _ A.in1 (ret Value.none) _ _ s1
    have kp1 := kept mv kp
    refine wpAny_pure (fin s1 L es ep t (mv.mono incl) (hS.keep (fun o e => mv.heap S o nSw e) fun q hq => ?_) g kp1)
    exact isT_keep (hk q (List.mem_of_mem_take (g.sub q hq))) kp1
  | succ k ih =>
    rintro i s ek hi hst kp ⟨L, es, ep, t, hS, g⟩ fin
    have hlt : i < n := by omega
    apply codeAny_builtin F.entry_set_update_loop
    rw [Around.under_plainId F.plain_set_update_loop _]
    show wpAny _ A.in1 (pyNext (.ref It) >>= _) _ _ s
    refine wpAny_bind (Wk.item i s _ _ hlt hst fun v s1 pv hst1 mv => ?_)
    obtain ⟨q, hq, rfl⟩ := hval i v pv
    have kp1 := kept mv kp
    have inks : ∀ r ∈ L, r ∈ ks := fun r hr => List.mem_of_mem_take (g.sub r hr)
    have hS1 : SetW P w s1.heap S L es ep t := hS.keep (fun o e => mv.heap S o nSw e) fun r hr => isT_keep (hk r (inks r hr)) kp1
    have hx : IsT P w s1.heap q.2 q.1 := isT_keep (hk q (List.mem_of_getElem? hq)) kp1
    have le : L.length ≤ Dk.length := by
      have z := few_of (D := Dk) hS.nd fun x hx => by
        obtain ⟨r, hr, e⟩ := List.mem_map.mp hx
        rw [← e]; exact hDk r (inks r hr)
      rw [List.length_map] at z; exact z
    show wpAny _ A.in1 (holding [Value.ref q.1] (setAdd S (.ref q.1)) >>= _) _ _ s1
    apply wpAny_bind
    apply wpAny_holding
    unfold setAdd
    apply wpAny_holding
    apply wpAny_bind
    refine wpAny_pyHash_tuple hu hx (SetW.add (s := { s1 with toks := s1.toks + (q.2.length + 1) }) hS1 hx hu (by omega) fun b h' L' es' ep' t' sb hS2 c1 c2 => ?_)
    have g' : Held ks (i + 1) L' := g.next hq c1 c2
    have kp2 : ∀ b o, h0.get? b = some o → h'.get? b = some o := by
      intro b o e
      refine (sb.2 b fun z => ?_).trans (kp1 b o e)
      rw [z, nS] at e; cases e
    refine wpAny_pure ⟨plainId_quiet F.plain_set_update_loop _, ih (i + 1) _ (by omega) hlt (Wk.frame _ s1 _ _ hst1 (Nat.le_add_right _ _) fun b hb o e => ?_) kp2 ⟨L', es', ep', t', hS2, g'⟩ fun s2 L2 es2 ep2 t2 mv2 hS3 g3 kp3 => ?_⟩
    · have nb : b ≠ S := fun z => hSf (z ▸ hb)
      exact (sb.2 b nb).trans e
    · refine fin s2 L2 es2 ep2 t2 (Moved.trans Wk.gtrans ((mv.mono incl).then_heap (Nat.le_add_right _ _) fun b o hb e => ?_) mv2) hS3 g3 kp3
      have nb : b ≠ S := fun z => hb (z ▸ List.mem_cons_self)
      exact (sb.2 b nb).trans e
set_option maxHeartbeats 3200000 in
theorem set_call {l : Addr} {items : Array Value} (ks : List (Addr × List Int)) {Q : Value → Shared → Prop} (hh : A.handled = none) (hl : s.heap.IsList l items) (hit : items.toList = ks.map fun q => Value.ref q.1) (hk : ∀ q ∈ ks, IsT P w s.heap q.2 q.1) (Dk : List (List Int)) (hDk : ∀ q ∈ ks, q.2 ∈ Dk) (hfew : Dk.length < 76) (hu : A.units + 3 < cLine)
    (fin : ∀ (h' : Heap) (tk : Nat) L es ep t, SetW P w h' s.heap.objs.size L es ep t → Held ks ks.length L → (∀ b o, s.heap.get? b = some o → h'.get? b = some o) → Q (.ref s.heap.objs.size) { s with heap := h', toks := tk }) :
    wpAny (model P w) A (call (.type "set") [.ref l]) Q E s := by
  have lens : items.size = ks.length := by
    rw [← Array.length_toList, hit, List.length_map]
  generalize eN : ({ cls := .type "set", dict := none, data := .set #[] 0 (.fresh 0 0 (!w.params.followText "set-order")) } : Obj) = oN
  obtain ⟨c, tl, hmro⟩ := F.called_set.mro
  have hmade := F.called_set.made
  have hsub := F.called_set.sub
  apply wpAny_call
  apply codeAny_of_tree
  show wpAny _ _ (callAny (.type "set") _) _ _ _
  refine wpAny_pure ⟨Code.quiet_builtin _ (by decide +kernel), codeAny_builtin F.entry_type_call ?_⟩
  rw [Around.under_plain (weight_type_call_type "set" [.ref l] []) rfl]
  have k1 := F.called_set.notType
  have k2 := F.called_set.canCreate
  have k3 := F.typeCall_set_1 (.ref l)
  repeat (any_goals (first | assumption | wp_step))
  have made := code_set_led1 (P := P) (w := w) (s := s) (A := A.in1) (.ref l) (E := E) (Q₁ := fun obj s₁ => obj = .ref s.heap.objs.size ∧ s₁ = { s with heap := s.heap.push oN }) (by rw [eN]; exact ⟨rfl, rfl⟩)
  refine codeAny_mono made fun r s₁ hr => ?_
  have nw : ∀ b, s.heap.objs.size ≤ b → s.heap.get? b = none := by
    intro b hb
    cases e : s.heap.get? b with
    | none => rfl
    | some o => exact absurd (Heap.lt_size e) (Nat.not_lt.mpr hb)
  have hN : (s.heap.push oN).get? s.heap.objs.size = some oN := by rw [← eN]; exact Heap.get?_push_size _ rfl
  match r, hr with
  | .error e, hr => exact hr
  | .ok (.ret obj), hr =>
    obtain ⟨rfl, rfl⟩ := hr
    have hT : Shared.TypeIs { s with heap := s.heap.push oN } (.ref s.heap.objs.size) "set" := ⟨_, hN, by rw [← eN]⟩
    have k4 := F.called_set.init.lookup
    have k5 := F.called_set.init.bind (.ref s.heap.objs.size)
    repeat (any_goals (first | assumption | wp_step))
    refine codeAny_mono (codeAny_call_builtin (R := wants (fun r s₂ => r = .none ∧ ∃ h' tk L es ep t, s₂ = { s with heap := h', toks := tk } ∧ SetW P w h' s.heap.objs.size L es ep t ∧ Held ks ks.length L ∧ ∀ b o, s.heap.get? b = some o → h'.get? b = some o) E) F.called_set.init.plain F.entry_set_init (check_set_init_1 hT ?_)) fun r₂ s₂ hr₂ => ?_
    · subst eN
      obtain ⟨⟨ocls, odict, odata, oslots⟩, hol, hcl, nl, hdl⟩ := hl
      simp only at hcl hdl
      subst hcl hdl
      have hol' : (s.heap.push { cls := .type "set", dict := none, data := .set #[] 0 (.fresh 0 0 (!w.params.followText "set-order")) }).get? l = _ := Heap.get?_push_of_some _ hol
      have j1 := F.sub_list_set
      have j2 := F.sub_list_frozenset
      have j3 : (Value.type "list" == Value.type "dict") = false := by decide
      have hl1 : Heap.IsList (s.heap.push { cls := .type "set", dict := none, data := .set #[] 0 (.fresh 0 0 (!w.params.followText "set-order")) }) l items := ⟨_, hol', rfl, nl, rfl⟩
      unfold Builtin.«set.__init__» noKeywords Builtin.Frozenset.updateFrom
      generalize hPI : pyIter = PI
      wp_walk
      subst hPI
      apply wpAny_pyIter_list hl1
      apply wpAny_bind
      apply wpAny_runValue
      have lS : l < s.heap.objs.size := Heap.lt_size hol
      have sz : ∀ o : Obj, (s.heap.push o).objs.size = s.heap.objs.size + 1 := fun o => Heap.size_push ..
      have ne1 : ∀ o : Obj, l ≠ (s.heap.push o).objs.size := fun o => by rw [sz]; exact Nat.ne_of_lt (Nat.lt_succ_of_lt lS)
      have ne2 : ∀ o : Obj, s.heap.objs.size ∉ [(s.heap.push o).objs.size, l] := by
        intro o z
        rw [sz] at z
        rcases List.mem_cons.mp z with z | z
        · exact absurd z (Nat.ne_of_lt (Nat.lt_succ_self _))
        · exact absurd (List.mem_singleton.mp z) (Nat.ne_of_gt lS)
      have vals : ∀ (i : Nat) (v : Value), items[i]? = some v → ∃ q, ks[i]? = some q ∧ v = .ref q.1 := by
        intro i v hv
        rw [← Array.getElem?_toList, hit, List.getElem?_map] at hv
        obtain ⟨q, e1, e2⟩ := Option.map_eq_some_iff.mp hv
        exact ⟨q, e1, e2.symm⟩
      refine upd_loop ((Walks.list (by simp [hh]) _ l (ne1 _) items).toS) s.heap.objs.size (ne2 _) ks lens Dk hDk hfew vals s.heap hk (nw _ (Nat.le_refl _)) (fun b hb => nw b (by rw [List.mem_singleton.mp hb, sz]; exact Nat.le_succ _)) hu (items.size - 0) 0 _ (by omega) (Nat.zero_le _)
        ⟨⟨_, Heap.get?_push_size _ rfl, rfl, rfl⟩, (hl1.push _)⟩ (fun b o e => Heap.get?_push_of_some _ (Heap.get?_push_of_some _ e)) ⟨[], #[], 0, _, .of (setTR_fresh (Heap.get?_push_of_some _ hN)), ⟨fun q z => (by cases z), fun q z => (by simp at z)⟩⟩ ?_
      rintro ⟨h', g2, d', tk', os'⟩ L es ep t mv hS' g' kp
      have eg : g2 = s.gens := mv.gens
      have ed : d' = s.drawn := mv.drawn
      have eo : os' = s.os := mv.os
      subst eg ed eo
      apply wpAny_pure
      show wpAny _ _ (ret Value.none) _ _ _
      rw [lens] at g'
      exact wpAny_pure ⟨rfl, h', tk', L, es, ep, t, rfl, hS', g', kp⟩
    · match r₂, hr₂ with
      | .error e, hr₂ => exact hr₂
      | .ok (.ret u), hr₂ =>
        obtain ⟨rfl, h', tk, L, es, ep, t, rfl, hS', g', kp⟩ := hr₂
        repeat (any_goals (first | assumption | wp_step))
        exact fin _ _ _ _ _ _ hS' g' kp
      | .ok .next, hr₂ => exact hr₂.elim
      | .ok .brk, hr₂ => exact hr₂.elim
      | .ok .cont, hr₂ => exact hr₂.elim
  | .ok .next, hr => exact hr.elim
  | .ok .brk, hr => exact hr.elim
  | .ok .cont, hr => exact hr.elim
end
end J
namespace J
open PySem PySem.Spec PySem.W L2 PyProof.Rows
section
variable {P : Program} {w : World} {A : Around} {E : Value → Shared → Prop} {s : Shared}
/-- sorted(v): from what is collected -/
theorem sorted_any {β : Type} {v : Value} {enc : β → PyData} {R : Value → β → Prop} {Q : Value → Shared → Prop}
    (hcol : wpAny (model P w) A.in1 (collect v) (fun vs s1 => ∃ bs : List β, EachIs R vs bs ∧ EachIs (fun v b => Reads s1.heap v (enc b) []) vs bs ∧ AllAlike (bs.map enc) ∧ Sortable (bs.map enc) ∧ bs.length ≤ sizeLine ∧ (∀ b ∈ bs, A.in1.units + 1 + (enc b).depth < cLine) ∧
      ∀ (out : List Value) (h' : Heap) (n : Nat), EachIs R out (bs.mergeSort (dataLe false enc)) → (∀ b o, s1.heap.get? b = some o → h'.get? b = some o) → h'.get? s1.heap.objs.size = some (seqObj "list" out.toArray n) → Q (.ref s1.heap.objs.size) { s1 with heap := h' }) E s) :
    wpAny (model P w) A (call (.builtin "sorted") [v]) Q E s := by
  apply Calls.call_function_entry kind_sorted plain_sorted entry_sorted (args_sorted1 _)
  unfold Builtin.«sorted»
  refine wpAny_bind (m := checkCount "sorted" 1 1 _) (wpAny_pure (wpAny_bind (wpAny_mono hcol (fun vs s1 z => ?_) fun _ _ z => z)))
  obtain ⟨bs, e, er, hal, hk, hL, hu, fin⟩ := z
  have hlv : vs.length ≤ sizeLine := by rw [e.length]; exact hL
  refine wpAny_bind (wpAny_newList ?_ hlv)
  have hoL : (s1.heap.push (seqObj "list" vs.toArray 0)).get? s1.heap.objs.size = some (seqObj "list" vs.toArray 0) := Heap.get?_push_size _ rfl
  refine wpAny_bind (wpAny_holding (list_sort_data (s := { s1 with heap := s1.heap.push (seqObj "list" vs.toArray 0) }) (R := R) (enc := enc) hoL e (er.mono fun v b r => ⟨[], PyProof.Rows.Reads.keeps (fun b o q => Heap.get?_push_of_some _ q) r, List.not_mem_nil⟩) hal hk hL hu fun out hl ho => ?_))
  obtain ⟨n, hn⟩ := sortedHeap_at (vs := vs) (out := out.toArray) hoL
  refine wpAny_pure ⟨_, rfl, fin out _ n ho (fun b o q => ?_) hn⟩
  have lt := Heap.lt_size q
  rw [sortedHeap_old (Nat.ne_of_lt lt) (by rw [size_push']; exact Nat.lt_succ_of_lt lt)]
  exact Heap.get?_push_of_some _ q
end
/-! the order of ints, and of tuples of ints -/
def intL : List VV → Option (List Int)
  | [] => some []
  | .int i :: xs => (intL xs).map fun r => i :: r
  | _ => none
def intsV : VV → Option (List Int)
  | .tup xs => intL xs
  | _ => none
def encV : VV → PyData
  | .int i => .int i
  | v => .tuple (((intsV v).getD []).map .int)
def isI : VV → Bool
  | .int _ => true
  | _ => false
def isT1 (v : VV) : Bool := match intsV v with
  | some (_ :: _) => true
  | _ => false
def okS (xs : List VV) : Bool := xs.all isI || xs.all isT1
def leS : VV → VV → Bool := dataLe false encV
def srt (xs : List VV) : Option VV := if okS xs = true then some (.lst (xs.mergeSort leS)) else none
def cSorted : OpN := fun h vs => match vs with
  | [.tup xs] => srt xs
  | [v] => (lstOf h v).bind srt
  | _ => none
theorem intL_vals {c : Ct} {z : Addr → Prop} {H : Hp} : ∀ {xs : List VV} {us : List V} {k : List Int}, RVs c z H xs us → intL xs = some k → us = k.map V.int
  | [], us, k, r, e => by
    cases e
    rw [RVs] at r
    rw [r]; rfl
  | x :: xs, us, k, r, e => by
    rw [RVs] at r
    obtain ⟨u, q, rfl, a, b⟩ := r
    cases x with
    | int i =>
      unfold intL at e
      obtain ⟨l, e3, e4⟩ := Option.map_eq_some_iff.mp e
      subst e4
      rw [intL_vals b e3, List.map_cons]
      rw [RV] at a
      rw [a]
    | _ => cases e
theorem reads_ints {h : Heap} : ∀ {k : List Int} {its : List Value}, Vals (k.map V.int) its → ReadsAll h its (k.map .int) []
  | [], _, r => by cases r; exact .nil
  | i :: k, _, r => by
    cases r with
    | cons a b =>
      obtain ⟨t, rfl⟩ := a
      exact ReadsAll.cons (as := []) (bs := []) (.int i t) (reads_ints b)
section
variable {X : Cx}
theorem reads_of {pins : List (Addr × Obj)} {σ : L2.St} {H : Hp} {s : Shared} {g : Gh} {v : VV} {u : V} {r : Value} (I : L2.Inv X pins σ H s) (h' : Heap) (hk : ∀ b o, s.heap.get? b = some o → h'.get? b = some o) (rv : RV (ct X) g.fz H v u) (ru : RelV u r) (ok : isI v = true ∨ isT1 v = true) : Reads h' r (encV v) [] := by
  cases v with
  | int i =>
    rw [RV] at rv
    subst rv
    obtain ⟨t, rfl⟩ := (show ∃ t, r = Value.int i t from ru)
    exact .int i t
  | tup xs =>
    have hi : isT1 (.tup xs) = true := by
      rcases ok with ok | ok
      · cases ok
      · exact ok
    have hi : (match intL xs with
      | some (_ :: _) => true
      | _ => false) = true := hi
    cases e : intL xs with
    | none => rw [e] at hi; cases hi
    | some k =>
      rw [RV] at rv
      obtain ⟨p, us, rfl, ta, rs⟩ := rv
      obtain rfl : r = Value.ref p := ru
      have eu := intL_vals rs e
      obtain ⟨its, rvs, ⟨o, ho, hc, n, hd⟩, _⟩ := I.tuple (X := X) ta.sq
      rw [eu] at rvs
      have ee : encV (.tup xs) = .tuple (k.map .int) := by
        show PyData.tuple (((intL xs).getD []).map .int) = _
        rw [e]; rfl
      rw [ee]
      exact .tuple (hk _ _ ho) hc hd (reads_ints (by simpa using rvs))
  | _ =>
    rcases ok with ok | ok <;> cases ok
theorem alikeS {xs : List VV} (ok : okS xs = true) : AllAlike (xs.map encV) ∧ Sortable (xs.map encV) ∧ (∀ x ∈ xs, isI x = true ∨ isT1 x = true) ∧ ∀ x ∈ xs, (encV x).depth ≤ 1 := by
  unfold okS at ok
  rcases Bool.or_eq_true _ _ ▸ ok with ok | ok
  · rw [List.all_eq_true] at ok
    have sh : ∀ x ∈ xs, ∃ i, x = .int i := fun x hx => by
      have q := ok x hx
      cases x with
      | int i => exact ⟨i, rfl⟩
      | _ => cases q
    refine ⟨fun d hd d' hd' => ?_, .inr fun d hd => ?_, fun x hx => .inl (ok x hx), fun x hx => ?_⟩
    · obtain ⟨x, hx, rfl⟩ := List.mem_map.mp hd
      obtain ⟨y, hy, rfl⟩ := List.mem_map.mp hd'
      obtain ⟨i, rfl⟩ := sh x hx
      obtain ⟨j, rfl⟩ := sh y hy
      rfl
    · obtain ⟨x, hx, rfl⟩ := List.mem_map.mp hd
      obtain ⟨i, rfl⟩ := sh x hx
      exact ⟨(fun z => nomatch z), (fun ys z => nomatch z)⟩
    · obtain ⟨i, rfl⟩ := sh x hx
      show PyData.depth (.int i) ≤ 1
      simp [PyData.depth]
  · rw [List.all_eq_true] at ok
    have sh : ∀ x ∈ xs, ∃ i k, encV x = .tuple ((i :: k).map .int) := fun x hx => by
      have q := ok x hx
      unfold isT1 at q
      cases e : intsV x with
      | none => rw [e] at q; cases q
      | some k =>
        rw [e] at q
        cases k with
        | nil => cases q
        | cons i k =>
          refine ⟨i, k, ?_⟩
          cases x with
          | tup ys =>
            show PyData.tuple (((intsV (.tup ys)).getD []).map .int) = _
            rw [e]; rfl
          | _ => cases e
    refine ⟨fun d hd d' hd' => ?_, .inl fun d hd => ?_, fun x hx => .inr (ok x hx), fun x hx => ?_⟩
    · obtain ⟨x, hx, rfl⟩ := List.mem_map.mp hd
      obtain ⟨y, hy, rfl⟩ := List.mem_map.mp hd'
      obtain ⟨i, k, e1⟩ := sh x hx
      obtain ⟨j, l, e2⟩ := sh y hy
      rw [e1, e2]
      show alikeAll _ _ = true
      exact alike_ints _ _
    · obtain ⟨x, hx, rfl⟩ := List.mem_map.mp hd
      obtain ⟨i, k, e1⟩ := sh x hx
      exact ⟨.int i, k.map .int, e1⟩
    · obtain ⟨i, k, e1⟩ := sh x hx
      rw [e1]
      simp only [PyData.depth, depth_ints]
      decide
end
end J
namespace J
open PySem PySem.W L2
theorem each_zip {c : Ct} {z : Addr → Prop} {H : Hp} {T : Value → VV × V → Prop} : ∀ {ys : List VV} {ws : List V} {its : List Value}, RVs c z H ys ws → Vals ws its → (∀ y ∈ ys, ∀ w r, RV c z H y w → RelV w r → T r (y, w)) → EachIs T its (ys.zip ws)
  | [], ws, its, r, v, _ => by
    rw [RVs] at r
    subst r
    cases v
    exact .nil
  | y :: ys, ws, its, r, v, h => by
    rw [RVs] at r
    obtain ⟨w, q, rfl, a, b⟩ := r
    cases v with
    | cons v1 v2 => exact .cons (h y List.mem_cons_self w _ a v1) (each_zip b v2 fun y hy => h y (List.mem_cons_of_mem _ hy))
theorem zip_mem {c : Ct} {z : Addr → Prop} {H : Hp} : ∀ {ys : List VV} {ws : List V}, RVs c z H ys ws → ∀ p ∈ ys.zip ws, RV c z H p.1 p.2
  | [], ws, r, p, hp => by simp at hp
  | y :: ys, ws, r, p, hp => by
    rw [RVs] at r
    obtain ⟨w, q, rfl, a, b⟩ := r
    rcases List.mem_cons.mp hp with e | hp
    · rw [e]; exact a
    · exact zip_mem b p hp
theorem rvs_pairs {c : Ct} {z : Addr → Prop} {H : Hp} : ∀ {L : List (VV × V)}, (∀ p ∈ L, RV c z H p.1 p.2) → RVs c z H (L.map (·.1)) (L.map (·.2))
  | [], _ => RVs.nil
  | p :: L, h => RVs.cons (h p List.mem_cons_self) (rvs_pairs fun q hq => h q (List.mem_cons_of_mem _ hq))
theorem vals_pairs : ∀ {L : List (VV × V)} {out : List Value}, EachIs (fun r p => RelV p.2 r) out L → Vals (L.map (·.2)) out
  | [], _, .nil => .nil
  | p :: L, _, .cons a b => .cons a (vals_pairs b)
section
variable {X : Cx}
theorem fst_zip {ys : List VV} {ws : List V} (hl : ys.length = ws.length) : (ys.zip ws).map (·.1) = ys := by
  rw [List.map_fst_zip]; omega
theorem sort_map {ys : List VV} {ws : List V} (hl : ys.length = ws.length) : ((ys.zip ws).mergeSort (dataLe false fun p => encV p.1)).map (·.1) = ys.mergeSort leS := by
  have q := List.map_mergeSort (r := dataLe false fun p : VV × V => encV p.1) (s := leS) (f := fun p : VV × V => p.1) (l := ys.zip ws) (fun a _ b _ => rfl)
  rw [q, fst_zip hl]
theorem sort_fin {pins : List (Addr × Obj)} {σ : St} {H : Hp} {s : Shared} {g : Gh} {h : VH} {ys : List VV} {ws : List V} {Q : VK} {h1 h' : Heap} {out : List Value} {n : Nat} (I : Inv X pins σ H { s with heap := h1 }) (rh : RH (ct X) g h H) (rvs : RVs (ct X) g.fz H ys ws) (hz : ys.length ≤ sizeLine)
    (kk : ∀ g' H' u, Stp g H g' H' → RH (ct X) g' h H' → RT (ct X) g' H' (.lst (ys.mergeSort leS)) u → Q u H')
    (ho : EachIs (fun r p => RelV p.2 r) out ((ys.zip ws).mergeSort (dataLe false fun p => encV p.1))) (kp : ∀ b o, h1.get? b = some o → h'.get? b = some o) (hn : h'.get? h1.objs.size = some (PyProof.Rows.seqObj "list" out.toArray n)) : EP X pins σ Q (.ref h1.objs.size) { s with heap := h' } := by
  generalize eL : (ys.zip ws).mergeSort (dataLe false fun p => encV p.1) = L at ho
  have hl := rvs.len
  have eys : L.map (·.1) = ys.mergeSort leS := by rw [← eL]; exact sort_map hl
  have hin : ∀ p ∈ L, RV (ct X) g.fz H p.1 p.2 := fun p hp => zip_mem rvs p (by rw [← eL] at hp; exact List.mem_mergeSort.mp hp)
  have va := vals_pairs ho
  have fr : H h1.objs.size = none := I.hok.fresh (Nat.le_refl _)
  have lenL : (L.map (·.2)).length ≤ sizeLine := by
    rw [List.length_map, ← List.length_map (f := fun p : VV × V => p.1), eys, List.length_mergeSort]; exact hz
  have I2 : Inv X pins σ (upd H h1.objs.size (.lst (L.map (·.2)))) { s with heap := h' } := I.laid (t' := s.toks) kp (Nat.le_refl _) ⟨lenL, out, n, va, hn⟩
  obtain ⟨s1, s2, s3⟩ := new_lst rh fr (rvs_pairs hin)
  rw [eys] at s3
  exact ⟨.ref h1.objs.size, _, I2, rfl, kk _ _ _ s1 s2 s3⟩
theorem sort_core {pins : List (Addr × Obj)} {σ : St} {H : Hp} {s : Shared} {g : Gh} {h : VH} {ys : List VV} {ws : List V} {its : List Value} {Q : VK} {p : Addr} {o : Obj} {n : Nat} {T : String} (hu : X.A.units + 64 < cLine) (I : Inv X pins σ H s) (rh : RH (ct X) g h H) (rvs : RVs (ct X) g.fz H ys ws) (va : Vals ws its)
    (hT : T = "list" ∨ T = "tuple") (ho : s.heap.get? p = some o) (hc : o.cls = .type T) (hd : o.data = .seq its.toArray n) (hz : ys.length ≤ sizeLine) (ok : okS ys = true)
    (kk : ∀ g' H' u, Stp g H g' H' → RH (ct X) g' h H' → RT (ct X) g' H' (.lst (ys.mergeSort leS)) u → Q u H') : wpAny (model X.prog X.w) X.A (call (.builtin "sorted") [.ref p]) (EP X pins σ Q) X.xe s := by
  obtain ⟨q1, q2, q3, q4⟩ := alikeS ok
  have hl := rvs.len
  have lits : its.toArray.size ≤ sizeLine := by
    rw [List.size_toArray, ← va.length, ← hl]; exact hz
  refine sorted_any (enc := fun p : VV × V => encV p.1) (R := fun r p => RelV p.2 r) (wpAny_collect_seq p hT ho hc hd (fun h1 kp => ?_) lits)
  have I1 : Inv X pins σ H { s with heap := h1 } := I.kept (t' := s.toks) kp
  have em : (ys.zip ws).map (fun p => encV p.1) = ys.map encV := by
    have : (ys.zip ws).map (fun p => encV p.1) = ((ys.zip ws).map (·.1)).map encV := by rw [List.map_map]; rfl
    rw [this, fst_zip hl]
  refine ⟨ys.zip ws, ?_, ?_, by rw [em]; exact q1, by rw [em]; exact q2, ?_, fun b hb => ?_, fun out h' n a1 a2 a3 => sort_fin I1 rh rvs hz kk a1 a2 a3⟩
  · exact each_zip rvs va fun y hy w r _ q => q
  · exact each_zip rvs va fun y hy w r a q => reads_of I h1 kp a q (q3 y hy)
  · rw [List.length_zip]; omega
  · have : b.1 ∈ ys := (List.of_mem_zip hb).1
    have d := q4 b.1 this
    show X.A.units + 1 + 1 + _ < _
    omega
theorem cr_sortedJ (hu : X.A.units + 64 < cLine) : CallR X (.builtin "sorted") (RdN (ct X) cSorted) := by
  intro pins s σ H xs us Q I r h
  obtain ⟨g, hh, vs, rr, rh, rv, e, kk⟩ := h
  have srt_of : ∀ {ys : List VV} {v : VV}, srt ys = some v → okS ys = true ∧ v = .lst (ys.mergeSort leS) := by
    intro ys v e
    unfold srt at e
    split at e
    · rename_i c
      cases e
      exact ⟨c, rfl⟩
    · cases e
  unfold cSorted at e
  split at e
  · obtain ⟨u, q, rfl, a, rfl⟩ := rv
    obtain ⟨p, ws, eu, ta, rvs⟩ := tup_get a
    subst eu
    obtain ⟨ok, ev⟩ := srt_of e
    subst ev
    rw [Vals.ref1 r]
    obtain ⟨its, va, ⟨o, ho, hc, n, hd⟩, hz⟩ := I.tuple (X := X) ta.sq
    exact sort_core hu I rh rvs va (.inr rfl) ho hc hd (by rw [rvs.len]; exact hz) ok kk
  · obtain ⟨ys, e1, e2⟩ := Option.bind_eq_some_iff.mp e
    obtain ⟨u, q, rfl, a, rfl⟩ := rv
    obtain ⟨p, ws, eu, sq, rvs⟩ := lstOf_get rh a e1
    subst eu
    obtain ⟨ok, ev⟩ := srt_of e2
    subst ev
    rw [Vals.ref1 r]
    obtain ⟨its, va, pl, hz⟩ := I.list (X := X) sq
    obtain ⟨o, ho, hc, n, hd⟩ := pl.isList
    exact sort_core hu I rh rvs va (.inl rfl) ho hc hd (by rw [rvs.len]; exact hz) ok kk
  · cases e
end
end J
namespace J
open PySem PySem.W L2
def tupI (k : List Int) : VV := .tup (k.map .int)
theorem intL_map : ∀ k : List Int, intL (k.map .int) = some k
  | [] => rfl
  | i :: k => by show (intL (k.map .int)).map _ = _; rw [intL_map k]; rfl
theorem intL_inv : ∀ {xs : List VV} {k : List Int}, intL xs = some k → xs = k.map .int
  | [], k, e => by cases e; rfl
  | x :: xs, k, e => by
    cases x with
    | int i =>
      obtain ⟨l, e3, e4⟩ := Option.map_eq_some_iff.mp (show (intL xs).map (fun r => i :: r) = some k from e)
      subst e4
      rw [intL_inv e3]; rfl
    | _ => cases e
theorem intsV_inv {v : VV} {k : List Int} (e : intsV v = some k) : v = tupI k := by
  cases v with
  | tup xs => rw [intL_inv (show intL xs = some k from e)]; rfl
  | _ => cases e
theorem intsV_tupI {k : List Int} : intsV (tupI k) = some k := intL_map k
theorem encV_tupI {k : List Int} : encV (tupI k) = .tuple (k.map .int) := by
  show PyData.tuple (((intsV (tupI k)).getD []).map .int) = _
  rw [intsV_tupI]; rfl
theorem leS_tup {a b : List Int} : leS (tupI a) (tupI b) = decide (a ≤ b) := by
  show (!dataLt (encV (tupI b)) (encV (tupI a))) = _
  rw [encV_tupI, encV_tupI, dataLt_tuple]
  show (!rowLt (b.map .int) (a.map .int)) = _
  rw [dataLt_ints]
  by_cases h : b < a
  · have h' : ¬ a ≤ b := fun r => List.not_lt.mpr r h
    simp [h, h']
  · have h' : a ≤ b := List.not_lt.mp h
    simp [h, h']
theorem leS_int {a b : Int} : leS (.int a) (.int b) = decide (a ≤ b) := by
  show (!dataLt (.int b) (.int a)) = _
  rw [dataLt_int]
  by_cases h : b < a
  · have h' : ¬ a ≤ b := by omega
    simp [h, h']
  · have h' : a ≤ b := by omega
    simp [h, h']
def leL (a b : List Int) : Bool := decide (a ≤ b)
theorem leL_total (a b : List Int) : (leL a b || leL b a) = true := by
  unfold leL
  rcases List.le_total a b with h | h
  · simp [h]
  · simp [h]
theorem leL_trans (a b c : List Int) (h1 : leL a b = true) (h2 : leL b c = true) : leL a c = true := by
  unfold leL at *
  simp only [decide_eq_true_eq] at *
  exact List.le_trans h1 h2
theorem leL_anti {a b : List Int} (h1 : leL a b = true) (h2 : leL b a = true) : a = b := by
  unfold leL at *
  simp only [decide_eq_true_eq] at *
  exact List.le_antisymm h1 h2
/-- two orders of the same things -/
theorem sort_perm {l m : List (List Int)} (p : l.Perm m) : l.mergeSort leL = m.mergeSort leL := by
  have s1 := List.pairwise_mergeSort leL_trans leL_total l
  have s2 := List.pairwise_mergeSort leL_trans leL_total m
  refine List.Perm.eq_of_pairwise (le := fun a b => leL a b = true) (fun a b _ _ h1 h2 => leL_anti h1 h2) s1 s2 ?_
  exact (List.mergeSort_perm l leL).trans (p.trans (List.mergeSort_perm m leL).symm)
def cSortSet : OpN := fun h vs => match vs with
  | [v] => (lstOf h v).bind fun xs => if xs.all isT1 = true ∧ (xs.filterMap intsV).eraseDups.length < 76 then some (.lst ((((xs.filterMap intsV).eraseDups).mergeSort leL).map tupI)) else none
  | _ => none
section
variable {X : Cx} {W : WX}
/-- set(xs), tuples of ints, less than 76 of them unlike -/
def rSetFew (K : PySem.W.Frag) (P : Program) (w : World) : List V → Hp → VK → Prop := fun xs H Q => ∃ (l : Addr) (ks : List (Addr × List Int)) (Dk : List (List Int)), xs = [V.ref l] ∧ SqL K H l (ks.map fun q => V.ref q.1) ∧ (∀ q ∈ ks, SqT K H q.1 (q.2.map V.int)) ∧ (∀ q ∈ ks, q.2 ∈ Dk) ∧ Dk.length < 76 ∧
  ∀ S L, H S = none → (∀ q ∈ L, q ∈ ks) → (∀ q ∈ ks, q.2 ∈ L.map (·.2)) → (L.map (·.2)).Nodup → Q (.ref S) (upd H S (SetWO P w S L))
theorem cr_setFew (hc : X.calm = true) (hu : X.A.units + 64 < cLine) : CallR X (.type "set") (rSetFew X.K X.prog X.w) := by
  intro pins s σ H xs us Q I r h
  obtain ⟨l, ks, Dk, rfl, hl, hk, hD, hf, q⟩ := h
  rw [Vals.ref1 r]
  obtain ⟨its, rv, pl, hz⟩ := I.list hl
  have fr : H s.heap.objs.size = none := I.hok.fresh (Nat.le_refl _)
  have eits : its.toArray.toList = ks.map fun q => Value.ref q.1 := by simpa using refs_of_vals rv
  refine set_call (P := X.prog) (w := X.w) ks (I.ok.hd hc) pl.isList eits (fun p hp => I.isT (hk p hp)) Dk hD hf (by omega) fun h' tk L es ep t R g k => ?_
  have I2 := I.laid (t' := tk) (o := SetWO X.prog X.w s.heap.objs.size L) k (Nat.le_refl _) (setWO_new R.t0)
  refine ⟨.ref s.heap.objs.size, _, I2, rfl, q _ L fr (fun p hp => List.mem_of_mem_take (g.sub p hp)) (fun p hp => ?_) R.nd⟩
  refine g.all p ?_
  rw [List.take_length]; exact hp
/-- sorted of it -/
def rSortFew (K : PySem.W.Frag) (P : Program) (w : World) : List V → Hp → VK → Prop := fun vs H Q => ∃ (S : Addr) (L : List (Addr × List Int)), vs = [V.ref S] ∧ H S = some (SetWO P w S L) ∧ (∀ q ∈ L, SqT K H q.1 (q.2.map V.int)) ∧ (∀ q ∈ L, q.2 ≠ []) ∧
  ∀ (L' : List (Addr × List Int)) (p : Addr), L'.Perm L → L'.map (·.2) = (L.map (·.2)).mergeSort leL → H p = none → Q (.ref p) (upd H p (.lst (L'.map fun q => V.ref q.1)))
theorem refs_back : ∀ {L : List (Addr × List Int)} {vs : List Value}, EachIs (fun r (q : Addr × List Int) => r = Value.ref q.1) vs L → vs = L.map fun q => Value.ref q.1
  | [], _, .nil => rfl
  | q :: L, _, .cons a b => by rw [a, refs_back b]; rfl
theorem perm_refs {L : List (Addr × List Int)} (nd : (L.map fun q => Value.ref q.1).Nodup) : ∀ {vs : List Value}, vs.Perm (L.map fun q => Value.ref q.1) → ∃ L1 : List (Addr × List Int), vs = L1.map (fun q => Value.ref q.1) ∧ L1.Perm L := by
  intro vs pm
  -- the value's row
  have find : ∀ v ∈ vs, ∃ q ∈ L, v = Value.ref q.1 := fun v hv => by
    obtain ⟨q, hq, e⟩ := List.mem_map.mp (pm.mem_iff.mp hv)
    exact ⟨q, hq, e.symm⟩
  have pick : ∀ vs : List Value, (∀ v ∈ vs, ∃ q ∈ L, v = Value.ref q.1) → ∃ L1 : List (Addr × List Int), vs = L1.map (fun q => Value.ref q.1) ∧ ∀ q ∈ L1, q ∈ L := by
    intro vs
    induction vs with
    | nil => exact fun _ => ⟨[], rfl, fun q z => by cases z⟩
    | cons v vs ih =>
      intro hv
      obtain ⟨q, hq, e⟩ := hv v List.mem_cons_self
      obtain ⟨L1, e1, h1⟩ := ih fun u z => hv u (List.mem_cons_of_mem _ z)
      refine ⟨q :: L1, by rw [e, e1]; rfl, fun r hr => ?_⟩
      cases hr with
      | head => exact hq
      | tail _ z => exact h1 r z
  obtain ⟨L1, e1, h1⟩ := pick vs find
  refine ⟨L1, e1, ?_⟩
  have ndL : L.Nodup := nodup_of_map nd
  have nd1 : (L1.map fun q => Value.ref q.1).Nodup := by rw [← e1]; exact pm.nodup_iff.mpr nd
  have inj : ∀ q ∈ L, ∀ r ∈ L, q.1 = r.1 → q = r := by
    intro q hq r hr e
    obtain ⟨i, hi, ei⟩ := List.getElem_of_mem hq
    obtain ⟨j, hj, ej⟩ := List.getElem_of_mem hr
    have : i = j := by
      refine (List.getElem?_inj (by rw [List.length_map]; exact hi) nd).mp ?_
      rw [List.getElem?_map, List.getElem?_map, List.getElem?_eq_getElem hi, List.getElem?_eq_getElem hj, ei, ej, Option.map_some, Option.map_some, e]
    subst this
    rw [← ei, ← ej]
  refine (List.perm_ext_iff_of_nodup (nodup_of_map nd1) ndL).mpr fun q => ⟨h1 q, fun hq => ?_⟩
  have : Value.ref q.1 ∈ L1.map fun q => Value.ref q.1 := by
    rw [← e1]; exact pm.mem_iff.mpr (List.mem_map.mpr ⟨q, hq, rfl⟩)
  obtain ⟨r, hr, e⟩ := List.mem_map.mp this
  have er : r = q := inj r (h1 r hr) q hq (by injection e)
  rw [← er]; exact hr
theorem cr_sortFew (hc : X.calm = true) (hu : X.A.units + 64 < cLine) : CallR X (.builtin "sorted") (rSortFew X.K X.prog X.w) := by
  intro pins s σ H vs us Q I r h
  obtain ⟨S, L, rfl, hS, hk, hne, q⟩ := h
  have R0 : SetW0 X.prog X.w s.heap S L := (I.hok S _ hS).1
  obtain ⟨es, ep, t, R⟩ := R0.full fun p hp => I.isT (hk p hp)
  rw [Vals.ref1 r]
  obtain ⟨o, ho, hex, hd⟩ := R.ob
  have esz := R.size
  have few : L.length < 77 := by
    have z1 := R.room
    have z2 := R.tab.mok
    unfold MaskOk at z2
    omega
  have rows : es.toList.map (·.2) = L.map fun q => Value.ref q.1 := by
    rw [R.rows]
    unfold L2.rowsOf
    rw [List.map_map]; rfl
  have nd : (L.map fun q => Value.ref q.1).Nodup := by
    have nL : L.Nodup := nodup_of_map R.nd
    refine List.pairwise_map.mpr (List.Pairwise.imp_of_mem (fun {a b} ha hb hab e => hab ?_) nL)
    have e1 : a.1 = b.1 := by injection e
    have t1 := R.tup a ha
    have t2 := R.tup b hb
    rw [e1] at t1
    exact Prod.ext e1 (t1.inj t2)
  refine sorted_any (enc := fun q : Addr × List Int => PyData.tuple (q.2.map .int)) (R := fun r q => r = Value.ref q.1) (collect_set (A := X.A.in1) (I.ok.hd hc) ⟨o, ho, hex.1, hd⟩ R.fits (show es.size < 4096 by omega) R.tab.ris R.led fun s1 vs k1 hz g1 o1 pm => ?_)
  rw [rows] at pm
  obtain ⟨L1, eL1, pL1⟩ := perm_refs nd pm
  have mem : ∀ q ∈ L1, q ∈ L := fun q hq => pL1.mem_iff.mp hq
  have mk : ∀ {T : Value → Addr × List Int → Prop} (M : List (Addr × List Int)), (∀ q ∈ M, T (.ref q.1) q) → EachIs T (M.map fun q => Value.ref q.1) M := by
    intro T M
    induction M with
    | nil => exact fun _ => .nil
    | cons q M ih => exact fun h => .cons (h q List.mem_cons_self) (ih fun r hr => h r (List.mem_cons_of_mem _ hr))
  refine ⟨L1, by rw [eL1]; exact mk L1 fun q _ => rfl, by
    rw [eL1]
    refine mk L1 fun q hq => ?_
    obtain ⟨its, rvs, ⟨ob, hob, hcb, n, hdb⟩, _⟩ := I.tuple (X := X) (hk q (mem q hq))
    exact .tuple (k1 _ _ hob) hcb hdb (reads_ints (by simpa using rvs)), ?_, ?_, by rw [pL1.length_eq, sizeLine_eq]; omega, fun b hb => ?_, fun out h' n a1 a2 a3 => ?_⟩
  · exact AllAlike.of fun a b => by
      show alikeAll _ _ = true
      exact alike_ints _ _
  · refine .inl fun d hd => ?_
    obtain ⟨q, hq, rfl⟩ := List.mem_map.mp hd
    obtain ⟨a, k⟩ := q
    cases k with
    | nil => exact absurd rfl (hne _ (mem _ hq))
    | cons i k => exact ⟨.int i, k.map .int, rfl⟩
  · show X.A.units + 1 + 1 + PyData.depth (.tuple _) < _
    simp only [PyData.depth, depth_ints]
    omega
  · generalize eM : L1.mergeSort (dataLe false fun q : Addr × List Int => PyData.tuple (q.2.map .int)) = M at a1
    have eo := refs_back a1
    have pM : M.Perm L := by rw [← eM]; exact (List.mergeSort_perm _ _).trans pL1
    have kM : M.map (·.2) = (L.map (·.2)).mergeSort leL := by
      have qq := List.map_mergeSort (r := dataLe false fun q : Addr × List Int => PyData.tuple (q.2.map .int)) (s := leL) (f := fun q : Addr × List Int => q.2) (l := L1) (fun a _ b _ => by
        have z := leS_tup (a := a.2) (b := b.2)
        unfold leS at z
        show dataLe false _ a b = _
        have z' : dataLe false (fun q : Addr × List Int => PyData.tuple (q.2.map .int)) a b = dataLe false encV (tupI a.2) (tupI b.2) := by
          show (!dataLt _ _) = (!dataLt _ _)
          rw [encV_tupI, encV_tupI]
        rw [z', z]; rfl)
      rw [← eM, qq]
      exact sort_perm (pL1.map _)
    have hlen : (M.map fun q => V.ref q.1).length ≤ sizeLine := by
      rw [List.length_map, pM.length_eq, sizeLine_eq]; omega
    have fr : H s1.heap.objs.size = none := I.hok.fresh hz
    have va : Vals (M.map fun q => V.ref q.1) out := by rw [eo]; exact vals_of_refs M
    have k2 : ∀ b u, s.heap.get? b = some u → h'.get? b = some u := fun b u e => a2 b u (k1 b u e)
    have I2 : Inv X pins σ (upd H s1.heap.objs.size (.lst (M.map fun q => V.ref q.1))) { s with heap := h', gens := s1.gens, drawn := s1.drawn, toks := s1.toks } :=
      I.call (ch := []) (Un.laid k2 hz fr) (I.hok.laid k2 hz ⟨hlen, out, n, va, a3⟩) (by rw [g1]; exact I.bare) (fun _ z => nomatch z)
    have es1 : ({ s1 with heap := h' } : Shared) = { s with heap := h', gens := s1.gens, drawn := s1.drawn, toks := s1.toks } := by
      rw [← o1]
    rw [es1]
    exact ⟨.ref s1.heap.objs.size, _, I2, rfl, q M _ pM kM fr⟩
end
end J
namespace J
open PySem PySem.W L2
theorem rows_of {c : Ct} {g : Gh} {H : Hp} : ∀ {xs : List VV} {ws : List V}, RVs c g.fz H xs ws → xs.all isT1 = true → ∃ ks : List (Addr × List Int), ws = ks.map (fun q => V.ref q.1) ∧ xs.filterMap intsV = ks.map (·.2) ∧ ∀ q ∈ ks, q.2 ≠ [] ∧ RV c g.fz H (tupI q.2) (.ref q.1) ∧ SqT c.K H q.1 (q.2.map V.int)
  | [], ws, r, _ => by
    rw [RVs] at r
    exact ⟨[], r, rfl, fun q z => by cases z⟩
  | x :: xs, ws, r, h => by
    rw [RVs] at r
    obtain ⟨w, q, rfl, a, b⟩ := r
    rw [List.all_cons, Bool.and_eq_true] at h
    obtain ⟨ks, e1, e2, e3⟩ := rows_of b h.2
    have h1 := h.1
    unfold isT1 at h1
    cases e : intsV x with
    | none => rw [e] at h1; cases h1
    | some k =>
      rw [e] at h1
      have ex := intsV_inv e
      subst ex
      have nk : k ≠ [] := fun z => by subst z; cases h1
      have a' := a
      unfold tupI at a'
      rw [RV] at a'
      obtain ⟨p, us, rfl, ta, rs⟩ := a'
      have eu := intL_vals rs (intL_map k)
      subst eu
      refine ⟨(p, k) :: ks, by rw [e1]; rfl, by rw [List.filterMap_cons, e, e2]; rfl, fun q hq => ?_⟩
      rcases List.mem_cons.mp hq with z | z
      · rw [z]; exact ⟨nk, a, ta.sq⟩
      · exact e3 q z
theorem nodup_eraseDups_n : ∀ (n : Nat) (l : List (List Int)), l.length ≤ n → l.eraseDups.Nodup
  | _, [], _ => by simp
  | 0, _ :: _, h => by simp at h
  | n + 1, a :: l, h => by
    rw [List.eraseDups_cons, List.nodup_cons]
    refine ⟨fun z => ?_, nodup_eraseDups_n n _ (Nat.le_trans (List.length_filter_le _ _) (by simpa using h))⟩
    rw [List.mem_eraseDups, List.mem_filter] at z
    simp at z
theorem nodup_eraseDups (l : List (List Int)) : l.eraseDups.Nodup := nodup_eraseDups_n _ l (Nat.le_refl _)
section
variable {X : Cx} {W : WX}
theorem j_sortSet {a : Expr} {fa : EF} {p p2 pos pos2 : Pos} {k : Nat} (hr : Room k X.A) (hc : X.calm = true) (g1 : Gl X "sorted") (m1 : X.mg "sorted" = none) (g2 : Gl X "set") (m2 : X.mg "set" = none) (ha : PE X a (tE (ct X) W fa))
    (s1 : starEach [a] X.env = (false, eval a X.env) :: starEach [] X.env := by rfl) (q1 : (backTo pos2 (starEach [] X.env)).any (·.1) = false := by rfl)
    (s2 : starEach [.Call (.Name "set" p2) [a] [] pos2] X.env = (false, eval (.Call (.Name "set" p2) [a] [] pos2) X.env) :: starEach [] X.env := by rfl) (q2 : (backTo pos (starEach [] X.env)).any (·.1) = false := by rfl) :
    PE X (.Call (.Name "sorted" p) [.Call (.Name "set" p2) [a] [] pos2] [] pos) (tE (ct X) W (eCall cSortSet (aCons fa aNil))) := by
  have inner := pe_callTy (T := "set") (cr_setFew (X := X) hc hr.units) g2 m2 rfl (pa_cons ha pa_nil s1) (by decide) (by decide) s1 q1 (p := p2) (pos := pos2)
  refine PE.mono (pe_callB (id := "sorted") (cr_sortFew (X := X) hc hr.units) g1 m1 rfl (pa_cons inner pa_nil s2) (by decide) (by decide) s2 q2) fun σ H Q h => ?_
  obtain ⟨g, ρ, h0, rh, rs, pp⟩ := h
  refine ⟨g, ρ, h0, rh, rs, ?_⟩
  unfold eCall aCons aNil at pp
  cases er : fa ρ h0 with
  | no => rw [er] at pp; exact pp
  | exc => rw [er] at pp; exact pp
  | ok v h1 =>
    rw [er] at pp
    simp only [Res.bind] at pp
    intro g' H' u st rh' rv
    have pp := Pst.step st pp
    cases e1 : lstOf h1 v with
    | none => simp only [cSortSet, e1, Option.bind_none, lift] at pp; exact pp.elim
    | some xs =>
      by_cases cc : xs.all isT1 = true ∧ (xs.filterMap intsV).eraseDups.length < 76
      · simp only [cSortSet, e1, Option.bind_some, if_pos cc, lift] at pp
        obtain ⟨l, ws, rfl, sq, rvs⟩ := lstOf_get rh' rv e1
        obtain ⟨ks, e2, e3, e4⟩ := rows_of rvs cc.1
        subst e2
        refine ⟨l, ks, (xs.filterMap intsV).eraseDups, rfl, sq, fun q hq => (e4 q hq).2.2, fun q hq => ?_, cc.2, fun S L hS l1 l2 l3 => ?_⟩
        · rw [List.mem_eraseDups, e3]
          exact List.mem_map.mpr ⟨q, hq, rfl⟩
        · have stS : Stp g' H' g' (upd H' S (SetWO X.prog X.w S L)) := .junk rh' hS
          have rhS := rh'.junk (o := SetWO X.prog X.w S L) hS
          refine ⟨S, L, rfl, upd_same, fun q hq => ?_, fun q hq => (e4 q (l1 q hq)).1, fun M p pM kM hp => ?_⟩
          · obtain ⟨nk, rq, _⟩ := e4 q (l1 q hq)
            have rq' := stS.rv rq
            unfold tupI at rq'
            rw [RV] at rq'
            obtain ⟨b, us, eb, ta, rs'⟩ := rq'
            cases eb
            rw [← intL_vals rs' (intL_map q.2)]
            exact ta.sq
          · have pk : (L.map (·.2)).Perm (xs.filterMap intsV).eraseDups := by
              refine (List.perm_ext_iff_of_nodup l3 (nodup_eraseDups _)).mpr fun x => ?_
              rw [List.mem_eraseDups, e3]
              constructor
              · intro hx
                obtain ⟨q, hq, e⟩ := List.mem_map.mp hx
                exact List.mem_map.mpr ⟨q, l1 q hq, e⟩
              · intro hx
                obtain ⟨q, hq, e⟩ := List.mem_map.mp hx
                rw [← e]; exact l2 q hq
            have rM : RVs (ct X) g'.fz (upd H' S (SetWO X.prog X.w S L)) ((((xs.filterMap intsV).eraseDups).mergeSort leL).map tupI) (M.map fun q => V.ref q.1) := by
              rw [← sort_perm pk, ← kM, List.map_map]
              have : ∀ N : List (Addr × List Int), (∀ q ∈ N, q ∈ L) → RVs (ct X) g'.fz (upd H' S (SetWO X.prog X.w S L)) (N.map (tupI ∘ fun q => q.2)) (N.map fun q => V.ref q.1) := by
                intro N
                induction N with
                | nil => exact fun _ => RVs.nil
                | cons q N ih => exact fun hN => RVs.cons (stS.rv (e4 q (l1 q (hN q List.mem_cons_self))).2.1) (ih fun r hr => hN r (List.mem_cons_of_mem _ hr))
              exact this M fun q hq => pM.mem_iff.mp hq
            obtain ⟨a1, a2, a3⟩ := new_lst rhS hp rM
            exact pp _ _ _ (stS.trans a1) a2 a3
      · simp only [cSortSet, e1, Option.bind_some, if_neg cc, lift] at pp
        exact pp.elim
end
end J
namespace J
open PySem L2
/-! dicts with tuples as keys, by value -/
def dOf (h : VH) : VV → Option DA
  | .dT ks vs => some (ks, vs)
  | .obj n => match h[n]? with
    | some (.dT ks vs) => some (ks, vs)
    | some (.fzn (.dT ks vs)) => some (ks, vs)
    | _ => none
  | _ => none
theorem dOf_get {c : Ct} {g : Gh} {h : VH} {H : Hp} {v : VV} {u : V} {a : DA} (rh : RH c g h H) (rv : RT c g H v u) (e : dOf h v = some a) : ∃ p us, u = .ref p ∧ H p = some (.dT (a.1.zip us)) ∧ a.1.length = us.length ∧ RVs c g.fz H a.2 us := by
  cases v with
  | dT ks vs =>
    cases e
    have q := rv.rv rfl
    rw [RV] at q
    obtain ⟨p, us, a, b, d, l, r⟩ := q
    exact ⟨p, us, a, d, l, r⟩
  | obj n =>
    obtain ⟨b, ea, eu⟩ := rv
    unfold dOf at e
    simp only at e
    split at e
    · rename_i ks vs en
      cases e
      obtain ⟨_, us, d, l, r⟩ := rh.at' n _ b en ea
      exact ⟨b, us, eu, d, l, r⟩
    · rename_i ks vs en
      cases e
      obtain ⟨_, q⟩ := rh.at' n _ b en ea
      rw [RV] at q
      obtain ⟨p, us, z, y, d, l, r⟩ := q
      cases z
      exact ⟨b, us, eu, d, l, r⟩
    · cases e
  | _ => cases e
def getD : List (List Key) → List VV → List Key → Option VV
  | k' :: ks, v :: vs, k => if k' = k then some v else getD ks vs k
  | _, _, _ => none
theorem getD_val {c : Ct} {z : Addr → Prop} {H : Hp} {k : List Key} : ∀ {ks : List (List Key)} {vs : List VV} {us : List V}, ks.length = us.length → RVs c z H vs us → (∀ v, getD ks vs k = some v → ∃ u, valV (ks.zip us) k = some u ∧ RV c z H v u)
  | [], vs, us, _, _, v, e => by simp [getD] at e
  | x :: ks, vs, us, hl, r, v, e => by
    cases us with
    | nil => cases hl
    | cons u us =>
      cases vs with
      | nil => simp [getD] at e
      | cons y vs =>
        rw [RVs] at r
        obtain ⟨a1, a2, e1, a3, a4⟩ := r
        cases e1
        unfold getD at e
        by_cases ex : x = k
        · rw [if_pos ex] at e
          cases e
          exact ⟨u, by rw [List.zip_cons_cons]; exact valV_pos ex, a3⟩
        · rw [if_neg ex] at e
          obtain ⟨w, e2, r2⟩ := getD_val (Nat.succ.inj hl) a4 v e
          exact ⟨w, by rw [List.zip_cons_cons, valV_neg ex]; exact e2, r2⟩
theorem valV_has {k : List Key} {ks : List (List Key)} {us : List V} (hl : ks.length = us.length) : (valV (ks.zip us) k).isSome = hasK ks k := by
  unfold hasK
  induction ks generalizing us with
  | nil => simp [valV]
  | cons x ks ih =>
    cases us with
    | nil => cases hl
    | cons u us =>
      rw [List.zip_cons_cons, List.any_cons]
      by_cases ex : x = k
      · rw [valV_pos ex]; simp [ex]
      · rw [valV_neg ex, ih (Nat.succ.inj hl)]; simp [ex]
def opDGet : Op2 := fun h d i => (dOf h d).bind fun a => (keyV i).bind fun k => getD a.1 a.2 k
section
variable {X : Cx} {W : WX}
theorem j_dget {o i : Expr} {fo fi : EF} {pos : Pos} {k : Nat} (hr : Room k X.A) (ho : PE X o (tE (ct X) W fo)) (hi : PE X i (tE (ct X) W fi)) (hs : NoSl i) : PE X (.Subscript o i pos) (tE (ct X) W (eBin opDGet fo fi)) :=
  PE.mono (pe_dget (by have := hr.units; omega) ho hi hs) fun σ H Q h => by
    refine tOp_of (r := fun x y H Q => ∃ a v, x = .ref a ∧ DGet H a y (some v) ∧ Q v H) (fun x y H Q ⟨g, h, v, w, r, rh, rv, rw', e, kk⟩ => ?_) h
    unfold opDGet at e
    obtain ⟨a, e1, e2⟩ := Option.bind_eq_some_iff.mp e
    obtain ⟨k, e3, e4⟩ := Option.bind_eq_some_iff.mp e2
    obtain ⟨p, us, rfl, hp, hl, rvs⟩ := dOf_get rh rv e1
    obtain ⟨b, rfl, hb⟩ := keyV_at rw' e3
    obtain ⟨u, e5, r5⟩ := getD_val hl rvs r e4
    exact ⟨p, u, rfl, by rw [← e5]; exact .t hp hb, kk g H u .refl rh (RT.of_rv r5)⟩
theorem j_dnew {pos : Pos} : PE X (.Dict [] [] pos) (tE (ct X) W (fun _ h => .ok (.obj h.length) (h ++ [.dT [] []]))) :=
  PE.mono pe_dnewT fun σ H Q ⟨g, ρ, h, rh, rs, p⟩ q hq => by
    have st : Stp g H g (upd H q (.dT [])) := .junk rh hq
    have rh1 : RH (ct X) g h (upd H q (.dT [])) := rh.junk hq
    have nq : q ∉ g.io := fun z => by
      obtain ⟨o, e⟩ := rh.root z
      rw [hq] at e; cases e
    refine p (g.add q) _ (.ref q) (st.trans .add) (rh1.add nq (fun z => ?_) ⟨fun z => ?_, [], upd_same, rfl, RVs.nil⟩) ⟨q, ?_, rfl⟩
    · obtain ⟨o, e⟩ := rh.kp q z; rw [hq] at e; cases e
    · obtain ⟨o, e⟩ := rh.fz q z; rw [hq] at e; cases e
    · show (g.io ++ [q])[h.length]? = some q
      rw [← rh.len, List.getElem?_append_right (Nat.le_refl _), Nat.sub_self]; rfl
/-- d[k] = v, d a root -/
def setD (h : VH) (o i v : VV) : Option VH := match o with
  | .obj n => match h[n]? with
    | some (.dT ks vs) => (keyV i).bind fun k => if v.isObj = true ∨ ks.length ≥ SZ then none else some (h.set n (.dT (putKs ks k) (putVs ks vs k v)))
    | _ => none
  | _ => none
theorem setD_ok {c : Ct} {g : Gh} {h h' : VH} {H : Hp} {o i v : VV} {uo ui uv : V} (rh : RH c g h H) (ro : RT c g H o uo) (ri : RT c g H i ui) (rv : RT c g H v uv) (e : setD h o i v = some h') (Q : Hp → Prop) (k : ∀ H', Stp g H g H' → RH c g h' H' → Q H') : rSetD uo ui uv H Q := by
  unfold setD at e
  split at e
  · rename_i n
    split at e
    · rename_i ks vs en
      obtain ⟨key, e1, e2⟩ := Option.bind_eq_some_iff.mp e
      split at e2
      · cases e2
      · rename_i cc
        rw [not_or] at cc
        cases e2
        obtain ⟨a, ea, eo⟩ := ro
        obtain ⟨nz, us, hl, ln, rvs⟩ := rh.at' n _ a en ea
        obtain ⟨b, eb, hb⟩ := keyV_at ri e1
        have nk : ¬ g.kp a := fun z => (rh.kd a z).2 (List.mem_of_getElem? ea)
        have nt : ∀ ys, H a ≠ some (.tup ys) := fun ys z => by rw [hl] at z; cases z
        have st : Stp g H g (upd H a (.dT (putK (ks.zip us) key uv))) := Stp.wr (c := c) nz nk nt
        refine ⟨a, _, eo, by rw [eb]; exact .t hl hb (by rw [List.length_zip, ← ln, Nat.min_self]; exact SZ_lt (by omega)), k _ st (rh.wr ea nz nt ⟨nz, putVs ks us key uv, ?_, put_len ln _ _, ?_⟩)⟩
        · rw [upd_same, zip_put ln]
        · exact RVs.put ln (st.rvs rvs) (st.rv (rv.rv (by simpa using cc.1)))
    · cases e
  · cases e
def sSetD (o i e : EF) : SF := fun ρ h => (e ρ h).st ρ fun v h1 => (o ρ h1).st ρ fun ov h2 => (i ρ h2).st ρ fun iv h3 => match setD h3 ov iv v with
  | some h4 => .nx ρ h4
  | none => .no
theorem js_setD {o i e : Expr} {fo fi fe : EF} {pos pos' : Pos} {k : Nat} (hr : Room k X.A) (he : PE X e (tE (ct X) W fe)) (ho : PE X o (tE (ct X) W fo)) (hi : PE X i (tE (ct X) W fi))
    (ha : ∀ v, assign (.Subscript o i pos') X.env v = (do
      let ov ← holding [v] (eval o X.env)
      let iv ← holding [v, ov] (eval i X.env)
      standAt pos'
      holding [v, ov, iv] (setItem ov iv v)
      release [v, ov, iv] []) := by intro _; rfl)
    (hs : swapsWithSole [.Subscript o i pos'] e pos.line X.env = pure false := by rfl) (hw : swappedStores [.Subscript o i pos'] e X.env = pure none := by rfl) (h1 : (assignEach [.Subscript o i pos'] X.env).map (·.2) = [assign (.Subscript o i pos') X.env] := by rfl) :
    PS X (.Assign [.Subscript o i pos'] e pos) (tS (ct X) W (sSetD fo fi fe)) :=
  PS.mono (ps_asg he (pg_sub ho hi (set_dict (by have := hr.units; omega)) ha) hs hw h1) fun D σ H ⟨g, ρ, h, rh, rs, p⟩ => by
    refine ⟨g, ρ, h, rh, rs, (Pst.st (R := RT (ct X)) rs p).imp fun u H1 ⟨g1, v, h1, st, rh1, rs1, rv1, p1⟩ => ?_⟩
    refine ⟨g1, ρ, h1, rh1, rs1, (Pst.st (R := RT (ct X)) rs1 p1).imp fun u2 H2 ⟨g2, ov, h2, st2, rh2, rs2, rv2, p2⟩ => ?_⟩
    refine ⟨g2, ρ, h2, rh2, rs2, (Pst.st (R := RT (ct X)) rs2 p2).imp fun u3 H3 ⟨g3, iv, h3, st3, rh3, rs3, rv3, p3⟩ => ?_⟩
    cases e : setD h3 ov iv v with
    | none => rw [e] at p3; exact p3.elim
    | some h4 =>
      rw [e] at p3
      exact setD_ok rh3 (rv2.stp st3) rv3 ((rv1.stp st2).stp st3) e _ fun H' st' rh' => p3 g3 H' σ st' rh' (rs3.stp st')
def cLenD : OpN := fun h vs => match vs with
  | [d] => (dOf h d).map fun a => .int a.1.length
  | _ => none
theorem cr_lenD : CallR X (.builtin "len") (RdN (ct X) cLenD) :=
  CallR.imp call_len_dT fun xs H Q ⟨g, h, vs, r, rh, rv, e, kk⟩ => by
    unfold cLenD at e
    split at e
    · obtain ⟨a, e1, e2⟩ := Option.map_eq_some_iff.mp e
      cases e2
      obtain ⟨u, q, rfl, ra, rfl⟩ := rv
      obtain ⟨p, us, rfl, hp, hl, _⟩ := dOf_get rh ra e1
      refine ⟨p, _, rfl, hp, ?_⟩
      rw [List.length_zip, ← hl, Nat.min_self]
      exact kk g H _ .refl rh rt_int
    · cases e
def keyB : Key → VV
  | .inl i => .int i
  | .inr x => .str x
def cListD : OpN := fun h vs => match vs with
  | [d] => (dOf h d).map fun a => .lst (a.1.map fun k => .tup (k.map keyB))
  | _ => none
theorem rvs_key {c : Ct} {z : Addr → Prop} {H : Hp} : ∀ (k : List Key), RVs c z H (k.map keyB) (k.map kV)
  | [] => RVs.nil
  | x :: k => by
    refine RVs.cons ?_ (rvs_key k)
    cases x with
    | inl i => show RV c z H (.int i) _; rw [RV]; rfl
    | inr i => show RV c z H (.str i) _; rw [RV]; rfl
theorem cr_listD (hc : X.calm = true) : CallR X (.type "list") (RdN (ct X) cListD) :=
  CallR.imp (call_list_dT hc) fun xs H Q ⟨g, h, vs, r, rh, rv, e, kk⟩ => by
    unfold cListD at e
    split at e
    · obtain ⟨a, e1, e2⟩ := Option.map_eq_some_iff.mp e
      cases e2
      obtain ⟨u, q, rfl, ra, rfl⟩ := rv
      obtain ⟨p, us, rfl, hp, hl, _⟩ := dOf_get rh ra e1
      refine ⟨p, _, rfl, .inl hp, fun l bs hn hk => ?_⟩
      have rb : ∀ {ks : List (List Key)} {us : List V} {bs : List Addr}, ks.length = us.length → IsKeys H (ks.zip us) bs → RVs (ct X) g.fz H (ks.map fun k => .tup (k.map keyB)) (bs.map V.ref) := by
        intro ks
        induction ks with
        | nil =>
          intro us bs hl hk
          cases hk
          exact RVs.nil
        | cons k ks ih =>
          intro us bs hl hk
          cases us with
          | nil => cases hl
          | cons u us =>
            rw [List.zip_cons_cons] at hk
            cases hk with
            | cons h1 h2 =>
              refine RVs.cons ?_ (ih (Nat.succ.inj hl) h2)
              rw [RV]
              exact ⟨_, _, rfl, h1, rvs_key k⟩
      obtain ⟨s1, s2, s3⟩ := new_lst rh hn (rb hl hk)
      exact kk _ _ _ s1 s2 s3
    · cases e
end
end J
namespace J
open PySem L2
/-! instances -/
def lookN : List Str → List VV → Str → Option VV
  | n :: ns, v :: vs, f => if n = f then some v else lookN ns vs f
  | _, _, _ => none
def insOf (h : VH) : VV → Option (Str × List Str × List VV)
  | .ins c ns vs => some (c, ns, vs)
  | .obj n => match h[n]? with
    | some (.ins c ns vs) => some (c, ns, vs)
    | some (.fzn (.ins c ns vs)) => some (c, ns, vs)
    | _ => none
  | _ => none
theorem insOf_get {c : Ct} {g : Gh} {h : VH} {H : Hp} {v : VV} {u : V} {a : Str × List Str × List VV} (rh : RH c g h H) (rv : RT c g H v u) (e : insOf h v = some a) : ∃ p C dx us, u = .ref p ∧ c.mg a.1 = some (.ref C) ∧ H p = some (.ins C dx (a.2.1.zip us)) ∧ a.2.1.length = us.length ∧ RTs c g H a.2.2 us := by
  cases v with
  | ins x ns vs =>
    cases e
    have q := rv.rv rfl
    rw [RV] at q
    obtain ⟨p, C, dx, us, a, b, m, d, l, r⟩ := q
    exact ⟨p, C, dx, us, a, m, d, l, RTs.of_rvs r⟩
  | obj n =>
    obtain ⟨b, ea, eu⟩ := rv
    unfold insOf at e
    simp only at e
    split at e
    · rename_i x ns vs en
      cases e
      obtain ⟨_, C, dx, us, m, d, l, r⟩ := rh.at' n _ b en ea
      exact ⟨b, C, dx, us, eu, m, d, l, r⟩
    · rename_i x ns vs en
      cases e
      obtain ⟨_, q⟩ := rh.at' n _ b en ea
      rw [RV] at q
      obtain ⟨p, C, dx, us, z, y, m, d, l, r⟩ := q
      cases z
      exact ⟨b, C, dx, us, eu, m, d, l, RTs.of_rvs r⟩
    · cases e
  | _ => cases e
theorem lookup_cons_pos {f : Str} {n : Str} {u : V} {r : List (Str × V)} (e : n = f) : ((n, u) :: r).lookup f = some u := by
  subst e; simp
theorem lookup_cons_neg {f : Str} {n : Str} {u : V} {r : List (Str × V)} (e : ¬ n = f) : ((n, u) :: r).lookup f = r.lookup f := by
  have : (f == n) = false := by simpa using fun z => e z.symm
  simp [List.lookup_cons, this]
theorem lookN_val {c : Ct} {g : Gh} {H : Hp} {f : Str} : ∀ {ns : List Str} {vs : List VV} {us : List V}, ns.length = us.length → RTs c g H vs us → (∀ v, lookN ns vs f = some v → ∃ u, (ns.zip us).lookup f = some u ∧ RT c g H v u) ∧ (lookN ns vs f = none → (ns.zip us).lookup f = none)
  | [], vs, us, _, _ => ⟨fun v e => by simp [lookN] at e, fun _ => rfl⟩
  | x :: ns, vs, us, hl, r => by
    cases us with
    | nil => cases hl
    | cons u us =>
      cases vs with
      | nil =>
        have := RTs.len r
        simp at this
      | cons y vs =>
        obtain ⟨a1, a2, e1, a3, a4⟩ := r
        cases e1
        have ih := lookN_val (f := f) (Nat.succ.inj hl) a4
        unfold lookN
        rw [List.zip_cons_cons]
        by_cases ex : x = f
        · rw [if_pos ex, lookup_cons_pos ex]
          exact ⟨fun v e => by cases e; exact ⟨u, rfl, a3⟩, fun e => by cases e⟩
        · rw [if_neg ex, lookup_cons_neg ex]
          exact ih
def eFld (cn f : Str) (fe : EF) : EF := fun ρ h => (fe ρ h).bind fun v h1 => match insOf h1 v with
  | some a => if a.1 = cn then lift (lookN a.2.1 a.2.2 f) h1 else .no
  | none => .no
section
variable {X : Cx} {W : WX}
theorem j_fld {cn f : Str} {e : Expr} {fe : EF} {pos : Pos} (hcl : ∀ C, X.mg cn = some (.ref C) → Cls X.K C ∧ NoAttr X.K C f) (he : PE X e (tE (ct X) W fe)) (hb : attributeBase e f X.env (eval e X.env) = eval e X.env := by rfl) : PE X (.Attribute e f pos) (tE (ct X) W (eFld cn f fe)) :=
  PE.mono (pe_fld he hb) fun σ H Q ⟨g, ρ, h0, rh, rs, p⟩ => by
    refine ⟨g, ρ, h0, rh, rs, (Pst.bind (R := RT (ct X)) p).imp fun u H1 ⟨g1, v, h1, st, rh1, rv1, p1⟩ => ?_⟩
    cases e1 : insOf h1 v with
    | none => rw [e1] at p1; exact p1.elim
    | some a =>
      rw [e1] at p1
      simp only at p1
      by_cases cc : a.1 = cn
      · rw [if_pos cc] at p1
        obtain ⟨q, C, dx, us, rfl, m, hq, hl, rts⟩ := insOf_get rh1 rv1 e1
        rw [cc] at m
        obtain ⟨c1, c2⟩ := hcl C m
        cases e2 : lookN a.2.1 a.2.2 f with
        | none => rw [e2] at p1; exact p1.elim
        | some w =>
          rw [e2] at p1
          obtain ⟨u2, l2, r2⟩ := (lookN_val hl rts).1 w e2
          exact ⟨q, C, dx, _, u2, rfl, hq, c1, c2, l2, p1 g1 H1 u2 .refl rh1 r2⟩
      · rw [if_neg cc] at p1; exact p1.elim
end
end J
namespace J
open PySem L2
def putN : List Str → Str → List Str
  | [], f => [f]
  | n :: ns, f => if n = f then n :: ns else n :: putN ns f
def putW {α : Type} : List Str → List α → Str → α → List α
  | n :: ns, x :: xs, f, v => if n = f then v :: xs else x :: putW ns xs f v
  | _, _, _, v => [v]
theorem putF_zip {f : Str} {u : V} : ∀ {ns : List Str} {us : List V}, ns.length = us.length → putF f u (ns.zip us) = (putN ns f).zip (putW ns us f u) ∧ (putN ns f).length = (putW ns us f u).length
  | [], us, hl => by
    cases us with
    | nil => exact ⟨rfl, rfl⟩
    | cons => cases hl
  | n :: ns, us, hl => by
    cases us with
    | nil => cases hl
    | cons w us =>
      have ih := putF_zip (f := f) (u := u) (Nat.succ.inj hl)
      rw [List.zip_cons_cons]
      unfold putF putN putW
      by_cases e : n = f
      · rw [if_pos e, if_pos e, if_pos e]
        exact ⟨rfl, by simpa using hl⟩
      · rw [if_neg e, if_neg e, if_neg e]
        exact ⟨by rw [ih.1]; rfl, by simp [ih.2]⟩
theorem RTs.putW {c : Ct} {g : Gh} {H : Hp} {f : Str} {v : VV} {u : V} (q : RT c g H v u) : ∀ {ns : List Str} {vs : List VV} {us : List V}, ns.length = us.length → RTs c g H vs us → RTs c g H (J.putW ns vs f v) (J.putW ns us f u)
  | [], vs, us, hl, r => by
    cases us with
    | nil =>
      have : vs = [] := by
        have := r.len
        cases vs with
        | nil => rfl
        | cons => simp at this
      subst this
      exact ⟨u, [], rfl, q, rfl⟩
    | cons => cases hl
  | n :: ns, vs, us, hl, r => by
    cases us with
    | nil => cases hl
    | cons w us =>
      cases vs with
      | nil => have := r.len; simp at this
      | cons y vs =>
        obtain ⟨a1, a2, e1, a3, a4⟩ := r
        cases e1
        have ih := RTs.putW (f := f) q (Nat.succ.inj hl) a4
        unfold J.putW
        by_cases e : n = f
        · rw [if_pos e, if_pos e]; exact ⟨u, us, rfl, q, a4⟩
        · rw [if_neg e, if_neg e]; exact ⟨w, _, rfl, a3, ih⟩
def setF (h : VH) (cn f : Str) (o v : VV) : Option VH := match o with
  | .obj n => match h[n]? with
    | some (.ins c ns vs) => if c = cn ∧ ns.length < 1000 then some (h.set n (.ins c (putN ns f) (putW ns vs f v))) else none
    | _ => none
  | _ => none
def sFldS (cn f : Str) (fo fe : EF) : SF := fun ρ h => (fe ρ h).st ρ fun v h1 => (fo ρ h1).st ρ fun ov h2 => match setF h2 cn f ov v with
  | some h3 => .nx ρ h3
  | none => .no
section
variable {X : Cx} {W : WX}
theorem js_fld {cn f : Str} {o e : Expr} {fo fe : EF} {pos pos' : Pos} (hcl : ∀ C, X.mg cn = some (.ref C) → Cls X.K C ∧ NoAttr X.K C f) (ho : PE X o (tE (ct X) W fo)) (he : PE X e (tE (ct X) W fe)) (hs : swapsWith e (some (.Attribute o f pos')) pos.line X.env = pure false := by rfl) :
    PS X (.Assign [.Attribute o f pos'] e pos) (tS (ct X) W (sFldS cn f fo fe)) :=
  PS.mono (ps_fld ho he hs) fun D σ H ⟨g, ρ, h, rh, rs, p⟩ => by
    refine ⟨g, ρ, h, rh, rs, (Pst.st (R := RT (ct X)) rs p).imp fun u H1 ⟨g1, v, h1, st, rh1, rs1, rv1, p1⟩ => ?_⟩
    refine ⟨g1, ρ, h1, rh1, rs1, (Pst.st (R := RT (ct X)) rs1 p1).imp fun u2 H2 ⟨g2, ov, h2, st2, rh2, rs2, rv2, p2⟩ => ?_⟩
    cases e1 : setF h2 cn f ov v with
    | none => rw [e1] at p2; exact p2.elim
    | some h3 =>
      rw [e1] at p2
      unfold setF at e1
      split at e1
      · rename_i n
        split at e1
        · rename_i c ns vs en
          split at e1
          · rename_i cc
            cases e1
            obtain ⟨a, ea, eo⟩ := rv2
            obtain ⟨nz, C, dx, us, m, hq, hl, rts⟩ := rh2.at' n _ a en ea
            rw [cc.1] at m
            obtain ⟨c1, c2⟩ := hcl C m
            have nk : ¬ g2.kp a := fun z => (rh2.kd a z).2 (List.mem_of_getElem? ea)
            have nt : ∀ ys, H2 a ≠ some (.tup ys) := fun ys z => by rw [hq] at z; cases z
            have stw : Stp g2 H2 g2 (upd H2 a (.ins C dx (putF f u (ns.zip us)))) := Stp.wr (c := ct X) nz nk nt
            refine ⟨a, C, dx, _, eo, hq, c1, c2, by rw [List.length_zip, ← hl, Nat.min_self]; exact cc.2, ?_⟩
            obtain ⟨z1, z2⟩ := putF_zip (f := f) (u := u) hl
            exact p2 g2 _ σ stw (rh2.wr ea nz nt ⟨nz, C, dx, putW ns us f u, by rw [cc.1]; exact m, by rw [upd_same, z1], z2, RTs.putW ((rv1.stp st2).stp stw) hl (rts.stp stw)⟩) (rs2.stp stw)
          · cases e1
        · cases e1
      · cases e1
/-- a method -/
structure OkM (P : Program) (w : World) (K : PySem.W.Frag) (mg : Str → Option Value) (base : Heap) (k : Nat) (cn m : Str) (n : Nat) (dws : List VV) (Fm : FF) : Prop where
  ex : ∃ (C f : Addr) (fd : FuncData) (ps : List Str) (dvs : List V) (ds : List Value), mg cn = some (.ref C) ∧ Cls K C ∧ Meth K C m f ∧ FnOk P w K mg base (L2N.CX P w) k f fd ps (spF ⟨K, mg⟩ n Fm) ∧ Binds K fd ps ds ∧ Vals dvs ds ∧ ∀ g H, RTs ⟨K, mg⟩ g H dws dvs
def X0 : XK := fun _ _ _ => False
theorem passes0 : Passes (L2N.CX X.prog X.w) X X0 := fun pins σ H s e s' I c => (cx_no c).elim
def eMeth (cn m : Str) (n : Nat) (F : FF) (dws : List VV) (fo : EF) (fa : AF) : EF := fun ρ h => (fo ρ h).bind fun v h1 => match insOf h1 v with
  | some a => if a.1 = cn ∧ lookN a.2.1 a.2.2 m = none then (fa ρ h1).bind fun vs h2 => if (v :: (vs ++ dws)).length = n then noX (F (v :: (vs ++ dws)) h2) else .no else .no
  | none => .no
theorem pst_noX {c : Ct} {σ : St} {g : Gh} {H : Hp} {Q : VK} {r : Res VV} (h : Pst c W σ (RT c) g H Q (noX r)) : Pst c (fun a d _ H' => X0 a d H') [] (RT c) g H Q r := by
  cases r with
  | no => exact h
  | ok => exact h
  | exc => exact h.elim
theorem tMeth_of {cn m : Str} {n : Nat} {Fm : FF} {dws : List VV} {dvs : List V} {fo : EF} {fa : AF} {C : Addr} (hC : X.mg cn = some (.ref C)) (hd : ∀ g H, RTs (ct X) g H dws dvs) {σ : St} {H : Hp} {Q : VK} (h : tE (ct X) W (eMeth cn m n Fm dws fo fa) σ H Q) :
    tMeth C m (spF (ct X) n Fm) dvs X0 (tE (ct X) W fo) (tA (ct X) W fa) σ H Q := by
  obtain ⟨g, ρ, h0, rh, rs, p⟩ := h
  refine ⟨g, ρ, h0, rh, rs, (Pst.bind (R := RT (ct X)) p).imp fun u H1 ⟨g1, v, h1, st, rh1, rv1, p1⟩ => ?_⟩
  cases e1 : insOf h1 v with
  | none => rw [e1] at p1; exact p1.elim
  | some a =>
    rw [e1] at p1
    simp only at p1
    by_cases cc : a.1 = cn ∧ lookN a.2.1 a.2.2 m = none
    · rw [if_pos cc] at p1
      obtain ⟨q, C', dx, us, eu, mm, hq, hl, rts⟩ := insOf_get rh1 rv1 e1
      rw [cc.1] at mm
      have eC : C' = C := by
        have : X.mg cn = some (.ref C') := mm
        rw [hC] at this
        cases this
        rfl
      subst eC
      refine ⟨q, dx, _, eu, hq, (lookN_val hl rts).2 cc.2, g1, ρ, h1, rh1, rs.stp st, (Pst.bind (R := RTs (ct X)) p1).imp fun vs H2 ⟨g2, ws, h2, st2, rh2, rts2, p2⟩ => ?_⟩
      by_cases hn : (v :: (ws ++ dws)).length = n
      · rw [if_pos hn] at p2
        exact ⟨g2, v :: (ws ++ dws), h2, rh2, ⟨u, _, rfl, rv1.stp st2, RTs.append rts2 (hd g2 H2)⟩, hn, pst_noX p2⟩
      · rw [if_neg hn] at p2; exact p2.elim
    · rw [if_neg cc] at p1; exact p1.elim
theorem j_meth {k n : Nat} {cn m : Str} {Fm : FF} {dws : List VV} {o e : Expr} {es : List Expr} {apos pos : Pos} {fo : EF} {fa : AF} {pl : Sem Bool} (O : OkM X.prog X.w X.K X.mg X.base k cn m n dws Fm) (hr : Room k X.A) (ho : PE X o (tE (ct X) W fo)) (ha : PA X (e :: es) (tA (ct X) W fa))
    (hst : starEach (e :: es) X.env = (false, eval e X.env) :: starEach es X.env := by rfl) (hpl : (backTo pos (starEach es X.env)).any (·.1) = false := by rfl)
    (ht : eval (.Call (.Attribute o m apos) (e :: es) [] pos) X.env = (do
      let ov ← eval o X.env
      standAt apos.atName
      let (f, first) ← holding [ov] (getMethod ov m pl)
      callWith pos f first (backTo pos (starEach (e :: es) X.env)) (backToKw pos (keywordEach [] X.env))) := by rfl) :
    PE X (.Call (.Attribute o m apos) (e :: es) [] pos) (tE (ct X) W (eMeth cn m n Fm dws fo fa)) := by
  obtain ⟨C, f, fd, ps, dvs, ds, h1, h2, h3, h4, h5, h6, h7⟩ := O.ex
  exact PE.mono (pe_meth (E := X0) ho h2 h3 h4 hr h5 h6 passes0 ha hst hpl ht) fun σ H Q h => tMeth_of h1 h7 h
end
end J
namespace J
open PySem L2
/-! a made thing, frozen through and through -/
def optM {α β : Type} (f : α → Option β) : List α → Option (List β)
  | [] => some []
  | x :: xs => (f x).bind fun y => (optM f xs).map fun r => y :: r
def dzV (h : VH) (n0 : Nat) : Nat → VV → Option VV
  | 0, _ => none
  | k + 1, .obj n => if n < n0 then none else match h[n]? with
    | some (.fzn v) => some v
    | some (.fl xs) => some (.lst xs)
    | some (.dT ks vs) => some (.dT ks vs)
    | some (.dK ks vs) => some (.dK ks vs)
    | some (.lo xs) => (optM (dzV h n0 k) xs).map .lst
    | some (.ins c ns vs) => (optM (dzV h n0 k) vs).map (.ins c ns)
    | none => none
  | _ + 1, v => some v
/-- frozen now: all that was, and the roots from n0 on -/
def zNew (g : Gh) (n0 : Nat) : Addr → Prop := fun q => g.fz q ∨ ∃ n, n0 ≤ n ∧ g.io[n]? = some q
theorem optM_rvs {c : Ct} {g : Gh} {H : Hp} {z : Addr → Prop} {f : VV → Option VV} (hf : ∀ v u w, RT c g H v u → f v = some w → RV c z H w u) : ∀ {vs : List VV} {us : List V} {ws : List VV}, RTs c g H vs us → optM f vs = some ws → RVs c z H ws us
  | [], us, ws, r, e => by
    cases e
    rw [show us = [] from r]
    exact RVs.nil
  | v :: vs, us, ws, r, e => by
    obtain ⟨u, q, rfl, a, b⟩ := r
    unfold optM at e
    obtain ⟨y, e1, e2⟩ := Option.bind_eq_some_iff.mp e
    obtain ⟨l, e3, e4⟩ := Option.map_eq_some_iff.mp e2
    subst e4
    exact RVs.cons (hf v u y a e1) (optM_rvs hf b e3)
theorem dz_ok {c : Ct} {g : Gh} {h : VH} {H : Hp} {n0 : Nat} (rh : RH c g h H) : ∀ (k : Nat) (v : VV) (u : V) (w : VV), RT c g H v u → dzV h n0 k v = some w → RV c (zNew g n0) H w u := by
  have up : ∀ {v u}, RV c g.fz H v u → RV c (zNew g n0) H v u := fun r => RV.stp (fun _ h => .inl h) (fun _ _ => .refl) (fun _ _ h => h) _ _ r
  have ups : ∀ {v u}, RVs c g.fz H v u → RVs c (zNew g n0) H v u := fun r => RVs.stp (fun _ h => .inl h) (fun _ _ => .refl) (fun _ _ h => h) _ _ r
  intro k
  induction k with
  | zero => intro v u w _ e; simp [dzV] at e
  | succ k ih =>
    intro v u w r e
    cases v with
    | obj n =>
      obtain ⟨a, ea, eu⟩ := r
      unfold dzV at e
      split at e
      · cases e
      · rename_i hn
        have za : zNew g n0 a := .inr ⟨n, by omega, ea⟩
        split at e
        · rename_i v en
          cases e
          obtain ⟨_, rv⟩ := rh.at' n _ a en ea
          rw [eu]; exact up rv
        · rename_i xs en
          cases e
          obtain ⟨_, us, hl, rvs⟩ := rh.at' n _ a en ea
          rw [RV]
          exact ⟨a, us, eu, za, hl, ups rvs⟩
        · rename_i ks vs en
          cases e
          obtain ⟨_, us, hl, ln, rvs⟩ := rh.at' n _ a en ea
          rw [RV]
          exact ⟨a, us, eu, za, hl, ln, ups rvs⟩
        · rename_i ks vs en
          cases e
          obtain ⟨_, us, hl, ln, rvs⟩ := rh.at' n _ a en ea
          rw [RV]
          exact ⟨a, us, eu, za, .inl hl, ln, ups rvs⟩
        · rename_i xs en
          obtain ⟨ws, e1, e2⟩ := Option.map_eq_some_iff.mp e
          subst e2
          obtain ⟨_, us, hl, rts⟩ := rh.at' n _ a en ea
          rw [RV]
          exact ⟨a, us, eu, za, hl, optM_rvs (fun v u w r e => ih v u w r e) rts e1⟩
        · rename_i x ns vs en
          obtain ⟨ws, e1, e2⟩ := Option.map_eq_some_iff.mp e
          subst e2
          obtain ⟨_, C, dx, us, m, hl, ln, rts⟩ := rh.at' n _ a en ea
          rw [RV]
          exact ⟨a, C, dx, us, eu, za, m, hl, ln, optM_rvs (fun v u w r e => ih v u w r e) rts e1⟩
        · cases e
    | _ =>
      unfold dzV at e
      cases e
      exact up (r.rv rfl)
/-- the roots from n0 on are gone, frozen -/
theorem melt {c : Ct} {g : Gh} {h : VH} {H : Hp} {n0 : Nat} (rh : RH c g h H) (hn : n0 ≤ h.length) (low : (h.take n0).all (lowO n0) = true) : RH c ⟨g.io.take n0, zNew g n0, g.kp⟩ (h.take n0) H := by
  have nd := rh.nd
  have sep : ∀ {n a}, n < n0 → g.io[n]? = some a → ¬ g.fz a → ¬ zNew g n0 a := by
    intro n a hlt ha nz z
    rcases z with z | ⟨m, hm, em⟩
    · exact nz z
    · have := nodup_inj nd ha em
      omega
  refine ⟨?_, ?_, fun n o a h1 h2 => ?_, fun q z => ?_, rh.kp, fun q z => ⟨fun y => ?_, fun y => (rh.kd q z).2 (List.mem_of_mem_take y)⟩, rh.tb, fun q z ps y => ?_⟩
  rotate_left 5
  · rcases z with (z | ⟨m, hm, em⟩) | z
    · exact rh.nt q (.inl z) ps y
    · exact rh.rootNt (List.mem_of_getElem? em) ps y
    · exact rh.nt q (.inr z) ps y
  · show (g.io.take n0).length = _
    rw [List.length_take, List.length_take, rh.len]
  · exact nd.sublist (List.take_sublist _ _)
  · have hlt : n < n0 := by
      have := (List.getElem?_eq_some_iff.mp h1).1
      rw [List.length_take] at this; omega
    have h1' : h[n]? = some o := by rw [List.getElem?_take_of_lt hlt] at h1; exact h1
    have h2' : g.io[n]? = some a := by
      have h2'' : (g.io.take n0)[n]? = some a := h2
      rw [List.getElem?_take_of_lt hlt] at h2''
      exact h2''
    have ro := rh.at' n o a h1' h2'
    have lo : lowO n0 o = true := List.all_eq_true.mp low o (List.mem_of_getElem? h1)
    have ups : ∀ {v u}, RVs c g.fz H v u → RVs c (zNew g n0) H v u := fun r => RVs.stp (fun _ h => .inl h) (fun _ _ => .refl) (fun _ _ h => h) _ _ r
    have upt : ∀ {vs us}, vs.all (lowV n0) = true → RTs c g H vs us → RTs c ⟨g.io.take n0, zNew g n0, g.kp⟩ H vs us := by
      intro vs
      induction vs with
      | nil => exact fun _ r => r
      | cons v vs ih =>
        intro us l r
        rw [List.all_cons, Bool.and_eq_true] at l
        obtain ⟨u, q, e, r1, r2⟩ := r
        refine ⟨u, q, e, ?_, ih l.2 r2⟩
        cases v with
        | obj m =>
          obtain ⟨b, eb, eu⟩ := r1
          refine ⟨b, ?_, eu⟩
          show (g.io.take n0)[m]? = some b
          rw [List.getElem?_take_of_lt (of_decide_eq_true l.1)]; exact eb
        | _ => exact RT.of_rv (RV.stp (fun _ h => .inl h) (fun _ _ => .refl) (fun _ _ h => h) _ _ (r1.rv rfl))
    cases o with
    | fzn v => exact ⟨.inl ro.1, RV.stp (fun _ h => .inl h) (fun _ _ => .refl) (fun _ _ h => h) _ _ ro.2⟩
    | fl xs =>
      obtain ⟨nz, us, q1, q2⟩ := ro
      exact ⟨sep hlt h2' nz, us, q1, ups q2⟩
    | lo xs =>
      obtain ⟨nz, us, q1, q2⟩ := ro
      exact ⟨sep hlt h2' nz, us, q1, upt lo q2⟩
    | dT ks vs =>
      obtain ⟨nz, us, q1, q2, q3⟩ := ro
      exact ⟨sep hlt h2' nz, us, q1, q2, ups q3⟩
    | dK ks vs =>
      obtain ⟨nz, us, q1, q2, q3⟩ := ro
      exact ⟨sep hlt h2' nz, us, q1, q2, ups q3⟩
    | ins x ns vs =>
      obtain ⟨nz, C, dx, us, q0, q1, q2, q3⟩ := ro
      exact ⟨sep hlt h2' nz, C, dx, us, q0, q1, q2, upt lo q3⟩
  · rcases z with z | ⟨m, hm, em⟩
    · exact rh.fz q z
    · exact rh.root (List.mem_of_getElem? em)
  · rcases y with y | ⟨m, hm, em⟩
    · exact (rh.kd q z).1 y
    · exact (rh.kd q z).2 (List.mem_of_getElem? em)
/-- a class that can be made -/
structure OkC (P : Program) (w : World) (K : PySem.W.Frag) (mg : Str → Option Value) (base : Heap) (k : Nat) (cn : Str) (n : Nat) (dws : List VV) (Fm : FF) : Prop where
  ex : ∃ (C f : Addr) (fd : FuncData) (ps : List Str) (dvs : List V) (ds : List Value), mg cn = some (.ref C) ∧ Mk K C f ∧ FnOk P w K mg base (L2N.CX P w) k f fd ps (spF ⟨K, mg⟩ n Fm) ∧ Binds K fd ps ds ∧ Vals dvs ds ∧ ∀ g H, RTs ⟨K, mg⟩ g H dws dvs
/-- made, and frozen at once -/
def mkZ (n0 : Nat) (r : Res VV) : Res VV := match r with
  | .ok .non h' => if n0 ≤ h'.length ∧ (h'.take n0).all (lowO n0) = true then (match dzV h' n0 8 (.obj n0) with
    | some w => .ok w (h'.take n0)
    | none => .no) else .no
  | _ => .no
def eMakeZ (cn : Str) (n : Nat) (F : FF) (dws : List VV) (fa : AF) : EF := fun ρ h => (fa ρ h).bind fun vs h1 => if (VV.obj h1.length :: (vs ++ dws)).length = n then mkZ h1.length (F (.obj h1.length :: (vs ++ dws)) (h1 ++ [.ins cn [] []])) else .no
section
variable {X : Cx} {W : WX}
theorem tMake_of {cn : Str} {n : Nat} {Fm : FF} {dws : List VV} {dvs : List V} {fa : AF} {C : Addr} (hC : X.mg cn = some (.ref C)) (hd : ∀ g H, RTs (ct X) g H dws dvs) {σ : St} {H : Hp} {Q : VK} (h : tE (ct X) W (eMakeZ cn n Fm dws fa) σ H Q) :
    tMake C (spF (ct X) n Fm) dvs X0 (tA (ct X) W fa) σ H Q := by
  obtain ⟨g, ρ, h0, rh, rs, p⟩ := h
  refine ⟨g, ρ, h0, rh, rs, (Pst.bind (R := RTs (ct X)) p).imp fun vs H1 ⟨g1, ws, h1, st, rh1, rts, p1⟩ x dx hx hdx ne => ?_⟩
  by_cases hn : (VV.obj h1.length :: (ws ++ dws)).length = n
  · rw [if_pos hn] at p1
    have s1 : Stp g1 H1 g1 (upd H1 dx (.own x)) := .junk rh1 hdx
    have r1 : RH (ct X) g1 h1 (upd H1 dx (.own x)) := rh1.junk hdx
    have hx' : upd H1 dx (.own x) x = none := by rw [upd_ne (Ne.symm ne)]; exact hx
    have s2 : Stp g1 (upd H1 dx (.own x)) g1 (upd (upd H1 dx (.own x)) x (.ins C dx [])) := .junk r1 hx'
    have r2 : RH (ct X) g1 h1 (upd (upd H1 dx (.own x)) x (.ins C dx [])) := r1.junk hx'
    have nx : x ∉ g1.io := fun z => by
      obtain ⟨o, e⟩ := rh1.root z
      rw [hx] at e; cases e
    have s3 : Stp g1 (upd (upd H1 dx (.own x)) x (.ins C dx [])) (g1.add x) (upd (upd H1 dx (.own x)) x (.ins C dx [])) := .add
    have r3 : RH (ct X) (g1.add x) (h1 ++ [.ins cn [] []]) (upd (upd H1 dx (.own x)) x (.ins C dx [])) := r2.add nx (fun z => by
      obtain ⟨o, e⟩ := rh1.kp x z
      rw [hx] at e; cases e) ⟨(fun z => by
        obtain ⟨o, e⟩ := rh1.fz x z
        rw [hx] at e; cases e), C, dx, [], hC, upd_same, rfl, rfl⟩
    have ss := (s1.trans s2).trans s3
    have rx : RT (ct X) (g1.add x) (upd (upd H1 dx (.own x)) x (.ins C dx [])) (.obj h1.length) (.ref x) := ⟨x, by
      show (g1.io ++ [x])[h1.length]? = some x
      rw [← rh1.len, List.getElem?_append_right (Nat.le_refl _), Nat.sub_self]; rfl, rfl⟩
    refine ⟨g1.add x, .obj h1.length :: (ws ++ dws), h1 ++ [.ins cn [] []], r3, ⟨.ref x, _, rfl, rx, RTs.append (rts.stp ss) (hd _ _)⟩, hn, ?_⟩
    generalize Fm (.obj h1.length :: (ws ++ dws)) (h1 ++ [.ins cn [] []]) = r at p1 ⊢
    cases r with
    | no => exact p1
    | exc => exact p1.elim
    | ok v h' =>
      intro g' H' u st' rh' rv'
      cases v with
      | non =>
        refine ⟨non_get rv', ?_⟩
        unfold mkZ at p1
        simp only at p1
        split at p1
        · rename_i cc
          cases e : dzV h' h1.length 8 (.obj h1.length) with
          | none => rw [e] at p1; exact p1.elim
          | some w =>
            rw [e] at p1
            have rx' : RT (ct X) g' H' (.obj h1.length) (.ref x) := rx.stp st'
            have rw' := dz_ok rh' 8 _ _ _ rx' e
            have rhm := melt rh' cc.1 cc.2
            have eio : g'.io.take h1.length = g1.io := by
              obtain ⟨l, hl⟩ := (ss.trans st').io
              rw [← hl, ← rh1.len, List.take_left]
            have all := ss.trans st'
            refine p1 ⟨g'.io.take h1.length, zNew g' h1.length, g'.kp⟩ H' (.ref x) ⟨by show g1.io <+: g'.io.take h1.length; rw [eio]; exact List.prefix_rfl, fun q z => .inl (all.fz q z), all.kp, all.fH, all.kH, all.tp⟩ rhm (RT.of_rv rw')
        · exact p1.elim
      | _ => exact p1.elim
  · rw [if_neg hn] at p1; exact p1.elim
theorem j_make {k n : Nat} {cn : Str} {Fm : FF} {dws : List VV} {e : Expr} {es : List Expr} {p pos : Pos} {fa : AF} (O : OkC X.prog X.w X.K X.mg X.base k cn n dws Fm) (hr : Room (k + 1) X.A) (hg : Gl X cn) (ha : PA X (e :: es) (tA (ct X) W fa))
    (hdb : (cn == ("__debug__" : Str)) = false := by decide) (he : starEach (e :: es) X.env = (false, eval e X.env) :: starEach es X.env := by rfl) (hpl : (backTo pos (starEach es X.env)).any (·.1) = false := by rfl) :
    PE X (.Call (.Name cn p) (e :: es) [] pos) (tE (ct X) W (eMakeZ cn n Fm dws fa)) := by
  obtain ⟨C, f, fd, ps, dvs, ds, h1, h2, h4, h5, h6, h7⟩ := O.ex
  exact PE.mono (pe_make (E := X0) h2 h4 hr hg h1 h5 h6 passes0 ha hdb he hpl) fun σ H Q h => tMake_of h1 h7 h
end
end J
namespace J
open PySem L2
section
variable {X : Cx} {W : WX}
/-! xs.pop(i), xs a root -/
def popI (h : VH) (o i : VV) : Option (VV × VH) := match o, i with
  | .obj n, .int k => match h[n]? with
    | some (.fl xs) => if 0 ≤ k ∧ k < xs.length ∧ k < 2 ^ 62 then (xs[k.toNat]?).map fun v => (v, h.set n (.fl (xs.eraseIdx k.toNat))) else none
    | _ => none
  | _, _ => none
theorem popI_some {h h' : VH} {o i v : VV} (e : popI h o i = some (v, h')) : ∃ n k xs, o = .obj n ∧ i = .int k ∧ h[n]? = some (.fl xs) ∧ (0 ≤ k ∧ k < xs.length ∧ k < 2 ^ 62) ∧ xs[k.toNat]? = some v ∧ h' = h.set n (.fl (xs.eraseIdx k.toNat)) := by
  unfold popI at e
  split at e
  · split at e
    · rename_i en
      split at e
      · rename_i cc
        obtain ⟨w', e3, e4⟩ := Option.map_eq_some_iff.mp e
        cases e4
        exact ⟨_, _, _, rfl, rfl, en, cc, e3, rfl⟩
      · cases e
    · cases e
  · cases e
def ePop (fo fi : EF) : EF := fun ρ h => (fo ρ h).bind fun ov h1 => match lstOf h1 ov with
  | none => .no
  | some _ => (fi ρ h1).bind fun iv h2 => match popI h2 ov iv with
    | some (v, h3) => .ok v h3
    | none => .no
theorem RVs.eraseIdx {c : Ct} {z : Addr → Prop} {H : Hp} : ∀ {vs : List VV} {us : List V} {k : Nat}, RVs c z H vs us → RVs c z H (vs.eraseIdx k) (us.eraseIdx k)
  | [], us, k, r => by rw [RVs] at r; subst r; simp only [List.eraseIdx_nil]; exact RVs.nil
  | v :: vs, us, k, r => by
    rw [RVs] at r
    obtain ⟨u, q, rfl, a, b⟩ := r
    cases k with
    | zero => simp only [List.eraseIdx_cons_zero]; exact b
    | succ k => simp only [List.eraseIdx_cons_succ]; exact RVs.cons a (RVs.eraseIdx b)
theorem j_pop {o e : Expr} {fo fe : EF} {apos cpos : Pos} (ho : PE X o (tE (ct X) W fo)) (ha : PE X e (tE (ct X) W fe)) (hs1 : starEach (e :: []) X.env = (false, eval e X.env) :: starEach [] X.env := by rfl)
    (hbase : attributeBase o "pop" X.env (eval o X.env) = eval o X.env := by rfl)
    (hfew : ((backTo cpos (starEach [e] X.env)).all (fun x => !x.1) && (backToKw cpos (keywordEach [] X.env)).all (fun x => x.1.isSome)
      && decide ([e].length + ([] : List Keyword).length + (if ([] : List Keyword).isEmpty then 0 else 1) < 30)) = true := by rfl)
    (hline : (apos.endLine == cpos.line) = true := by rfl) (hplain : (backTo cpos (starEach [] X.env)).any (·.1) = false := by rfl) :
    PE X (.Call (.Attribute o "pop" apos) [e] [] cpos) (tE (ct X) W (ePop fo fe)) :=
  PE.mono (pe_bm PySem.F.plainAttrs_list PySem.F.slot_list_pop PySem.F.type_list_pop mt_popAt ho (pa_cons ha pa_nil hs1) hbase hfew hline hs1 hplain) fun σ H Q ⟨g, ρ, h0, rh, rs, p⟩ => by
    refine ⟨g, ρ, h0, rh, rs, (Pst.bind (R := RT (ct X)) p).imp fun u H1 ⟨g1, ov, h1, st, rh1, rv1, p1⟩ => ?_⟩
    cases e : lstOf h1 ov with
    | none => rw [e] at p1; exact p1.elim
    | some ys =>
      rw [e] at p1
      obtain ⟨a, us, eu, sq, rvs⟩ := lstOf_get rh1 rv1 e
      refine ⟨by rw [eu]; exact .inl ⟨rfl, us, sq⟩, g1, ρ, h1, rh1, rs.stp st, (Pst.bind (R := RT (ct X)) p1).imp fun u2 H2 ⟨g2, v, h2, st2, rh2, rv2, p2⟩ => ?_⟩
      cases e2 : popI h2 ov v with
      | none => rw [e2] at p2; exact p2.elim
      | some vh =>
        obtain ⟨w, h3⟩ := vh
        rw [e2] at p2
        obtain ⟨n, k, xs, rfl, rfl, en, cc, e3, rfl⟩ := popI_some e2
        obtain ⟨b, eb, eu'⟩ := rv1.stp st2
        obtain ⟨nz, ws, hl, rws⟩ := rh2.at' n _ b en eb
        have nk : ¬ g2.kp b := fun z => (rh2.kd b z).2 (List.mem_of_getElem? eb)
        have nt : ∀ ys, H2 b ≠ some (.tup ys) := fun ys z => by rw [hl] at z; cases z
        have stw : Stp g2 H2 g2 (upd H2 b (.lst (ws.eraseIdx k.toNat))) := Stp.wr (c := ct X) nz nk nt
        obtain ⟨y, ey, ry⟩ := rws.get e3
        have hln := rws.len
        refine ⟨b, ws, k, k.toNat, y, eu', by rw [int_get rv2], hl, by omega, by omega, ?_, ey, ?_⟩
        · unfold seqIndex?
          rw [← hln]
          have c1 : ¬ k < 0 := by omega
          have c2 : (0 ≤ k && k < (xs.length : Int)) = true := by
            rw [Bool.and_eq_true, decide_eq_true_eq, decide_eq_true_eq]; exact ⟨cc.1, cc.2.1⟩
          simp only [if_neg c1, c2, if_true]
        · exact p2 g2 _ y stw (rh2.wr eb nz nt ⟨nz, _, upd_same, stw.rvs (RVs.eraseIdx rws)⟩) (RT.of_rv (stw.rv ry))
end
end J
namespace J
open PySem L2
open PyProof.Rows (envOfC)
/-! a root, frozen through and through -/
def frzL (f : VH → VV → Option (VV × VH)) : VH → List VV → Option (List VV × VH)
  | h, [] => some ([], h)
  | h, v :: vs => match f h v with
    | some (w, h1) => match frzL f h1 vs with
      | some (ws, h2) => some (w :: ws, h2)
      | none => none
    | none => none
def frzV : Nat → VH → VV → Option (VV × VH)
  | 0, _, _ => none
  | k + 1, h, .obj n => match h[n]? with
    | some (.fzn w) => some (w, h)
    | some (.fl xs) => some (.lst xs, h.set n (.fzn (.lst xs)))
    | some (.dT ks vs) => some (.dT ks vs, h.set n (.fzn (.dT ks vs)))
    | some (.dK ks vs) => some (.dK ks vs, h.set n (.fzn (.dK ks vs)))
    | some (.lo xs) => match frzL (frzV k) h xs with
      | some (ys, h') => some (.lst ys, h'.set n (.fzn (.lst ys)))
      | none => none
    | some (.ins c ns vs) => match frzL (frzV k) h vs with
      | some (ys, h') => some (.ins c ns ys, h'.set n (.fzn (.ins c ns ys)))
      | none => none
    | none => none
  | _ + 1, h, v => some (v, h)
def FrzOk (c : Ct) (H : Hp) (f : VH → VV → Option (VV × VH)) : Prop := ∀ g h v u w h', RH c g h H → RT c g H v u → f h v = some (w, h') → ∃ g', Stp g H g' H ∧ g'.io = g.io ∧ RH c g' h' H ∧ RV c g'.fz H w u
theorem frzL_ok {c : Ct} {H : Hp} {f : VH → VV → Option (VV × VH)} (hf : FrzOk c H f) : ∀ (vs : List VV) (us : List V) (g : Gh) (h : VH) (ws : List VV) (h' : VH), RH c g h H → RTs c g H vs us → frzL f h vs = some (ws, h') → ∃ g', Stp g H g' H ∧ g'.io = g.io ∧ RH c g' h' H ∧ RVs c g'.fz H ws us
  | [], us, g, h, ws, h', rh, r, e => by
    unfold frzL at e
    cases e
    rw [show us = [] from r]
    exact ⟨g, .refl, rfl, rh, RVs.nil⟩
  | v :: vs, us, g, h, ws, h', rh, r, e => by
    obtain ⟨u, q, rfl, a, b⟩ := r
    unfold frzL at e
    split at e
    · rename_i w h1 e1
      obtain ⟨g1, s1, i1, r1, v1⟩ := hf g h v u w h1 rh a e1
      split at e
      · rename_i ws' h2 e2
        cases e
        obtain ⟨g2, s2, i2, r2, v2⟩ := frzL_ok hf vs q g1 h1 _ _ r1 (b.stp s1) e2
        exact ⟨g2, s1.trans s2, i2.trans i1, r2, RVs.cons (s2.rv v1) v2⟩
      · cases e
    · cases e
theorem frzV_ok {c : Ct} {H : Hp} : ∀ k : Nat, FrzOk c H (frzV k)
  | 0 => fun g h v u w h' _ _ e => by simp [frzV] at e
  | k + 1 => fun g h v u w h' rh r e => by
    cases v with
    | obj n =>
      obtain ⟨a, ea, eu⟩ := r
      unfold frzV at e
      split at e
      · rename_i w' en
        cases e
        obtain ⟨fa, rv⟩ := rh.at' n _ a en ea
        exact ⟨g, .refl, rfl, rh, by rw [eu]; exact rv⟩
      · rename_i xs en
        cases e
        obtain ⟨nz, us, hl, rvs⟩ := rh.at' n _ a en ea
        have rv : RV c (g.frz a).fz H (.lst xs) (.ref a) := by
          rw [RV]
          exact ⟨a, us, rfl, .inr rfl, hl, (Stp.kill (p := a)).rvs rvs⟩
        exact ⟨g.frz a, .kill, rfl, rh.kill ea rv, by rw [eu]; exact rv⟩
      · rename_i ks vs en
        cases e
        obtain ⟨nz, us, hl, ln, rvs⟩ := rh.at' n _ a en ea
        have rv : RV c (g.frz a).fz H (.dT ks vs) (.ref a) := by
          rw [RV]
          exact ⟨a, us, rfl, .inr rfl, hl, ln, (Stp.kill (p := a)).rvs rvs⟩
        exact ⟨g.frz a, .kill, rfl, rh.kill ea rv, by rw [eu]; exact rv⟩
      · rename_i ks vs en
        cases e
        obtain ⟨nz, us, hl, ln, rvs⟩ := rh.at' n _ a en ea
        have rv : RV c (g.frz a).fz H (.dK ks vs) (.ref a) := by
          rw [RV]
          exact ⟨a, us, rfl, (.inr rfl), .inl hl, ln, (Stp.kill (p := a)).rvs rvs⟩
        exact ⟨g.frz a, .kill, rfl, rh.kill ea rv, by rw [eu]; exact rv⟩
      · rename_i xs en
        obtain ⟨nz, us, hl, rts⟩ := rh.at' n _ a en ea
        split at e
        · rename_i ys h1 e1
          cases e
          obtain ⟨g1, s1, i1, r1, v1⟩ := frzL_ok (frzV_ok k) xs us g h ys h1 rh rts e1
          have rv : RV c (g1.frz a).fz H (.lst ys) (.ref a) := by
            rw [RV]
            exact ⟨a, us, rfl, .inr rfl, hl, (Stp.kill (p := a)).rvs v1⟩
          exact ⟨g1.frz a, s1.trans .kill, i1, r1.kill (by rw [i1]; exact ea) rv, by rw [eu]; exact rv⟩
        · cases e
      · rename_i x ns vs en
        obtain ⟨nz, C, dx, us, m, hl, ln, rts⟩ := rh.at' n _ a en ea
        split at e
        · rename_i ys h1 e1
          cases e
          obtain ⟨g1, s1, i1, r1, v1⟩ := frzL_ok (frzV_ok k) vs us g h ys h1 rh rts e1
          have rv : RV c (g1.frz a).fz H (.ins x ns ys) (.ref a) := by
            rw [RV]
            exact ⟨a, C, dx, us, rfl, .inr rfl, m, hl, ln, (Stp.kill (p := a)).rvs v1⟩
          exact ⟨g1.frz a, s1.trans .kill, i1, r1.kill (by rw [i1]; exact ea) rv, by rw [eu]; exact rv⟩
        · cases e
      · cases e
    | _ =>
      unfold frzV at e
      cases e
      exact ⟨g, .refl, rfl, rh, r.rv rfl⟩
def frzR (v : VV) (h : VH) : Res VV := match frzV 4 h v with
  | some (w, h2) => .ok w h2
  | none => .no
def eFrzD (f : EF) : EF := fun ρ h => (f ρ h).bind frzR
section
variable {X : Cx} {W : WX}
theorem j_frzD {e : Expr} {f : EF} (h : PE X e (tE (ct X) W f)) : PE X e (tE (ct X) W (eFrzD f)) :=
  PE.mono h fun σ H Q ⟨g, ρ, h0, rh, rs, p⟩ => by
    refine ⟨g, ρ, h0, rh, rs, (Pst.bind (R := RT (ct X)) p).imp fun u H1 ⟨g1, v, h1, st, rh1, rv1, p1⟩ => ?_⟩
    unfold frzR at p1
    split at p1
    · rename_i w h2 e
      obtain ⟨g2, s2, _, r2, v2⟩ := frzV_ok 4 g1 h1 v u w h2 rh1 rv1 e
      exact p1 g2 H1 u s2 r2 (RT.of_rv v2)
    · exact p1.elim
end
/-! comprehensions whose elements may be roots -/
def lcGoR (b : VV → VSt → Option VSt) (t : TF) (e : EF) (ρ : VSt) : List VV → VH → Res (List VV)
  | [], h => .ok [] h
  | x :: xs, h => match b x ρ with
    | none => .no
    | some ρ' => (t ρ' h).bind fun k h1 => if k = true then (e ρ' h1).bind fun v h2 => (lcGoR b t e ρ xs h2).bind fun vs h3 => .ok (v :: vs) h3 else lcGoR b t e ρ xs h1
def eLcR (own : List Nat) (it : AF) (b : VV → VSt → Option VSt) (t : TF) (e : EF) : EF := fun ρ h => (it ρ h).bind fun xs h1 => if xs.length > SZ then .no else match lcGoR b t e (wp ρ own) xs h1 with
  | .ok vs h2 => .ok (.obj h2.length) (h2 ++ [.lo vs])
  | _ => .no
/-- the loop of a comprehension, whatever is made of the new list -/
theorem lc_runR {c : Ct} {W0 : WX} {Wx : WX} {own : List Nat} {b : VV → VSt → Option VSt} {ft : TF} {fe : EF} {tg : TG} {J : It} {xs : List VV} {ρ : VSt} {σ : St} {g : Gh} {h : VH} {H1 : Hp} {D : Addr} {Q : VK} {K : PySem.W.Frag}
    (hW : ∀ a d s h, W0 a d s h → False) (ek : c.K = K) (pat : PatOk K tg b own) (dl : Deliv c g H1 xs J) (hsz : xs.length ≤ SZ) (rh : RH c g h H1) (rs : RS c g H1 ρ σ) (hD : H1 D = none)
    (fin : match lcGoR b ft fe (wp ρ own) xs h with
      | .ok vs h' => ∀ g' H' us, Stp g H1 g' H' → RH c g' h' H' → H' D = some (.lst us) → ¬ g'.fz D → D ∉ g'.io → ¬ g'.kp D → RTs c g' H' vs us → Q (.ref D) H'
      | _ => False) :
    ∃ Wv : Nat → Nat → Hp → Prop, (∃ m, Wv 0 m (upd H1 D (.lst []))) ∧ ∀ i m H, Wv i m H →
      (J.stop i H ∧ Q (.ref D) H) ∨ (J.go i H ∧ ∃ Nx : Hp → Prop, (∀ H', Nx H' → ∃ m', m' < m ∧ Wv (i + 1) m' H') ∧ ∀ x H', J.yld i H x H' → tg x (wipe σ own) H' fun σ2 H2 => wipe σ2 own = wipe σ own ∧ tT c W0 ft σ2 H2 fun bb H3 =>
        if bb = true then tE c W0 fe σ2 H3 fun y H4 => ∃ acc, H4 D = some (.lst acc) ∧ acc.length < sizeLine ∧ Nx (upd H4 D (.lst (acc ++ [y]))) else Nx H3) := by
  -- the invariant
  let P : Nat → Hp → Prop := fun i H => ∃ (gi : Gh) (hi : VH) (acc : List VV) (us : List V), acc.length ≤ i ∧ Stp g H1 gi H ∧ RH c gi hi H ∧ H D = some (.lst us) ∧ ¬ gi.fz D ∧ D ∉ gi.io ∧ ¬ gi.kp D ∧ RTs c gi H acc us ∧
    (match lcGoR b ft fe (wp ρ own) (xs.drop i) hi with
      | .ok vs h' => ∀ g' H' us, Stp gi H g' H' → RH c g' h' H' → H' D = some (.lst us) → ¬ g'.fz D → D ∉ g'.io → ¬ g'.kp D → RTs c g' H' (acc ++ vs) us → Q (.ref D) H'
      | _ => False)
  refine ⟨fun i m H => m = xs.length - i ∧ i ≤ xs.length ∧ P i H, ⟨xs.length, by simp, Nat.zero_le _, ?_⟩, ?_⟩
  · refine ⟨g, h, [], [], Nat.le_refl _, .junk rh hD, rh.junk hD, upd_same, fun z => ?_, fun z => ?_, fun z => ?_, rfl, ?_⟩
    · obtain ⟨o, e⟩ := rh.fz D z; rw [hD] at e; cases e
    · obtain ⟨o, e⟩ := rh.root z; rw [hD] at e; cases e
    · obtain ⟨o, e⟩ := rh.kp D z; rw [hD] at e; cases e
    · rw [List.drop_zero]
      generalize lcGoR b ft fe (wp ρ own) xs h = r at fin ⊢
      cases r with
      | ok vs h' =>
        intro g' H' us st
        rw [List.nil_append]
        exact fin g' H' us ((Stp.junk rh hD).trans st)
      | no => exact fin
      | exc _ _ _ _ => exact fin
  · rintro i m H ⟨rfl, hi, gi, hh, acc, us, hacc, st, rhi, hDl, nf, ni, nk, rvs, fin⟩
    by_cases hlt : i < xs.length
    · refine .inr ⟨dl.go gi H st.f i hlt, P (i + 1), fun H' p' => ⟨xs.length - (i + 1), by omega, rfl, hlt, p'⟩, fun x H' y => ?_⟩
      have ed : xs.drop i = xs[i] :: xs.drop (i + 1) := List.drop_eq_getElem_cons hlt
      have rhk : RH c (gi.keep D) hh H := rhi.keep hDl nf ni
      have stk : Stp g H1 (gi.keep D) H := st.trans .keep
      obtain ⟨g1, st1, rh1, rt1⟩ := dl.yld (gi.keep D) H stk.f i xs[i] hh (List.getElem?_eq_getElem hlt) rhk x H' y
      rw [ed] at fin
      unfold lcGoR at fin
      cases e : b xs[i] (wp ρ own) with
      | none => rw [e] at fin; exact fin.elim
      | some ρ' =>
        rw [e] at fin
        simp only at fin
        have rs1 : RS c g1 H' (wp ρ own) (wipe σ own) := ((rs.wipe own).stp stk).stp st1
        refine pat.run c g1 hh H' _ _ _ _ ρ' ek rh1 rs1 rt1 e _ fun σ2 rs2 o2 l2 => ⟨?_, ?_⟩
        · refine wipe_same (l2.trans (wipe_length _ _)) fun j hj => (o2 j hj).trans (wipe_out hj)
        · refine ⟨g1, ρ', hh, rh1, rs2, ?_⟩
          cases et : ft ρ' hh with
          | no => rw [et] at fin; exact fin.elim
          | exc _ _ _ _ => rw [et] at fin; exact fin.elim
          | ok k h1 =>
            rw [et] at fin
            intro g2 H2 bb st2 rh2 eb
            cases (show bb = k from eb)
            -- D is kept
            have hD2 : H2 D = some (.lst us) := by rw [st2.kH D (st1.kp D (.inr rfl)), st1.kH D (.inr rfl)]; exact hDl
            have kD2 : g2.kp D := st2.kp D (st1.kp D (.inr rfl))
            have s12 : Stp (gi.keep D) H g2 H2 := st1.trans st2
            cases k with
            | false =>
              rw [if_neg Bool.false_ne_true]
              have fin' : match lcGoR b ft fe (wp ρ own) (xs.drop (i + 1)) h1 with
                | .ok vs h' => ∀ g' H' us, Stp gi H g' H' → RH c g' h' H' → H' D = some (.lst us) → ¬ g'.fz D → D ∉ g'.io → ¬ g'.kp D → RTs c g' H' (acc ++ vs) us → Q (.ref D) H'
                | _ => False := by
                simp only [Res.bind, if_neg Bool.false_ne_true] at fin; exact fin
              refine ⟨g2.back gi.kp, h1, acc, us, Nat.le_succ_of_le hacc, st.trans s12.back, rh2.back (fun p z => s12.kp p (.inl z)), hD2, (rh2.kd D kD2).1, (rh2.kd D kD2).2, nk, RTs.back ((RTs.back (k := (gi.keep D).kp) rvs).stp s12), ?_⟩
              generalize lcGoR b ft fe (wp ρ own) (xs.drop (i + 1)) h1 = r at fin' ⊢
              cases r with
              | ok vs h' => exact fun g' H' us' st' => fin' g' H' us' (s12.back.trans st')
              | no => exact fin'
              | exc _ _ _ _ => exact fin'
            | true =>
              rw [if_pos rfl]
              refine ⟨g2, ρ', h1, rh2, rs2.stp st2, ?_⟩
              simp only [Res.bind, if_pos rfl] at fin
              cases ee : fe ρ' h1 with
              | no => rw [ee] at fin; exact fin.elim
              | exc _ _ _ _ => rw [ee] at fin; exact fin.elim
              | ok v h2 =>
                rw [ee] at fin
                simp only at fin
                intro g3 H3 yv st3 rh3 rv3
                have s13 : Stp (gi.keep D) H g3 H3 := s12.trans st3
                have kD3 : g3.kp D := st3.kp D kD2
                have hD3 : H3 D = some (.lst us) := by rw [st3.kH D kD2]; exact hD2
                have rvs3 : RTs c g3 H3 acc us := (RTs.back (k := (gi.keep D).kp) rvs).stp s13
                have nf3 := (rh3.kd D kD3).1
                have ni3 := (rh3.kd D kD3).2
                refine ⟨us, hD3, by rw [← rvs.len]; exact SZ_lt (by omega), ?_⟩
                -- write D
                have sw : Stp (g3.back gi.kp) H3 (g3.back gi.kp) (upd H3 D (.lst (us ++ [yv]))) := Stp.wr (c := c) (g := g3.back gi.kp) nf3 nk (fun ys z => by rw [hD3] at z; cases z)
                have rhb : RH c (g3.back gi.kp) h2 H3 := rh3.back (fun p z => s13.kp p (.inl z))
                have rhw : RH c (g3.back gi.kp) h2 (upd H3 D (.lst (us ++ [yv]))) := by
                  refine ⟨rhb.len, rhb.nd, fun n o a q1 q2 => ?_, fun q z => ?_, fun q z => ?_, rhb.kd, rhb.tb.upd (by rw [hD3]; exact noTab_of (fun _ z => by cases z) (fun _ z => by cases z)), fun q z ps y => rhb.nt q z ps (by rw [upd_ne (show q ≠ D from fun e => z.elim (fun z => nf3 (e ▸ z)) (fun z => nk (e ▸ z)))] at y; exact y)⟩
                  · have na : a ≠ D := fun z => ni3 (z ▸ List.mem_of_getElem? q2)
                    exact RO.stp sw (fun h => h) (upd_ne na) (rhb.at' n o a q1 q2)
                  · rw [upd_ne (show q ≠ D from fun e => nf3 (e ▸ z))]; exact rhb.fz q z
                  · rw [upd_ne (show q ≠ D from fun e => nk (e ▸ z))]; exact rhb.kp q z
                refine ⟨g3.back gi.kp, h2, acc ++ [v], us ++ [yv], by rw [List.length_append]; simp; omega, (st.trans s13.back).trans sw, rhw, upd_same, nf3, ni3, nk, ?_, ?_⟩
                · exact (RTs.app (RTs.back (k := gi.kp) rvs3) (RTs.one (RT.back rfl rfl rv3))).stp sw
                · generalize lcGoR b ft fe (wp ρ own) (xs.drop (i + 1)) h2 = r at fin ⊢
                  cases r with
                  | ok vs h' =>
                    intro g' H' us' st' rh' d1 d2 d3 d4 rv'
                    rw [List.append_assoc] at rv'
                    exact fin g' H' us' ((s13.back.trans sw).trans st') rh' d1 d2 d3 d4 rv'
                  | no => exact fin
                  | exc _ _ _ _ => exact fin
    · have e : i = xs.length := by omega
      subst e
      refine .inl ⟨dl.stop gi H st.f _ (Nat.le_refl _), ?_⟩
      rw [List.drop_length] at fin
      unfold lcGoR at fin
      refine fin gi H us .refl rhi hDl nf ni nk ?_
      rw [List.append_nil]; exact rvs
section
variable {X : Cx} {W : WX}
theorem tLcR_of {own : List Nat} {it : AF} {b : VV → VSt → Option VSt} {ft : TF} {fe : EF} {tg : TG} (pat : PatOk X.K tg b own)
    {σ : St} {H : Hp} {Q : VK} (h : tE (ct X) W (eLcR own it b ft fe) σ H Q) :
    tLc (tI (ct X) W it) tg (tT (ct X) W0 ft) (tE (ct X) W0 fe) own σ H Q := by
  obtain ⟨g, ρ, h0, rh, rs, p⟩ := tG.bind (R := fun g H xs J => Deliv (ct X) g H xs J) (f := it) (k := fun (xs : List VV) ρ h1 => if xs.length > SZ then .no else (match lcGoR b ft fe (wp ρ own) xs h1 with
      | .ok vs h2 => Res.ok (VV.obj h2.length) (h2 ++ [VO.lo vs])
      | _ => .no)) h
  refine ⟨g, ρ, h0, rh, rs, p.imp fun J H1 ⟨g1, ρ1, xs, h1, rh1, rs1, dl, p1⟩ D hD => ?_⟩
  by_cases hz : xs.length > SZ
  · rw [if_pos hz] at p1; exact p1.elim
  · rw [if_neg hz] at p1
    refine lc_runR (Wx := W) (fun _ _ _ _ z => z) rfl pat dl (by omega) rh1 rs1 hD ?_
    generalize lcGoR b ft fe (wp ρ1 own) xs h1 = r at p1 ⊢
    cases r with
    | ok vs h' =>
      intro g' H' us st rh' e nf ni nk rv'
      have q := Pst.step st p1
      refine q (g'.add D) H' (.ref D) .add (rh'.add ni nk ⟨nf, us, e, rv'.stp .add⟩) ⟨D, ?_, rfl⟩
      show (g'.io ++ [D])[h'.length]? = some D
      rw [← rh'.len, List.getElem?_append_right (Nat.le_refl _), Nat.sub_self]; rfl
    | no => exact p1
    | exc _ _ _ _ => exact p1
theorem j_lcR {elt tg iter : Expr} {ifs : List Expr} {scope : Scope} {own : List (Str × Nat)} {pos : Pos} {it : AF} {g : TG} {b : VV → VSt → Option VSt} {ft : TF} {fe : EF} (hc : X.calm = true) (hN : X.N.Nodup) (hi : PI X tg iter (tI (ct X) W it)) (ok : BlkOk X.N X.env.scope scope own)
    (hg : ∀ (s : Shared) (H : Hp) (C : Addr) (cl : List (Str × Addr)) (fp : List Addr), PG (X.blk s H scope (compEnvC scope cl C X.env) fp) tg g) (pat : PatOk X.K g b (own.map (·.2)))
    (ht : ∀ (s : Shared) (H : Hp) (C : Addr) (cl : List (Str × Addr)) (fp : List Addr), PTs (X.blk s H scope (compEnvC scope cl C X.env) fp) ifs (tT (ct X) W0 ft))
    (he : ∀ (s : Shared) (H : Hp) (C : Addr) (cl : List (Str × Addr)) (fp : List Addr), PE (X.blk s H scope (compEnvC scope cl C X.env) fp) elt (tE (ct X) W0 fe)) (hs : ∀ x, foldedSetIterable iter X.env x = pure x := by intro _; rfl) :
    PE X (.ListComp elt [⟨tg, iter, ifs, 0⟩] scope pos) (tE (ct X) W (eLcR (own.map (·.2)) it b ft fe)) :=
  PE.mono (pe_lc hc hN hi ok hg ht he hs) fun σ H Q h => tLcR_of pat h
end
end J
namespace J
open PySem L2
open PyProof.Rows (envOfC)
/-! calls with keywords -/
section
variable {X : Cx} {W : WX}
theorem PK.mono {e : List Keyword} {t t' : TA} (h : PK X e t) (m : ∀ σ H Q, t' σ H Q → t σ H Q) : PK X e t' := ⟨fun pos pins s σ H Q I q => h.run pos pins s σ H Q I (m σ H Q q)⟩
theorem jk_nil : PK X [] (tA (ct X) W aNil) := PK.mono pk_nil fun σ H Q ⟨g, ρ, h0, rh, rs, p⟩ => p g H [] .refl rh rfl
theorem jk_cons {e : Expr} {kws : List Keyword} {nm : Option Str} {kpos : Pos} {fa : EF} {fb : AF} (ha : PE X e (tE (ct X) W fa)) (hr : PK X kws (tA (ct X) W fb)) : PK X (⟨nm, e, kpos⟩ :: kws) (tA (ct X) W (aCons fa fb)) :=
  PK.mono (pk_cons ha hr) fun σ H Q h => by
    obtain ⟨g, ρ, h0, rh, rs, p⟩ := tG.bind (R := RT (ct X)) (f := fa) (k := fun v ρ h1 => (fb ρ h1).bind fun w h2 => .ok (v :: w) h2) h
    refine ⟨g, ρ, h0, rh, rs, p.imp fun u H1 ⟨g1, ρ1, v, h1, rh1, rs1, rv1, p1⟩ => ?_⟩
    refine ⟨g1, ρ1, h1, rh1, rs1, (Pst.bind (R := RTs (ct X)) p1).imp fun u2 H2 ⟨g2, w, h2, st, rh2, rv2, p2⟩ => ?_⟩
    exact p2 g2 H2 (u :: u2) .refl rh2 ⟨u, u2, rfl, rv1.stp st, rv2⟩
/-- positional values, then the keywords' -/
def aApp (n m : Nat) (a b : AF) : AF := fun ρ h => (a ρ h).bind fun vs h1 => (b ρ h1).bind fun ws h2 => if vs.length = n ∧ ws.length = m then .ok (vs ++ ws) h2 else .no
theorem run_kw {CX : CXT} {k n : Nat} {f : Addr} {fd : FuncData} {ps ks : List Str} {sp : Sp} {E : St → XK} {g : List Value → List Value → List Value} {gV : List V → List V → List V} {pins : List (Addr × Obj)} {σ : St} {H : Hp} {s : Shared} {Q : VK} {us ws : List Value} {vs zs : List V}
    (F : FnOk X.prog X.w X.K X.mg X.base CX k f fd ps sp) (hr : Room k X.A) (hb : KBn X.K fd ps n ks g gV) (hx : PassesAt CX X σ (E σ))
    (I : Inv X pins σ H s) (r : Vals vs us) (rz : Vals zs ws) (l1 : vs.length = n) (l2 : zs.length = ks.length) (h : sp (gV vs zs) H Q (E σ)) : wpAny (model X.prog X.w) X.A (call (.ref f) us (ks.zip ws)) (EP X pins σ Q) X.xe s := by
  have bound := hb.to s us ws I.kIn (r.length.symm.trans l1) (rz.length.symm.trans l2)
  have run := F.run X.A X.stack s H ⟨us, ks.zip ws⟩ (g us ws) (gV vs zs) Q (E σ) hr I.env0 bound (hb.rel r rz) h
  refine wpAny_call (codeAny_mono run fun res s' hq => ?_)
  match res, hq with
  | .error e, hq => exact hx pins H s e s' I hq
  | .ok (.ret u), hq => exact I.after hq
end
section
variable {X : Cx} {W : WX}
/-! xs[i] op= e, xs a root -/
theorem get_list : PGet X (rIxL X.K) := by
  intro pins s σ H o i ov iv Q I ro ri h
  obtain ⟨p, xs, k, z, rfl, rfl, hq, he, q⟩ := h
  cases ro
  obtain ⟨t, rfl⟩ := ri
  obtain ⟨its, r, pl, hz⟩ := I.list hq
  obtain ⟨j, h1, h2, h3, h4, h5⟩ := atI_get he
  obtain ⟨w, ew, rw'⟩ := r.get h2
  have hl := r.length
  have hn := line63
  have fin : EP X pins σ Q w s := ⟨z, H, I, rw', q⟩
  by_cases h0 : 0 ≤ k
  · have hj : k.toNat = j := by
      rw [seqIndex_of h0 h5] at h1
      exact Option.some.inj h1
    exact wpAny_getItem_list pl.isList h0 (by omega) (by rw [hj]; simpa using ew) fin
  · have hj : (k + (its.toArray.size : Int)).toNat = j := by
      rw [seqIndex_neg (by omega) h4] at h1
      rw [List.size_toArray, ← hl]
      exact Option.some.inj h1
    exact wpAny_getItem_list_neg pl.isList (by omega) (by rw [List.size_toArray] <;> omega) (by omega) (by rw [hj]; simpa using ew) fin
/-- o[i] += e, ints -/
def augV (fe : EF) (ρ : VSt) (ov iv : VV) (h2 : VH) : SR := if ov.isObj = true then (match opIx h2 ov iv with
  | some (.int a) => (fe ρ h2).st ρ fun v h3 => match v with
    | .int b => match setI h3 ov iv (.int (a + b)) with
      | some h4 => .nx ρ h4
      | none => .no
    | _ => .no
  | _ => .no) else .no
def sAugI (o i e : EF) : SF := fun ρ h => (o ρ h).st ρ fun ov h1 => (i ρ h1).st ρ fun iv h2 => augV e ρ ov iv h2
theorem opIx_list {c : Ct} {g : Gh} {h : VH} {H : Hp} {n : Nat} {i w : VV} {x y : V} {r : VV} (rh : RH c g h H) (rv : RT c g H (.obj n) x) (ri : RT c g H i y) (e : opIx h (.obj n) i = some r) :
    ∃ p us k u, x = .ref p ∧ y = .int k ∧ SqL c.K H p us ∧ atI us k = some u ∧ RT c g H r u := by
  cases i with
  | int k =>
    have e' : ((lstR h (.obj n)).bind fun xs => atI xs k) = some r := e
    obtain ⟨xs, e1, e2⟩ := Option.bind_eq_some_iff.mp e'
    obtain ⟨p, us, ep, sp, rp⟩ := lstR_get rh rv e1
    obtain ⟨u, eu, ru⟩ := atI_rt rp e2
    exact ⟨p, us, k, u, ep, int_get ri, sp, eu, ru⟩
  | _ => cases e
theorem js_augI {o i e : Expr} {fo fi fe : EF} {pos tpos : Pos} (ho : PE X o (tE (ct X) W fo)) (hi : PE X i (tE (ct X) W fi)) (he : PE X e (tE (ct X) W fe))
    (ha : ∀ ov iv new, augStore i ov iv new = (do holding [new, ov, iv] (setItem ov iv new); release [new, ov, iv] []; pure .next) := by intros; rfl) :
    PS X (.AugAssign (.Subscript o i tpos) .Add e pos) (tS (ct X) W (sAugI fo fi fe)) :=
  PS.mono (ps_augS ho hi get_list he ip_add set_list ha) fun D σ H ⟨g, ρ, h, rh, rs, p⟩ => by
    refine ⟨g, ρ, h, rh, rs, (Pst.st (R := RT (ct X)) rs p).imp fun u H1 ⟨g1, ov, h1, st, rh1, rs1, rv1, p1⟩ => ?_⟩
    refine ⟨g1, ρ, h1, rh1, rs1, (Pst.st (R := RT (ct X)) rs1 p1).imp fun u2 H2 ⟨g2, iv, h2, st2, rh2, rs2, rv2, p2⟩ => ?_⟩
    unfold augV at p2
    split at p2
    · rename_i co
      split at p2
      · rename_i a e1
        cases ov with
        | obj n =>
          obtain ⟨q, us, k, z, rfl, ek, sq, ea, ra⟩ := opIx_list (w := .non) rh2 (rv1.stp st2) rv2 e1
          refine ⟨q, us, k, z, rfl, ek, sq, ea, g2, ρ, h2, rh2, rs2, (Pst.st (R := RT (ct X)) rs2 p2).imp fun u3 H3 ⟨g3, v, h3, st3, rh3, rs3, rv3, p3⟩ => ?_⟩
          split at p3
          · rename_i b
            refine ⟨a, b, int_get ra, int_get rv3, ?_⟩
            cases e2 : setI h3 (.obj n) iv (.int (a + b)) with
            | none => rw [e2] at p3; exact p3.elim
            | some h4 =>
              rw [e2] at p3
              exact setI_ok rh3 ((rv1.stp st2).stp st3) (rv2.stp st3) rt_int e2 _ fun H' st' rh' => p3 g3 H' σ st' rh' (rs3.stp st')
          · exact p3.elim
        | _ => cases co
      · exact p2.elim
    · exact p2.elim
end
end J
namespace J
open PySem L2
open PyProof.Rows (envOfC)
/-! x in y -/
def seqV (h : VH) : VV → Option (List VV)
  | .tup xs => some xs
  | v => lstOf h v
theorem seqV_get {c : Ct} {g : Gh} {h : VH} {H : Hp} {v : VV} {u : V} {xs : List VV} (rh : RH c g h H) (rv : RT c g H v u) (e : seqV h v = some xs) : ∃ p us, u = .ref p ∧ (SqL c.K H p us ∨ SqT c.K H p us) ∧ RVs c g.fz H xs us := by
  have old : lstOf h v = some xs → ∃ p us, u = .ref p ∧ (SqL c.K H p us ∨ SqT c.K H p us) ∧ RVs c g.fz H xs us := fun e => by
    obtain ⟨p, us, a, b, r⟩ := lstOf_get rh rv e
    exact ⟨p, us, a, .inl b, r⟩
  cases v with
  | tup ys =>
    cases e
    obtain ⟨p, us, a, b, r⟩ := tup_get rv
    exact ⟨p, us, a, .inr b.sq, r⟩
  | _ => exact old e
/-- lists of tuples of ints -/
def tupsOf : List VV → Option (List (List Int))
  | [] => some []
  | v :: vs => (intsV v).bind fun k => (tupsOf vs).map fun ks => k :: ks
theorem tupsOf_inv : ∀ {xs : List VV} {ks : List (List Int)}, tupsOf xs = some ks → xs = ks.map tupI
  | [], ks, e => by cases e; rfl
  | v :: vs, ks, e => by
    unfold tupsOf at e
    obtain ⟨k, e1, e2⟩ := Option.bind_eq_some_iff.mp e
    obtain ⟨l, e3, e4⟩ := Option.map_eq_some_iff.mp e2
    subst e4
    rw [intsV_inv e1, tupsOf_inv e3]; rfl
theorem tupsOf_map : ∀ ks : List (List Int), tupsOf (ks.map tupI) = some ks
  | [] => rfl
  | k :: ks => by rw [List.map_cons, tupsOf, intsV_tupI, tupsOf_map ks]; rfl
theorem isD_tupI (k : List Int) : isD (tupI k) = true := by unfold tupI; rw [isD]; exact isDs_ints k
theorem isDs_tups : ∀ ks : List (List Int), isDs (ks.map tupI) = true
  | [] => rfl
  | k :: ks => by rw [List.map_cons, isDs, isD_tupI, isDs_tups ks]; rfl
theorem toD_tupI (k : List Int) : toD (tupI k) = .tuple (k.map PyData.int) := by unfold tupI; rw [toD, toDs_ints]
theorem toDs_tups : ∀ ks : List (List Int), toDs (ks.map tupI) = ks.map fun k => .tuple (k.map PyData.int)
  | [] => rfl
  | k :: ks => by rw [List.map_cons, toDs, toD_tupI, toDs_tups ks]; rfl
theorem eqv_tups (k l : List Int) : PyData.eqv (.tuple (k.map PyData.int)) (.tuple (l.map PyData.int)) = decide (k = l) := by rw [PyData.eqv, eqvAll_ints]
theorem canLay_tups : ∀ ks : List (List Int), PyData.canLayAll0 (ks.map fun k => .tuple (k.map PyData.int)) = true
  | [] => rfl
  | k :: ks => by rw [List.map_cons, PyData.canLayAll0, PyData.canLay0, canLay_ints, canLay_tups ks]; rfl
theorem depth_tups : ∀ ks : List (List Int), PyData.depthAll (ks.map fun k => .tuple (k.map PyData.int)) ≤ 1
  | [] => Nat.zero_le _
  | k :: ks => by
    rw [List.map_cons, PyData.depthAll, PyData.depth, depth_ints]
    have := depth_tups ks
    omega
theorem shaped_tupI (k : List Int) : SeqAt.shaped (toD (tupI k)) = true := by
  rw [toD_tupI]; unfold SeqAt.shaped; rw [PyData.canLay0, canLay_ints, PyData.depth, depth_ints]; rfl
theorem shaped_tups (ks : List (List Int)) : SeqAt.shaped (toD (.lst (ks.map tupI))) = true := by
  rw [toD, toDs_tups]; unfold SeqAt.shaped; rw [PyData.canLay0, canLay_tups, PyData.depth]
  have := depth_tups ks
  rw [decide_eq_true (by omega)]; rfl
theorem eq_tups {h : VH} {l m : List (List Int)} : opEq h (.lst (l.map tupI)) (.lst (m.map tupI)) = some (.bl (decide (l = m))) := by
  show (eqD _ _).map VV.bl = _
  unfold eqD
  simp only [isD, isDs_tups, shaped_tups, and_self, if_true]
  rw [toD, toD, toDs_tups, toDs_tups, PyData.eqv]
  have : ∀ l m : List (List Int), PyData.eqvAll (l.map fun k => .tuple (k.map PyData.int)) (m.map fun k => .tuple (k.map PyData.int)) = decide (l = m) := by
    intro l
    induction l with
    | nil => intro m; cases m <;> simp [PyData.eqvAll]
    | cons k l ih =>
      intro m
      cases m with
      | nil => simp [PyData.eqvAll]
      | cons k' m => rw [List.map_cons, List.map_cons, PyData.eqvAll, eqv_tups, ih]; simp
  rw [this]; rfl
theorem eq_tupI {h : VH} {l m : List Int} : opEq h (tupI l) (tupI m) = some (.bl (decide (l = m))) := by
  show (eqD _ _).map VV.bl = _
  unfold tupI
  unfold eqD
  have s1 := shaped_tupI l
  have s2 := shaped_tupI m
  unfold tupI at s1 s2
  simp only [isD, isDs_ints, s1, s2, and_self, if_true]
  rw [toD, toD, toDs_ints, toDs_ints, eqv_tups]; rfl
/-- what is in -/
def inV (h : VH) (x y : VV) : Option Bool := match dOf h y with
  | some a => (keyV x).map fun k => hasK a.1 k
  | none => match x with
    | .int i => (seqV h y).bind fun xs => (intsOf xs).map fun ns => decide (i ∈ ns)
    | .str i => (seqV h y).bind fun xs => (strsOf xs).map fun ns => decide (i ∈ ns)
    | .tup k => (intsV (.tup k)).bind fun k => match y with
      | .lst xs => (tupsOf xs).map fun ks => decide (k ∈ ks)
      | _ => none
    | _ => none
def opIn : Op2 := fun h x y => (inV h x y).map .bl
theorem any_dec {α : Type} [DecidableEq α] (x : α) : ∀ l : List α, (l.any fun y => decide (y = x)) = decide (x ∈ l)
  | [] => rfl
  | y :: l => by
    rw [List.any_cons, any_dec x l]
    by_cases h : y = x
    · subst h; simp
    · simp [h, Ne.symm h]
theorem inV_int {i : Int} {ns : List Int} : L2.inV (.int i) (ns.map V.int) = decide (i ∈ ns) := by
  unfold L2.inV
  rw [List.any_map, ← any_dec]
  rfl
theorem inV_str {i : Str} {ns : List Str} : L2.inV (.str i) (ns.map V.str) = decide (i ∈ ns) := by
  unfold L2.inV
  rw [List.any_map, ← any_dec]
  rfl
theorem flat_ints (ns : List Int) : (ns.map V.int).all flatV = true := by simp [flatV]
theorem flat_strs (ns : List Str) : (ns.map V.str).all flatV = true := by simp [flatV]
section
variable {X : Cx} {W : WX}
theorem inV_cases {c : Ct} {g : Gh} {h : VH} {H : Hp} {v w : VV} {x y : V} {b : Bool} (rh : RH c g h H) (rv : RT c g H v x) (rw' : RT c g H w y) (e : inV h v w = some b) :
    (∃ a o, y = .ref a ∧ DGet H a x o ∧ o.isSome = b) ∨ (∃ p xs, y = .ref p ∧ (SqL c.K H p xs ∨ SqT c.K H p xs) ∧ flatV x = true ∧ xs.all flatV = true ∧ L2.inV x xs = b)
      ∨ ∃ d ds, Dp c.K H x d ∧ Dp c.K H y (.list ds) ∧ SeqAt.shaped d = true ∧ SeqAt.shaped (.list ds) = true ∧ (ds.any fun z => PyData.eqv z d) = b := by
  unfold inV at e
  split at e
  · rename_i a ea
    obtain ⟨k, e1, e2⟩ := Option.map_eq_some_iff.mp e
    obtain ⟨p, us, rfl, hp, hl, rvs⟩ := dOf_get rh rw' ea
    obtain ⟨q, rfl, hb⟩ := keyV_at rv e1
    exact .inl ⟨p, _, rfl, .t hp hb, by rw [valV_has hl]; exact e2⟩
  · split at e
    · rename_i i
      obtain ⟨xs, e1, e2⟩ := Option.bind_eq_some_iff.mp e
      obtain ⟨ns, e3, e4⟩ := Option.map_eq_some_iff.mp e2
      obtain ⟨p, us, ep, sq, rvs⟩ := seqV_get rh rw' e1
      have eu := intsOf_rv rvs e3
      subst eu
      rw [int_get rv]
      exact .inr (.inl ⟨p, _, ep, sq, rfl, flat_ints ns, by rw [inV_int]; exact e4⟩)
    · rename_i i
      obtain ⟨xs, e1, e2⟩ := Option.bind_eq_some_iff.mp e
      obtain ⟨ns, e3, e4⟩ := Option.map_eq_some_iff.mp e2
      obtain ⟨p, us, ep, sq, rvs⟩ := seqV_get rh rw' e1
      have eu := strsOf_rv rvs e3
      subst eu
      rw [str_get rv]
      exact .inr (.inl ⟨p, _, ep, sq, rfl, flat_strs ns, by rw [inV_str]; exact e4⟩)
    · rename_i k
      obtain ⟨k', e1, e2⟩ := Option.bind_eq_some_iff.mp e
      split at e2
      · rename_i xs
        obtain ⟨ks, e3, e4⟩ := Option.map_eq_some_iff.mp e2
        have ek := intsV_inv e1
        have ex := tupsOf_inv e3
        subst ex
        have d1 := dp_of _ _ (rv.rv (by rfl)) (by rw [ek]; exact isD_tupI k')
        have d2 := dp_of _ _ (rw'.rv (by rfl)) (by rw [isD]; exact isDs_tups ks)
        have s1 := shaped_tupI k'
        have s2 := shaped_tups ks
        rw [ek, toD_tupI] at d1
        rw [toD, toDs_tups] at d2
        rw [toD_tupI] at s1
        rw [toD, toDs_tups] at s2
        refine .inr (.inr ⟨_, _, d1, d2, s1, s2, ?_⟩)
        rw [← e4, List.any_map]
        have := any_dec k' ks
        refine Eq.trans (congrArg ks.any (funext fun n => eqv_tups n k')) (this.trans ?_)
        congr
      · cases e2
    · cases e
theorem op_din (hu : X.A.units + 1 < cLine) : OpR X (compareOp .In) (fun x y H Q => ∃ a o, y = .ref a ∧ DGet H a x o ∧ Q (.bl o.isSome) H) := by
  intro pins s σ H x y v u Q I rx ry h
  obtain ⟨a, o, rfl, g, q⟩ := h
  obtain rfl : u = Value.ref a := ry
  exact d_in hu I g rx fun s' I' => ⟨.bl o.isSome, H, I', rfl, q⟩
theorem or_in {k : Nat} (hr : Room k X.A) : OpR X (compareOp .In) (Rd2 (ct X) opIn) :=
  OpR.imp (OpR.or (op_din (by have := hr.units; omega)) (OpR.or op_in_seq (op_inD (by have := hr.un; omega)))) fun x y H Q ⟨g, h, v, w, r, rh, rv, rw', e, kk⟩ => by
    obtain ⟨b, e1, e2⟩ := Option.map_eq_some_iff.mp e
    subst e2
    have fin := kk g H _ .refl rh rt_bl
    rcases inV_cases rh rv rw' e1 with ⟨a, o, q1, q2, q3⟩ | ⟨p, xs, q1, q2, q3, q4, q5⟩ | ⟨d, ds, q1, q2, q3, q4, q5⟩
    · exact .inl ⟨a, o, q1, q2, by rw [q3]; exact fin⟩
    · exact .inr (.inl ⟨p, xs, q1, q2, q3, q4, by rw [q5]; exact fin⟩)
    · exact .inr (.inr ⟨d, ds, q1, q2, q3, q4, by rw [q5]; exact fin⟩)
/-! min, int -/
def cMin : OpN := fun _ vs => match vs with
  | [.int i, .int j] => some (.int (if j < i then j else i))
  | _ => none
theorem cr_minJ (hc : X.calm = true) : CallR X (.builtin "min") (RdN (ct X) cMin) :=
  CallR.imp (call_min2 hc) fun xs H Q ⟨g, h, vs, r, rh, rv, e, kk⟩ => by
    unfold cMin at e
    split at e
    · cases e
      obtain ⟨u, q, rfl, a, u2, q2, rfl, a2, rfl⟩ := rv
      exact ⟨_, _, by rw [int_get a, int_get a2], kk g H _ .refl rh rt_int⟩
    · cases e
def cInt : OpN := fun _ vs => match vs with
  | [.int i] => some (.int i)
  | [.bl b] => some (.int (if b then 1 else 0))
  | _ => none
theorem cr_intJ : CallR X (.type "int") (RdN (ct X) cInt) :=
  CallR.imp call_int1 fun xs H Q ⟨g, h, vs, r, rh, rv, e, kk⟩ => by
    unfold cInt at e
    split at e
    · cases e
      obtain ⟨u, q, rfl, a, rfl⟩ := rv
      exact .inl ⟨_, by rw [int_get a], kk g H _ .refl rh rt_int⟩
    · cases e
      obtain ⟨u, q, rfl, a, rfl⟩ := rv
      exact .inr ⟨_, by rw [bl_get a], kk g H _ .refl rh rt_int⟩
    · cases e
/-! new lists as roots -/
abbrev OpL := VH → List VV → Option (List VV)
def newO (o : Option (List VV)) (h : VH) : Res VV := match o with
  | some xs => .ok (.obj h.length) (h ++ [.fl xs])
  | none => .no
def eNewO (op : OpL) (a : AF) : EF := fun ρ h => (a ρ h).bind fun v h1 => newO (op h1 v) h1
def RnN (c : Ct) (op : OpL) : List V → Hp → VK → Prop := fun xs H Q => ∃ g h vs r, RH c g h H ∧ RTs c g H vs xs ∧ op h vs = some r ∧ ∀ g' H' u, Stp g H g' H' → RH c g' (h ++ [.fl r]) H' → RT c g' H' (.obj h.length) u → Q u H'
theorem tCBO_of {r : List V → Hp → VK → Prop} {op : OpL} {fa : AF} (m : ∀ x H Q, RnN (ct X) op x H Q → r x H Q) {σ : St} {H : Hp} {Q : VK} (h : tE (ct X) W (eNewO op fa) σ H Q) : tCB r (tA (ct X) W fa) σ H Q := by
  obtain ⟨g, ρ, h0, rh, rs, p⟩ := h
  refine ⟨g, ρ, h0, rh, rs, (Pst.bind (R := RTs (ct X)) p).imp fun u H1 ⟨g1, v, h1, st, rh1, rv1, p1⟩ => ?_⟩
  unfold newO at p1
  split at p1
  · rename_i xs e
    exact m _ _ _ ⟨g1, h1, v, xs, rh1, rv1, e, fun g' H' u st' rh' rv' => p1 g' H' u st' rh' rv'⟩
  · exact p1.elim
theorem j_callTyO {x : Str} {p pos : Pos} {T : String} {op : OpL} {e : Expr} {es : List Expr} {fa : AF} (hc : CallR X (.type T) (RnN (ct X) op)) (hg : Gl X x) (hm : X.mg x = none) (hv : bootBuiltins x = some (.type T)) (ha : PA X (e :: es) (tA (ct X) W fa)) (hn : x ≠ "__name__" := by decide) (hdb : (x == ("__debug__" : Str)) = false := by decide)
    (he : starEach (e :: es) X.env = (false, eval e X.env) :: starEach es X.env := by rfl) (hpl : (backTo pos (starEach es X.env)).any (·.1) = false := by rfl) :
    PE X (.Call (.Name x p) (e :: es) [] pos) (tE (ct X) W (eNewO op fa)) :=
  PE.mono (pe_callTy hc hg hm hv ha hn hdb he hpl) fun σ H Q h => tCBO_of (fun _ _ _ q => q) h
def lList : OpL := fun h vs => match vs with
  | [v] => seqV h v
  | _ => none
theorem root_of {c : Ct} {g : Gh} {h : VH} {H : Hp} {p : Addr} {vs : List VV} {us : List V} (rh : RH c g h H) (hp : H p = none) (rv : RVs c g.fz H vs us) :
    Stp g H (g.add p) (upd H p (.lst us)) ∧ RH c (g.add p) (h ++ [.fl vs]) (upd H p (.lst us)) ∧ RT c (g.add p) (upd H p (.lst us)) (.obj h.length) (.ref p) := by
  have st : Stp g H g (upd H p (.lst us)) := .junk rh hp
  have rh1 : RH c g h (upd H p (.lst us)) := rh.junk hp
  have nq : p ∉ g.io := fun z => by
    obtain ⟨o, e⟩ := rh.root z
    rw [hp] at e; cases e
  refine ⟨st.trans .add, rh1.add nq (fun z => ?_) ⟨fun z => ?_, us, upd_same, st.rvs rv⟩, ⟨p, ?_, rfl⟩⟩
  · obtain ⟨o, e⟩ := rh.kp p z; rw [hp] at e; cases e
  · obtain ⟨o, e⟩ := rh.fz p z; rw [hp] at e; cases e
  · show (g.io ++ [p])[h.length]? = some p
    rw [← rh.len, List.getElem?_append_right (Nat.le_refl _), Nat.sub_self]; rfl
theorem cr_listO : CallR X (.type "list") (RnN (ct X) lList) :=
  CallR.imp call_list_of fun xs H Q ⟨g, h, vs, r, rh, rv, e, kk⟩ => by
    unfold lList at e
    split at e
    · obtain ⟨u, q, rfl, a, rfl⟩ := rv
      obtain ⟨p, us, ep, sp, rp⟩ := seqV_get rh a e
      refine ⟨p, us, by rw [ep], sp, fun l hl => ?_⟩
      obtain ⟨s1, s2, s3⟩ := root_of rh hl rp
      exact kk _ _ _ s1 s2 s3
    · cases e
/-- [..] * n as a root -/
def repO (v w : VV) : Option (List VV) := match v, w with
  | .lst xs, .int k => if -(2 ^ 63) ≤ k ∧ k < 2 ^ 63 ∧ xs.length * k.toNat ≤ SZ then some (List.replicate k.toNat xs).flatten else none
  | _, _ => none
def eRepO (a b : EF) : EF := fun ρ h => (a ρ h).bind fun v h1 => (b ρ h1).bind fun w h2 => newO (repO v w) h2
theorem j_repO {a b : Expr} {fa fb : EF} {pos : Pos} (ha : PE X a (tE (ct X) W fa)) (hb : PE X b (tE (ct X) W fb)) : PE X (.BinOp a .Mult b pos) (tE (ct X) W (eRepO fa fb)) :=
  PE.mono (pe_op op_rep ha hb) fun σ H Q ⟨g, ρ, h0, rh, rs, p⟩ => by
    refine ⟨g, ρ, h0, rh, rs, (Pst.bind (R := RT (ct X)) p).imp fun u H1 ⟨g1, v, h1, st, rh1, rv1, p1⟩ => ?_⟩
    refine ⟨g1, ρ, h1, rh1, rs.stp st, (Pst.bind (R := RT (ct X)) p1).imp fun u2 H2 ⟨g2, w, h2, st2, rh2, rv2, p2⟩ => ?_⟩
    unfold newO at p2
    split at p2
    · rename_i r e
      unfold repO at e
      split at e
      · split at e
        · rename_i xs k _ cc
          obtain rfl := Option.some.inj e
          obtain ⟨q, us, rfl, hq, rvs⟩ := lstOf'_get (xs := xs) rh2 (rv1.stp st2) rfl
          refine ⟨q, k, us, rfl, int_get rv2, hq, cc.1, cc.2.1, by rw [← rvs.len]; exact SZ_le cc.2.2, fun l hl => ?_⟩
          obtain ⟨s1, s2, s3⟩ := root_of rh2 hl (rvs.rep k.toNat)
          exact p2 _ _ _ s1 s2 s3
        · cases e
      · cases e
    · exact p2.elim
/-! list(range(n)) -/
theorem cr_range1 : CallR X (.type "range") (fun vs H Q => ∃ i, vs = [V.int i] ∧ ∀ p, H p = none → Q (.ref p) (upd H p (.rng 0 i))) := by
  intro pins s σ H vs us Q I r h
  obtain ⟨i, rfl, q⟩ := h
  obtain ⟨u1, rfl, ri⟩ := r.one
  obtain ⟨t, rfl⟩ := ri
  refine call_range_1 ⟨.ref s.heap.objs.size, upd H s.heap.objs.size (.rng 0 i), I.laid (t' := s.toks + 1 + 1) (fun b o e => Heap.get?_push_of_some _ e) (Nat.le_refl _) ?_, rfl, q _ (I.hok.fresh (Nat.le_refl _))⟩
  exact ⟨s.toks, t, s.toks + 1, Heap.get?_push_size _ rfl⟩
theorem vals_items {n : Nat} {acc : Array Value} (it : ItemsOf (fun i v => ∃ t, v = Value.int (0 + (i : Int) * 1) t) acc n) : Vals ((List.range n).map fun (i : Nat) => V.int ((i : Nat) : Int)) acc.toList := by
  have key : ∀ (l : List Value) (k : Nat), (∀ (j : Nat) (v : Value), l[j]? = some v → ∃ t, v = Value.int (((k + j : Nat) : Nat) : Int) t) → Vals ((List.range' k l.length).map fun (i : Nat) => V.int ((i : Nat) : Int)) l := by
    intro l
    induction l with
    | nil => intro k _; exact .nil
    | cons x l ih =>
      intro k hx
      rw [List.length_cons, List.range'_succ, List.map_cons]
      obtain ⟨t, e⟩ := hx 0 x rfl
      refine .cons ⟨t, e⟩ (ih (k + 1) fun j v hj => ?_)
      obtain ⟨t', e'⟩ := hx (j + 1) v (by simpa using hj)
      exact ⟨t', by rw [e', show k + (j + 1) = k + 1 + j by omega]⟩
  have h := key acc.toList 0 fun j v hj => by
    obtain ⟨t, e⟩ := it.2 j v (by simpa using hj)
    exact ⟨t, by rw [e]; congr 1; omega⟩
  rw [Array.length_toList, it.1, ← List.range_eq_range'] at h
  exact h
theorem cr_listRng (hc : X.calm = true) : CallR X (.type "list") (fun vs H Q => ∃ a n, vs = [V.ref a] ∧ H a = some (.rng 0 n) ∧ n ≤ SZ ∧ 0 ≤ n ∧ ∀ p, H p = none → Q (.ref p) (upd H p (.lst ((List.range n.toNat).map fun (i : Nat) => V.int ((i : Nat) : Int))))) := by
  intro pins s σ H vs us Q I r h
  obtain ⟨a, n, rfl, ha, hn, h0, q⟩ := h
  obtain ⟨u, rfl, ru⟩ := r.one
  cases ru
  obtain ⟨t, u, v, ho⟩ := (show ObjOk X.prog X.w H s.heap a (.rng 0 n) from I.hok a _ ha)
  refine call_list_range (a := 0) (b := n) (c := 1) (n := n.toNat) (I.ok.hd hc) ho ?_ ?_ ?_ fun h' tk acc c' kp e it => ?_
  · unfold Builtin.Range.small
    have : n ≤ 16777216 := hn
    have sz : Builtin.Range.rangeSize 0 n 1 = n.toNat := by
      unfold Builtin.Range.rangeSize
      simp
      omega
    have f : ∀ m : Int, 0 ≤ m → m ≤ 16777216 → Builtin.Range.rangeFitsLong m = true := fun m h1 h2 => by
      unfold Builtin.Range.rangeFitsLong
      simp
      omega
    rw [sz, f 0 (by omega) (by omega), f n h0 this, f 1 (by omega) (by omega), f _ (by omega) (by omega)]
    simp
    exact .inr (f n h0 this)
  · unfold Builtin.Range.rangeSize
    simp
    omega
  · show n.toNat ≤ 16777216
    have : n ≤ 16777216 := hn
    omega
  · have fr := I.hok.fresh (a := s.heap.objs.size) (Nat.le_refl _)
    refine ⟨.ref s.heap.objs.size, _, I.laid (o := .lst ((List.range n.toNat).map fun (i : Nat) => V.int ((i : Nat) : Int))) kp (Nat.le_refl _) ?_, rfl, q _ fr⟩
    refine ⟨?_, acc.toList, c', vals_items it, ?_⟩
    · rw [List.length_map, List.length_range]; exact SZ_le (by have : n ≤ 16777216 := hn; show n.toNat ≤ 16777216; omega)
    · rw [e]
def eListRngO (f : EF) : EF := fun ρ h => (f ρ h).bind fun v h1 => match v with
  | .int n => if 0 ≤ n ∧ n ≤ SZ then .ok (.obj h1.length) (h1 ++ [.fl (rngV 0 n.toNat)]) else .no
  | _ => .no
theorem rvs_rng {c : Ct} {z : Addr → Prop} {H : Hp} (n : Nat) : RVs c z H (rngV 0 n) ((List.range n).map fun (i : Nat) => V.int ((i : Nat) : Int)) := by
  unfold rngV
  generalize List.range n = l
  induction l with
  | nil => exact RVs.nil
  | cons x l ih =>
    refine RVs.cons ?_ ih
    show RV c z H (.int (0 + (x : Int))) _
    rw [Int.zero_add]; exact rv_int _ _ _ _
theorem j_listRngO {a : Expr} {f : EF} {p p2 pos pos2 : Pos} (hc : X.calm = true) (g1 : Gl X "list") (m1 : X.mg "list" = none) (g2 : Gl X "range") (m2 : X.mg "range" = none) (ha : PE X a (tE (ct X) W f))
    (hs : starEach [a] X.env = (false, eval a X.env) :: starEach [] X.env := by rfl) (hs2 : starEach [.Call (.Name "range" p2) [a] [] pos2] X.env = (false, eval (.Call (.Name "range" p2) [a] [] pos2) X.env) :: starEach [] X.env := by rfl)
    (hpl : (backTo pos (starEach [] X.env)).any (·.1) = false := by rfl) (hpl2 : (backTo pos2 (starEach [] X.env)).any (·.1) = false := by rfl) :
    PE X (.Call (.Name "list" p) [.Call (.Name "range" p2) [a] [] pos2] [] pos) (tE (ct X) W (eListRngO f)) :=
  PE.mono (pe_callTy (cr_listRng hc) g1 m1 (by decide +kernel) (pa_cons (pe_callTy cr_range1 g2 m2 (by decide +kernel) (pa_cons ha pa_nil hs) (by decide) (by decide) hs hpl2) pa_nil hs2) (by decide) (by decide) hs2 hpl) fun σ H Q ⟨g, ρ, h0, rh, rs, p⟩ => by
    refine ⟨g, ρ, h0, rh, rs, (Pst.bind (R := RT (ct X)) p).imp fun u H1 ⟨g1, v, h1, st, rh1, rv1, p1⟩ => ?_⟩
    split at p1
    · rename_i n
      split at p1
      · rename_i cc
        refine ⟨n, by rw [int_get rv1], fun q hq => ⟨q, n, rfl, upd_same, cc.2, cc.1, fun l hl => ?_⟩⟩
        have s0 : Stp g1 H1 g1 (upd H1 q (.rng 0 n)) := .junk rh1 hq
        obtain ⟨s1, s2, s3⟩ := root_of (rh1.junk hq) hl (rvs_rng n.toNat)
        exact p1 _ _ _ (s0.trans s1) s2 s3
      · exact p1.elim
    · exact p1.elim
/-! l.index(x), tuples of ints -/
def idxT (h : VH) (ov v : VV) : Option VV := match ov with
  | .lst xs => (tupsOf xs).bind fun ks => (intsV v).bind fun k => (ks.findIdx? fun z => decide (z = k)).map fun (j : Nat) => VV.int (j : Int)
  | _ => none
def eIdx (fo fe : EF) : EF := fun ρ h => (fo ρ h).bind fun ov h1 => match ov with
  | .lst xs => (fe ρ h1).bind fun v h2 => lift (idxT h2 (.lst xs) v) h2
  | _ => .no
theorem j_idx {o e : Expr} {fo fe : EF} {apos cpos : Pos} {k : Nat} (hr : Room k X.A) (ho : PE X o (tE (ct X) W fo)) (ha : PE X e (tE (ct X) W fe)) (hs1 : starEach (e :: []) X.env = (false, eval e X.env) :: starEach [] X.env := by rfl)
    (hbase : attributeBase o "index" X.env (eval o X.env) = eval o X.env := by rfl)
    (hfew : ((backTo cpos (starEach [e] X.env)).all (fun x => !x.1) && (backToKw cpos (keywordEach [] X.env)).all (fun x => x.1.isSome)
      && decide ([e].length + ([] : List Keyword).length + (if ([] : List Keyword).isEmpty then 0 else 1) < 30)) = true := by rfl)
    (hline : (apos.endLine == cpos.line) = true := by rfl) (hplain : (backTo cpos (starEach [] X.env)).any (·.1) = false := by rfl) :
    PE X (.Call (.Attribute o "index" apos) [e] [] cpos) (tE (ct X) W (eIdx fo fe)) :=
  PE.mono (pe_bm PySem.F.plainAttrs_list PySem.F.slot_list_index PySem.F.type_list_index (mt_indexD (by have := hr.un; omega)) ho (pa_cons ha pa_nil hs1) hbase hfew hline hs1 hplain) fun σ H Q ⟨g, ρ, h0, rh, rs, p⟩ => by
    refine ⟨g, ρ, h0, rh, rs, (Pst.bind (R := RT (ct X)) p).imp fun u H1 ⟨g1, ov, h1, st, rh1, rv1, p1⟩ => ?_⟩
    split at p1
    · rename_i xs
      obtain ⟨a, us, eu, sq, rvs⟩ := lstOf_get (xs := xs) rh1 rv1 rfl
      refine ⟨by rw [eu]; exact .inl ⟨rfl, us, sq⟩, g1, ρ, h1, rh1, rs.stp st, (Pst.bind (R := RT (ct X)) p1).imp fun u2 H2 ⟨g2, v, h2, st2, rh2, rv2, p2⟩ => ?_⟩
      unfold lift at p2
      cases e : idxT h2 (.lst xs) v with
      | none => rw [e] at p2; exact p2.elim
      | some r =>
        rw [e] at p2
        unfold idxT at e
        obtain ⟨ks, e1, e2⟩ := Option.bind_eq_some_iff.mp e
        obtain ⟨k', e3, e4⟩ := Option.bind_eq_some_iff.mp e2
        obtain ⟨j, e5, e6⟩ := Option.map_eq_some_iff.mp e4
        subst e6
        have ex := tupsOf_inv e1
        have ek := intsV_inv e3
        subst ex
        subst ek
        have rv1' := rv1.stp st2
        rw [eu] at rv1' ⊢
        have d1 := dp_of _ _ (rv2.rv (by rfl)) (isD_tupI k')
        have d2 := dp_of _ _ (rv1'.rv (by rfl)) (by rw [isD]; exact isDs_tups ks)
        have s1 := shaped_tupI k'
        have s2 := shaped_tups ks
        rw [toD_tupI] at d1 s1
        rw [toD, toDs_tups] at d2 s2
        obtain ⟨hj, h5, h6⟩ := List.findIdx?_eq_some_iff_getElem.mp e5
        refine ⟨a, u2, _, _, j, .tuple (ks[j].map PyData.int), rfl, rfl, d2, d1, s2, s1, ?_, ?_, ?_, p2 g2 H2 _ .refl rh2 rt_int⟩
        · rw [List.getElem?_map, List.getElem?_eq_getElem hj]; rfl
        · rw [eqv_tups]; exact h5
        · intro m z hm hz
          rw [List.getElem?_map] at hz
          have hm' : m < ks.length := by omega
          rw [List.getElem?_eq_getElem hm'] at hz
          cases hz
          rw [eqv_tups]
          have := h6 m hm
          simpa using this
    · exact p1.elim
/-- a statement that is never reached -/
theorem js_never {st : Stmt} : PS X st (tS (ct X) W (fun _ _ => .no)) := PS.mono ps_never fun D σ H ⟨g, ρ, h, rh, rs, p⟩ => p
end
end J
namespace J
open PySem L2
open PyProof.Rows (envOfC)
def eDnew : EF := fun _ h => .ok (.obj h.length) (h ++ [.dT [] []])
theorem j_dnew' {X : Cx} {W : WX} {pos : Pos} : PE X (.Dict [] [] pos) (tE (ct X) W eDnew) := j_dnew
/-! methods and classes of the text -/
structure Dm (K : PySem.W.Frag) (x q : Str) (st : Stmt) (dvs : List V) (kws : List (Str × V)) (f : Addr) (fd : FuncData) : Prop where
  F : FunD K x q (defArgs st) (defBody st) (defScope st) dvs kws f fd
/-- a class: what is read of it -/
structure ClsT (K : PySem.W.Frag) (mg : Str → Option Value) (cn : Str) (C : Addr) : Prop where
  m : mg cn = some (.ref C)
  c : Cls K C
section
variable {P : Program} {w : World} {K : PySem.W.Frag} {mg : Str → Option Value} {base : Heap}
theorem fnokM_of {x q : Str} {st : Stmt} {dvs : List V} {kws : List (Str × V)} {f : Addr} {fd : FuncData} {N ps : List Str} {k n m : Nat} {B : SF} (D : Dm K x q st dvs kws f fd) (S : FnScope N ps (defScope st)) (hn : n = N.length) (hp : ps.length ≤ n) (hm : m = ps.length)
    (hbody : ∀ (cdv : Value) (A : Around) (outer : List Env) (s : Shared) (H : Hp) (E : XK), Room k (A.deeper (envOfC q (defScope st) s.heap.objs.size f cdv)) →
      PSs (cxOf (L2N.CX P w) P w K mg base N q (defScope st) f cdv A outer s H E) (defBody st) (tS ⟨K, mg⟩ (fun a d _ H' => E a d H') B)) :
    FnOk P w K mg base (L2N.CX P w) (k + 1) f fd ps (spF ⟨K, mg⟩ m (fnF n B)) := by
  subst hm
  exact fn_ok D.F S hn hp hbody
/-- all parameters are given -/
theorem okM_of {cn x q : Str} {st : Stmt} {kws : List (Str × V)} {C f : Addr} {fd : FuncData} {ps : List Str} {k m : Nat} {Fm : FF} (T : ClsT K mg cn C) (M : Meth K C x f) (D : Dm K x q st [] kws f fd) (hF : FnOk P w K mg base (L2N.CX P w) k f fd ps (spF ⟨K, mg⟩ m Fm))
    (hb : ∀ (kV doc pm : Value) (an : Option Addr) (cdv ct : Value) (us : List Value), us.length = ps.length → bindArgs (PySem.W.fnOf x q (defArgs st) (defBody st) (defScope st) .none kV doc pm an cdv ct) ⟨us, []⟩ = pure (ps.zip us)) :
    OkM P w K mg base k cn x m [] Fm := ⟨C, f, fd, ps, [], [], T.m, T.c, M, hF, D.F.bindsN hb, .nil, fun _ _ => rfl⟩
/-- keyword-only ones left out -/
theorem okM0_of {cn x q : Str} {st : Stmt} {kws : List (Str × V)} {C f : Addr} {fd : FuncData} {ps : List Str} {k m : Nat} {Fm : FF} {dws : List VV} (T : ClsT K mg cn C) (M : Meth K C x f) (D : Dm K x q st [] kws f fd) (hF : FnOk P w K mg base (L2N.CX P w) k f fd ps (spF ⟨K, mg⟩ m Fm)) (n : Nat) (hk : kws ≠ []) (hn : n + kws.length = ps.length)
    (h : ∀ (D : Addr) (doc pm : Value) (an : Option Addr) (cdv ct : Value) (us ks : List Value), us.length = n → ks.length = kws.length →
      KwChain D ((kws.map (·.1)).zip ks) (bindArgs (PySem.W.fnOf x q (defArgs st) (defBody st) (defScope st) .none (.ref D) doc pm an cdv ct) ⟨us, []⟩) (ps.zip (us ++ ks)))
    (hr : ∀ g H, RTs ⟨K, mg⟩ g H dws (kws.map (·.2))) : OkM P w K mg base k cn x m dws Fm := by
  obtain ⟨ds, h1, h2⟩ := D.F.binds0 n hk hn h
  exact ⟨C, f, fd, ps, _, ds, T.m, T.c, M, hF, h2, h1, hr⟩
theorem okC_of {cn x q : Str} {st : Stmt} {C f : Addr} {fd : FuncData} {ps : List Str} {k m : Nat} {Fm : FF} (T : ClsT K mg cn C) (M : Mk K C f) (D : Dm K x q st [] [] f fd) (hF : FnOk P w K mg base (L2N.CX P w) k f fd ps (spF ⟨K, mg⟩ m Fm))
    (hb : ∀ (kV doc pm : Value) (an : Option Addr) (cdv ct : Value) (us : List Value), us.length = ps.length → bindArgs (PySem.W.fnOf x q (defArgs st) (defBody st) (defScope st) .none kV doc pm an cdv ct) ⟨us, []⟩ = pure (ps.zip us)) :
    OkC P w K mg base k cn m [] Fm := ⟨C, f, fd, ps, [], [], T.m, M, hF, D.F.bindsN hb, .nil, fun _ _ => rfl⟩
/-- .. with defaults (the first j of them given) -/
theorem okCD_of {cn x q : Str} {st : Stmt} {dvs : List V} {C f : Addr} {fd : FuncData} {ps : List Str} {k m : Nat} {Fm : FF} {dws : List VV} (T : ClsT K mg cn C) (M : Mk K C f) (D : Dm K x q st dvs [] f fd) (hF : FnOk P w K mg base (L2N.CX P w) k f fd ps (spF ⟨K, mg⟩ m Fm)) (n j : Nat) (hd : dvs ≠ []) (hn : n + (dvs.length - j) = ps.length)
    (h : ∀ (T : Addr) (kV doc pm : Value) (an : Option Addr) (cdv ct : Value) (us its : List Value), us.length = n → its.length = dvs.length →
      ∃ k, bindArgs (PySem.W.fnOf x q (defArgs st) (defBody st) (defScope st) (.ref T) kV doc pm an cdv ct) ⟨us, []⟩ = seqItems? (.ref T) >>= k ∧ k (some its.toArray) = pure (ps.zip (us ++ its.drop j)))
    (hr : ∀ g H, RTs ⟨K, mg⟩ g H dws (dvs.drop j)) : OkC P w K mg base k cn m dws Fm := by
  obtain ⟨ds, h1, h2⟩ := D.F.binds1 n j hd hn h
  exact ⟨C, f, fd, ps, _, ds, T.m, M, hF, h2, h1, hr⟩
end
theorem dm_mk {K : PySem.W.Frag} {x q : Str} {st : Stmt} {f : Addr} {oc : Value} {od an : Option Addr} {osl : Array (Option Value)} {kV doc pm cdv ct : Value}
    (l : K.lookup f = some ⟨oc, od, .func (PySem.W.fnOf x q (defArgs st) (defBody st) (defScope st) .none kV doc pm an cdv ct), osl⟩) (c : PySem.W.codeIn K cdv q = true) (k : PySem.W.keepIn K (.ref f) = true) :
    Dm K x q st [] [] f (PySem.W.fnOf x q (defArgs st) (defBody st) (defScope st) .none kV doc pm an cdv ct) :=
  ⟨⟨⟨oc, od, .none, kV, doc, pm, an, cdv, ct, osl, rfl, l, c, .inl ⟨rfl, rfl⟩, .inl rfl⟩, k⟩⟩
theorem dm_mkD {K : PySem.W.Frag} {x q : Str} {st : Stmt} {dvs : List V} {f T : Addr} {o : Obj} {its : List Value} {n : Nat} {oc : Value} {od an : Option Addr} {osl : Array (Option Value)} {kV doc pm cdv ct : Value}
    (l : K.lookup f = some ⟨oc, od, .func (PySem.W.fnOf x q (defArgs st) (defBody st) (defScope st) (.ref T) kV doc pm an cdv ct), osl⟩) (c : PySem.W.codeIn K cdv q = true) (k : PySem.W.keepIn K (.ref f) = true)
    (hd : dvs ≠ []) (lT : K.lookup T = some o) (dT : o.data = .seq its.toArray n) (rv : Vals dvs its) :
    Dm K x q st dvs [] f (PySem.W.fnOf x q (defArgs st) (defBody st) (defScope st) (.ref T) kV doc pm an cdv ct) :=
  ⟨⟨⟨oc, od, .ref T, kV, doc, pm, an, cdv, ct, osl, rfl, l, c, .inr ⟨hd, T, o, its, n, rfl, lT, dT, rv⟩, .inl rfl⟩, k⟩⟩
theorem dm_mkK {K : PySem.W.Frag} {x q : Str} {st : Stmt} {f D : Addr} {kn : Str} {i : Int} {t : Tok} {oc : Value} {od an : Option Addr} {osl : Array (Option Value)} {doc pm cdv ct : Value}
    (l : K.lookup f = some ⟨oc, od, .func (PySem.W.fnOf x q (defArgs st) (defBody st) (defScope st) .none (.ref D) doc pm an cdv ct), osl⟩) (c : PySem.W.codeIn K cdv q = true) (k : PySem.W.keepIn K (.ref f) = true)
    (e : PySem.W.nsIn K D kn = some (some (.int i t))) :
    Dm K x q st [] [(kn, .int i)] f (PySem.W.fnOf x q (defArgs st) (defBody st) (defScope st) .none (.ref D) doc pm an cdv ct) :=
  ⟨⟨⟨oc, od, .none, .ref D, doc, pm, an, cdv, ct, osl, rfl, l, c, .inl ⟨rfl, rfl⟩, .inr ⟨D, rfl, fun z hz => by
    rw [List.mem_singleton] at hz
    subst hz
    exact ⟨_, e, ⟨t, rfl⟩⟩⟩⟩, k⟩⟩
theorem fld_of {K : PySem.W.Frag} {mg : Str → Option Value} {cn f : Str} {C : Addr} (T : ClsT K mg cn C) (n : PySem.W.findIn K (.ref C) f = some none) : ∀ C', mg cn = some (.ref C') → Cls K C' ∧ NoAttr K C' f := fun C' e => by
  rw [T.m] at e
  cases e
  exact ⟨T.c, n⟩
end J
namespace J
open PySem L2
/-! evaluation of what J8 to J27 added -/
section
variable {ρ : VSt} {h : VH}
def frzO (o : Option VO) (n : Nat) (h : VH) : Res VV := match o with
  | some (.fl xs) => .ok (.lst xs) (h.set n (.fzn (.lst xs)))
  | some (.fzn w) => .ok w h
  | some (.dT ks vs) => .ok (.dT ks vs) (h.set n (.fzn (.dT ks vs)))
  | some (.dK ks vs) => .ok (.dK ks vs) (h.set n (.fzn (.dK ks vs)))
  | some (.lo xs) => frzR (.obj n) h
  | some (.ins _ _ _) => frzR (.obj n) h
  | none => .no
theorem a_frzD {f} : eFrzD f ρ h = bnd (f ρ h) frzR (tg _) := nr rfl
theorem frzR_obj {n : Nat} : frzR (.obj n) h = frzO (h[n]?) n h := by
  cases e : h[n]? with
  | none => simp only [frzO, frzR, frzV, e]
  | some o => cases o <;> simp only [frzO, frzR, frzV, e]
theorem frzO_fl {xs n} : frzO (some (.fl xs)) n h = .ok (.lst xs) (h.set n (.fzn (.lst xs))) := nr rfl
theorem frzO_fzn {w n} : frzO (some (.fzn w)) n h = .ok w h := nr rfl
theorem frzR_lst {xs} : frzR (.lst xs) h = .ok (.lst xs) h := nr rfl
theorem frzR_tup {xs} : frzR (.tup xs) h = .ok (.tup xs) h := nr rfl
theorem frzR_int {i} : frzR (.int i) h = .ok (.int i) h := nr rfl
theorem a_newO {op a} : eNewO op a ρ h = bnd (a ρ h) (fun v h1 => newO (op h1 v) h1) (tg _) := nr rfl
theorem newO_some {xs} : newO (some xs) h = .ok (.obj h.length) (h ++ [.fl xs]) := nr rfl
theorem lList_lst {xs} : lList h [.lst xs] = some xs := nr rfl
theorem lList_tup {xs} : lList h [.tup xs] = some xs := nr rfl
def lrO (v : VV) (h1 : VH) : Res VV := match v with
  | .int n => if 0 ≤ n ∧ n ≤ SZ then .ok (.obj h1.length) (h1 ++ [.fl (rngV 0 n.toNat)]) else .no
  | _ => .no
theorem a_listRngO {f} : eListRngO f ρ h = bnd (f ρ h) lrO (tg _) := nr rfl
theorem lrO_int {n : Int} : lrO (.int n) h = if 0 ≤ n ∧ n ≤ SZ then .ok (.obj h.length) (h ++ [.fl (rngV 0 n.toNat)]) else .no := nr rfl
theorem a_repO {a b} : eRepO a b ρ h = bnd (a ρ h) (fun v h1 => bnd (b ρ h1) (fun w h2 => newO (repO v w) h2) (tg _)) (tg _) := nr rfl
theorem repO_lst {xs : List VV} {k : Int} : repO (.lst xs) (.int k) = if -(2 ^ 63) ≤ k ∧ k < 2 ^ 63 ∧ xs.length * k.toNat ≤ SZ then some (List.replicate k.toNat xs).flatten else none := nr rfl
def chkL {α : Type} (o : Option (List VV)) (r : Res α) : Res α := match o with
  | none => .no
  | some _ => r
theorem chkL_some {α : Type} {xs : List VV} {r : Res α} : chkL (some xs) r = r := nr rfl
def lstO (o : Option VO) : Option (List VV) := match o with
  | some (.fl xs) => some xs
  | some (.fzn (.lst xs)) => some xs
  | _ => none
theorem lstOf_obj {n : Nat} : lstOf h (.obj n) = lstO (h[n]?) := by
  unfold lstOf lstO
  rfl
theorem lstO_fl {xs} : lstO (some (.fl xs)) = some xs := nr rfl
theorem lstO_fzn {xs} : lstO (some (.fzn (.lst xs))) = some xs := nr rfl
def lstRO (o : Option VO) : Option (List VV) := match o with
  | some (.lo xs) => some xs
  | some (.fl xs) => some xs
  | some (.fzn (.lst xs)) => some xs
  | _ => none
theorem lstR_obj {n : Nat} : lstR h (.obj n) = lstRO (h[n]?) := by
  cases e : h[n]? with
  | none => simp only [lstR, lstRO, lstOf, e]
  | some o =>
    cases o with
    | fzn w => cases w <;> simp only [lstR, lstRO, lstOf, e]
    | _ => simp only [lstR, lstRO, lstOf, e]
theorem lstRO_fl {xs} : lstRO (some (.fl xs)) = some xs := nr rfl
theorem lstRO_lo {xs} : lstRO (some (.lo xs)) = some xs := nr rfl
theorem lstRO_fzn {xs} : lstRO (some (.fzn (.lst xs))) = some xs := nr rfl
def popO (o : Option VO) (n : Nat) (k : Int) (h : VH) : Res VV := match o with
  | some (.fl xs) => if 0 ≤ k ∧ k < xs.length ∧ k < 2 ^ 62 then (match xs[k.toNat]? with
    | some v => .ok v (h.set n (.fl (xs.eraseIdx k.toNat)))
    | none => .no) else .no
  | _ => .no
def popR (h : VH) (ov iv : VV) : Res VV := match popI h ov iv with
  | some (v, h3) => .ok v h3
  | none => .no
theorem a_pop {fo fi} : ePop fo fi ρ h = bnd (fo ρ h) (fun ov h1 => chkL (lstOf h1 ov) (bnd (fi ρ h1) (fun iv h2 => popR h2 ov iv) (tg _))) (tg _) := by
  unfold ePop
  cases fo ρ h with
  | no => rfl
  | exc => rfl
  | ok ov h1 =>
    show (match lstOf h1 ov with
      | none => Res.no
      | some _ => _) = chkL (lstOf h1 ov) _
    cases lstOf h1 ov with
    | none => rfl
    | some _ => rfl
theorem popR_obj {n : Nat} {k : Int} : popR h (.obj n) (.int k) = popO (h[n]?) n k h := by
  cases e : h[n]? with
  | none => simp only [popR, popI, popO, e]
  | some o =>
    cases o with
    | fl xs =>
      simp only [popR, popI, popO, e]
      by_cases c : 0 ≤ k ∧ k < xs.length ∧ k < 2 ^ 62
      · rw [if_pos c, if_pos c]
        cases xs[k.toNat]? <;> rfl
      · rw [if_neg c, if_neg c]
    | _ => simp only [popR, popI, popO, e]
theorem popO_fl {xs : List VV} {n : Nat} {k : Int} {v : VV} (hk : 0 ≤ k) (hl : k < xs.length) (hb : k < 2 ^ 62) (e : xs[k.toNat]? = some v) : popO (some (.fl xs)) n k h = .ok v (h.set n (.fl (xs.eraseIdx k.toNat))) := by
  unfold popO
  simp only [if_pos (And.intro hk (And.intro hl hb)), e]
def appO (o : Option VO) (n : Nat) (h2 : VH) (v : VV) : Res VV := match o with
  | some (.fl xs) => if xs.length ≥ SZ then .no else if v.isObj = true then .ok .non (h2.set n (.lo (xs ++ [v]))) else .ok .non (h2.set n (.fl (xs ++ [v])))
  | some (.lo xs) => if xs.length ≥ SZ then .no else .ok .non (h2.set n (.lo (xs ++ [v])))
  | _ => .no
theorem a_app {o e} : eApp o e ρ h = bnd (o ρ h) (fun ov h1 => chkL (lstR h1 ov) (bnd (e ρ h1) (fun v h2 => appV h2 ov v) (tg _))) (tg _) := by
  unfold eApp
  cases o ρ h with
  | no => rfl
  | exc => rfl
  | ok ov h1 =>
    show (match lstR h1 ov with
      | none => Res.no
      | some _ => _) = chkL (lstR h1 ov) _
    cases lstR h1 ov with
    | none => rfl
    | some _ => rfl
theorem appV_obj {n : Nat} {v : VV} : appV h (.obj n) v = appO (h[n]?) n h v := nr rfl
theorem appO_fl {xs : List VV} {n : Nat} {v : VV} (hl : xs.length < 16777216) (hv : v.isObj = false) : appO (some (.fl xs)) n h v = .ok .non (h.set n (.fl (xs ++ [v]))) := by
  show (if xs.length ≥ 16777216 then _ else _) = _
  rw [if_neg (by omega), if_neg (by rw [hv]; decide)]
def enumI (v : List VV) (h : VH) : Res (List VV) := match v with
  | [.lst xs] => .ok (enum 0 xs) h
  | [.scr xs] => .ok (enum 0 xs) h
  | _ => .no
theorem enumI_lst {xs} : enumI [.lst xs] h = .ok (enum 0 xs) h := nr rfl
theorem a_idx {fo fe} : eIdx fo fe ρ h = bnd (fo ρ h) (fun ov h1 => match ov with
  | .lst xs => bnd (fe ρ h1) (fun v h2 => lift (idxT h2 (.lst xs) v) h2) (tg _)
  | _ => .no) (tg _) := nr rfl
theorem s_augI {o i e} : sAugI o i e ρ h = sbd (o ρ h) ρ (fun ov h1 => sbd (i ρ h1) ρ (fun iv h2 => augV e ρ ov iv h2) (tg _)) (tg _) := nr rfl
def augO (fe : EF) (ρ : VSt) (n : Nat) (k : Int) (o : Option VV) (h2 : VH) : SR := match o with
  | some (.int a) => sbd (fe ρ h2) ρ (fun v h3 => match v with
    | .int b => onh (setI h3 (.obj n) (.int k) (.int (a + b))) ρ
    | _ => .no) (tg _)
  | _ => .no
theorem augV_obj {fe n} {k : Int} : augV fe ρ (.obj n) (.int k) h = augO fe ρ n k (opIx h (.obj n) (.int k)) h := by
  unfold augV augO
  rw [if_pos (show (VV.obj n).isObj = true from rfl)]
  rfl
theorem augO_int {fe n} {k a : Int} : augO fe ρ n k (some (.int a)) h = sbd (fe ρ h) ρ (fun v h3 => match v with
    | .int b => onh (setI h3 (.obj n) (.int k) (.int (a + b))) ρ
    | _ => .no) (tg _) := rfl
theorem s_setD {o i e} : sSetD o i e ρ h = sbd (e ρ h) ρ (fun v h1 => sbd (o ρ h1) ρ (fun ov h2 => sbd (i ρ h2) ρ (fun iv h3 => onh (setD h3 ov iv v) ρ) (tg _)) (tg _)) (tg _) := nr rfl
theorem a_dnew : eDnew ρ h = .ok (.obj h.length) (h ++ [.dT [] []]) := nr rfl
def fldR (cn f : Str) (o : Option (Str × List Str × List VV)) (h : VH) : Res VV := match o with
  | some a => if a.1 = cn then lift (lookN a.2.1 a.2.2 f) h else .no
  | none => .no
theorem a_fld {cn f fe} : eFld cn f fe ρ h = bnd (fe ρ h) (fun v h1 => fldR cn f (insOf h1 v) h1) (tg _) := nr rfl
def insO (o : Option VO) : Option (Str × List Str × List VV) := match o with
  | some (.ins c ns vs) => some (c, ns, vs)
  | some (.fzn (.ins c ns vs)) => some (c, ns, vs)
  | _ => none
theorem insOf_obj {n : Nat} : insOf h (.obj n) = insO (h[n]?) := by
  unfold insOf insO
  rfl
theorem insO_ins {c ns vs} : insO (some (.ins c ns vs)) = some (c, ns, vs) := nr rfl
theorem insOf_ins {c ns vs} : insOf h (.ins c ns vs) = some (c, ns, vs) := nr rfl
def methC (cn m : Str) (o : Option (Str × List Str × List VV)) (r : Res VV) : Res VV := match o with
  | some a => if a.1 = cn ∧ lookN a.2.1 a.2.2 m = none then r else .no
  | none => .no
theorem a_meth {cn m n F dws fo fa} : eMeth cn m n F dws fo fa ρ h = bnd (fo ρ h) (fun v h1 => methC cn m (insOf h1 v) (bnd (fa ρ h1) (fun vs h2 => if (v :: (vs ++ dws)).length = n then noX (F (v :: (vs ++ dws)) h2) else .no) (tg _))) (tg _) := by
  unfold eMeth
  cases fo ρ h with
  | no => rfl
  | exc => rfl
  | ok v h1 =>
    show (match insOf h1 v with
      | some a => _
      | none => Res.no) = methC cn m (insOf h1 v) _
    cases insOf h1 v with
    | none => rfl
    | some _ => rfl
theorem noX_ok {α : Type} {a : α} : noX (.ok a h) = .ok a h := nr rfl
theorem a_make {cn n F dws fa} : eMakeZ cn n F dws fa ρ h = bnd (fa ρ h) (fun vs h1 => if (VV.obj h1.length :: (vs ++ dws)).length = n then mkZ h1.length (F (.obj h1.length :: (vs ++ dws)) (h1 ++ [.ins cn [] []])) else .no) (tg _) := nr rfl
theorem s_fldS {cn f fo fe} : sFldS cn f fo fe ρ h = sbd (fe ρ h) ρ (fun v h1 => sbd (fo ρ h1) ρ (fun ov h2 => onh (setF h2 cn f ov v) ρ) (tg _)) (tg _) := nr rfl
def setFO (o : Option VO) (n : Nat) (h : VH) (cn f : Str) (v : VV) : Option VH := match o with
  | some (.ins c ns vs) => if c = cn ∧ ns.length < 1000 then some (h.set n (.ins c (putN ns f) (putW ns vs f v))) else none
  | _ => none
theorem setF_obj {n : Nat} {cn f v} : setF h cn f (.obj n) v = setFO (h[n]?) n h cn f v := nr rfl
theorem a_aApp {n m a b} : aApp n m a b ρ h = bnd (a ρ h) (fun vs h1 => bnd (b ρ h1) (fun ws h2 => if vs.length = n ∧ ws.length = m then .ok (vs ++ ws) h2 else .no) (tg _)) (tg _) := nr rfl
def afterR (r : Res (List VV)) : Res VV := match r with
  | .ok vs h2 => .ok (.obj h2.length) (h2 ++ [.lo vs])
  | _ => .no
theorem afterR_ok {vs : List VV} : afterR (.ok vs h) = .ok (.obj h.length) (h ++ [.lo vs]) := nr rfl
theorem a_lcR {own it b t e} : eLcR own it b t e ρ h = bnd (it ρ h) (fun xs h1 => if xs.length > SZ then .no else afterR (lcGoR b t e (wp ρ own) xs h1)) (tg _) := nr rfl
theorem a_lenSc {own it b fe} : eLenSc own it b fe ρ h = bnd (it ρ h) (fun xs h1 => bnd (noX (accGo b (stSet fe) (wp ρ own) xs h1 [])) (fun a h2 => .ok (.int a.length) h2) (tg _)) (tg _) := nr rfl
theorem a_dc2 {own it b it1 b1 vs1 fk fv} : eDc2 own it b it1 b1 vs1 fk fv ρ h = bnd (it ρ h) (fun xs h1 => bnd (noX (accGo b (stIn it1 b1 vs1 (stDict fk fv)) (wp ρ own) xs h1 ([], []))) (fun a h2 => .ok (.dT a.1 a.2) h2) (tg _)) (tg _) := nr rfl
theorem a_enum {f} : iEnum f ρ h = bnd (f ρ h) enumI (tg _) := nr rfl
end
/-! loops -/
section
variable {α : Type}
theorem lc_map {b : VV → VSt → Option VSt} {t : TF} {e : EF} {ρ : VSt} {h : VH} (f g : α → VV) {ys : List α} (hy : ∀ y ∈ ys, ∃ ρ', b (f y) ρ = some ρ' ∧ t ρ' h = .ok true h ∧ e ρ' h = .ok (g y) h ∧ (g y).isObj = false) : lcGo b t e ρ (ys.map f) h = .ok (ys.map g) h := by
  induction ys with
  | nil => rfl
  | cons y ys ih =>
    obtain ⟨ρ', h1, h2, h3, h4⟩ := hy y List.mem_cons_self
    rw [List.map_cons, lcGo, h1]
    simp only [h2, bind_ok, h3, h4, Bool.false_eq_true, if_false, if_true, ih fun z hz => hy z (List.mem_cons_of_mem _ hz), List.map_cons]
theorem lc_mapF {b : VV → VSt → Option VSt} {t : TF} {e : EF} {ρ : VSt} {h : VH} (f : α → VV) (p : α → Bool) (g : α → VV) {ys : List α} (hy : ∀ y ∈ ys, ∃ ρ', b (f y) ρ = some ρ' ∧ t ρ' h = .ok (p y) h ∧ (p y = true → e ρ' h = .ok (g y) h ∧ (g y).isObj = false)) : lcGo b t e ρ (ys.map f) h = .ok ((ys.filter p).map g) h := by
  induction ys with
  | nil => rfl
  | cons y ys ih =>
    obtain ⟨ρ', h1, h2, h3⟩ := hy y List.mem_cons_self
    have ih := ih fun z hz => hy z (List.mem_cons_of_mem _ hz)
    rw [List.map_cons, lcGo, h1]
    cases hp : p y with
    | false => simp only [h2, hp, bind_ok, Bool.false_eq_true, if_false, ih, List.filter_cons]
    | true =>
      obtain ⟨h4, h5⟩ := h3 hp
      simp only [h2, hp, bind_ok, h4, h5, Bool.false_eq_true, if_false, if_true, ih, List.filter_cons, List.map_cons]
/-- elements that draw, typed -/
theorem lc_draw {β : Type} {b : VV → VSt → Option VSt} {t : TF} {e : EF} {ρ : VSt} (f : α → VV) (g : β → VV) (I : VH → Prop) (P : β → Prop) : ∀ {ys : List α} {h : VH}, I h → (∀ y ∈ ys, ∀ h, I h → ∃ ρ' v h', b (f y) ρ = some ρ' ∧ t ρ' h = .ok true h ∧ e ρ' h = .ok (g v) h' ∧ (g v).isObj = false ∧ I h' ∧ P v) →
    ∃ (vs : List β) (h' : VH), lcGo b t e ρ (ys.map f) h = .ok (vs.map g) h' ∧ I h' ∧ vs.length = ys.length ∧ ∀ v ∈ vs, P v
  | [], h, hi, _ => ⟨[], h, rfl, hi, rfl, fun v hv => by simp at hv⟩
  | y :: ys, h, hi, hx => by
    obtain ⟨ρ', v, h1, e1, e2, e3, e4, hi1, hp⟩ := hx y List.mem_cons_self h hi
    obtain ⟨vs, h2, e5, hi2, hl, hps⟩ := lc_draw f g I P (ys := ys) hi1 fun z hz => hx z (List.mem_cons_of_mem _ hz)
    refine ⟨v :: vs, h2, ?_, hi2, by simp [hl], fun w hw => ?_⟩
    · rw [List.map_cons, lcGo, e1]
      simp only [e2, bind_ok, e3, e4, Bool.false_eq_true, if_false, if_true, e5, List.map_cons]
    · rcases List.mem_cons.mp hw with rfl | hw
      · exact hp
      · exact hps w hw
/-- a loop by what holds behind each first part of the items -/
theorem for_pre {b : VV → VSt → Option VSt} {body : SF} (f : α → VV) (I : List α → VSt → VH → Prop) (ys : List α) {ρ : VSt} {h : VH} (h0 : I [] ρ h)
    (hs : ∀ pre y post, ys = pre ++ y :: post → ∀ ρ h, I pre ρ h → ∃ ρ' ρ2 h2, b (f y) ρ = some ρ' ∧ body ρ' h = .nx ρ2 h2 ∧ I (pre ++ [y]) ρ2 h2) : ∃ ρ2 h2, forGo b body (ys.map f) ρ h = .nx ρ2 h2 ∧ I ys ρ2 h2 := by
  have key : ∀ (post pre : List α), ys = pre ++ post → ∀ ρ h, I pre ρ h → ∃ ρ2 h2, forGo b body (post.map f) ρ h = .nx ρ2 h2 ∧ I ys ρ2 h2 := by
    intro post
    induction post with
    | nil =>
      intro pre e ρ h hi
      rw [List.append_nil] at e
      subst e
      exact ⟨ρ, h, for_nil, hi⟩
    | cons y post ih =>
      intro pre e ρ h hi
      obtain ⟨ρ', ρ2, h2, e1, e2, hi2⟩ := hs pre y post e ρ h hi
      obtain ⟨ρ3, h3, e3, hi3⟩ := ih (pre ++ [y]) (by rw [e]; simp) ρ2 h2 hi2
      refine ⟨ρ3, h3, ?_, hi3⟩
      rw [List.map_cons, for_cons, e1, obd_some, e2, trn_nx, e3]
  exact key ys [] rfl ρ h h0
theorem acc_pre {β : Type} {b : VV → VSt → Option VSt} {stp : VSt → VH → β → Res β} {ρ : VSt} {h : VH} (f : α → VV) (st : List α → β) (ys : List α)
    (hs : ∀ pre y post, ys = pre ++ y :: post → ∃ ρ', b (f y) ρ = some ρ' ∧ stp ρ' h (st pre) = .ok (st (pre ++ [y])) h) : accGo b stp ρ (ys.map f) h (st []) = .ok (st ys) h := by
  have key : ∀ (post pre : List α), ys = pre ++ post → accGo b stp ρ (post.map f) h (st pre) = .ok (st ys) h := by
    intro post
    induction post with
    | nil =>
      intro pre e
      rw [List.append_nil] at e
      subst e
      rfl
    | cons y post ih =>
      intro pre e
      obtain ⟨ρ', e1, e2⟩ := hs pre y post e
      rw [List.map_cons, accGo, e1]
      simp only [e2, bind_ok]
      exact ih (pre ++ [y]) (by rw [e]; simp)
  exact key ys [] rfl
end
end J
namespace M
open J
/-! sorted lists of ints -/
def leI (a b : Int) : Bool := decide (a ≤ b)
def isort (l : List Int) : List Int := l.mergeSort leI
theorem leI_trans (a b c : Int) (h1 : leI a b = true) (h2 : leI b c = true) : leI a c = true := by
  unfold leI at *; simp only [decide_eq_true_eq] at *; omega
theorem leI_total (a b : Int) : (leI a b || leI b a) = true := by
  unfold leI; simp only [Bool.or_eq_true, decide_eq_true_eq]; omega
theorem isort_perm (l : List Int) : (isort l).Perm l := List.mergeSort_perm l leI
theorem isort_pw (l : List Int) : (isort l).Pairwise (fun a b => a ≤ b) := by
  have := List.pairwise_mergeSort (le := leI) leI_trans leI_total l
  exact this.imp fun h => by unfold leI at h; simpa using h
theorem isort_len (l : List Int) : (isort l).length = l.length := (isort_perm l).length_eq
theorem isort_mem {l : List Int} {a : Int} : a ∈ isort l ↔ a ∈ l := (isort_perm l).mem_iff
theorem sort_uniq {l m : List Int} (h1 : l.Pairwise (fun a b => a ≤ b)) (h2 : m.Pairwise (fun a b => a ≤ b)) (p : l.Perm m) : l = m :=
  List.Perm.eq_of_pairwise (le := fun a b => a ≤ b) (fun a b _ _ h1 h2 => Int.le_antisymm h1 h2) h1 h2 p
theorem isort_eq {l m : List Int} (h : l.Pairwise (fun a b => a ≤ b)) (p : l.Perm m) : isort m = l :=
  sort_uniq (isort_pw m) h ((isort_perm m).trans p.symm)
theorem isort_id {l : List Int} (h : l.Pairwise (fun a b => a ≤ b)) : isort l = l := isort_eq h (List.Perm.refl l)
/-- strictly growing -/
abbrev Inc (l : List Int) : Prop := l.Pairwise (fun a b => a < b)
theorem Inc.le {l : List Int} (h : Inc l) : l.Pairwise (fun a b => a ≤ b) := h.imp fun h => Int.le_of_lt h
theorem Inc.nodup {l : List Int} (h : Inc l) : l.Nodup := List.nodup_iff_pairwise_ne.mpr (h.imp fun h => by omega)
theorem inc_of {l : List Int} (h : l.Pairwise (fun a b => a ≤ b)) (n : l.Nodup) : Inc l := by
  have := (List.nodup_iff_pairwise_ne.mp n).and h
  exact this.imp fun h => by omega
theorem inc_isort {l : List Int} (n : l.Nodup) : Inc (isort l) := inc_of (isort_pw l) ((isort_perm l).nodup_iff.mpr n)
theorem Inc.sub {l m : List Int} (h : Inc m) (s : l.Sublist m) : Inc l := List.Pairwise.sublist s h
/-- of growing lists: the lesser one lies in the greater one -/
theorem inc_sublist : ∀ {l m : List Int}, Inc l → Inc m → (∀ x ∈ l, x ∈ m) → l.Sublist m
  | [], m, _, _, _ => List.nil_sublist _
  | x :: l, [], _, _, h => by simpa using h x List.mem_cons_self
  | x :: l, y :: m, h1, h2, h => by
    have h1' := List.pairwise_cons.mp h1
    have h2' := List.pairwise_cons.mp h2
    by_cases e : x = y
    · subst e
      refine (inc_sublist h1'.2 h2'.2 fun z hz => ?_).cons_cons x
      rcases List.mem_cons.mp (h z (List.mem_cons_of_mem _ hz)) with e | hm
      · have := h1'.1 z hz; omega
      · exact hm
    · refine (inc_sublist h1 h2'.2 fun z hz => ?_).cons y
      rcases List.mem_cons.mp (h z hz) with rfl | hm
      · rcases List.mem_cons.mp hz with rfl | hz'
        · exact absurd rfl e
        · have a1 := h1'.1 z hz'
          rcases List.mem_cons.mp (h x List.mem_cons_self) with e2 | hx
          · exact absurd e2 e
          · have := h2'.1 x hx; omega
      · exact hm
/-! all parts of a list -/
def allS (l : List Int) : List (List Int) := l.foldl (fun acc p => acc ++ acc.map (fun s => s ++ [p])) [[]]
def subs (l : List Int) : List (List Int) := (allS l).drop 1
theorem foldl_all (f : List Int) : ∀ acc : List (List Int), ∀ s, s ∈ f.foldl (fun acc p => acc ++ acc.map (fun s => s ++ [p])) acc ↔ ∃ a ∈ acc, ∃ t, t.Sublist f ∧ s = a ++ t := by
  induction f with
  | nil =>
    intro acc s
    simp only [List.foldl_nil]
    constructor
    · exact fun h => ⟨s, h, [], .slnil, by simp⟩
    · rintro ⟨a, ha, t, ht, rfl⟩
      have : t = [] := List.sublist_nil.mp ht
      subst this
      simpa using ha
  | cons p f ih =>
    intro acc s
    rw [List.foldl_cons, ih]
    constructor
    · rintro ⟨a, ha, t, ht, rfl⟩
      rcases List.mem_append.mp ha with ha | ha
      · exact ⟨a, ha, t, ht.cons p, rfl⟩
      · obtain ⟨b, hb, rfl⟩ := List.mem_map.mp ha
        exact ⟨b, hb, p :: t, ht.cons_cons p, by simp⟩
    · rintro ⟨a, ha, t, ht, rfl⟩
      cases ht with
      | cons _ h => exact ⟨a, List.mem_append_left _ ha, t, h, rfl⟩
      | cons_cons _ h => exact ⟨a ++ [p], List.mem_append_right _ (List.mem_map.mpr ⟨a, ha, rfl⟩), _, h, by simp⟩
theorem mem_allS {l s : List Int} : s ∈ allS l ↔ s.Sublist l := by
  unfold allS
  rw [foldl_all]
  constructor
  · rintro ⟨a, ha, t, ht, rfl⟩
    rw [List.mem_singleton] at ha
    subst ha
    simpa using ht
  · exact fun h => ⟨[], by simp, s, h, by simp⟩
theorem foldl_len (f : List Int) : ∀ acc : List (List Int), (f.foldl (fun acc p => acc ++ acc.map (fun s => s ++ [p])) acc).length = acc.length * 2 ^ f.length := by
  induction f with
  | nil => intro acc; simp
  | cons p f ih =>
    intro acc
    rw [List.foldl_cons, ih, List.length_append, List.length_map, List.length_cons, Nat.pow_succ]
    rw [← Nat.two_mul, Nat.mul_assoc, Nat.mul_left_comm, Nat.mul_comm 2]
theorem allS_len (l : List Int) : (allS l).length = 2 ^ l.length := by
  unfold allS; rw [foldl_len]; simp
theorem foldl_head (f : List Int) : ∀ acc : List (List Int), (∃ r, acc = [] :: r ∧ ∀ s ∈ r, s ≠ []) → ∃ r, f.foldl (fun acc p => acc ++ acc.map (fun s => s ++ [p])) acc = [] :: r ∧ ∀ s ∈ r, s ≠ [] := by
  induction f with
  | nil => intro acc h; exact h
  | cons p f ih =>
    rintro acc ⟨r, rfl, hr⟩
    rw [List.foldl_cons]
    refine ih _ ⟨r ++ ([] :: r).map (fun s => s ++ [p]), rfl, fun s hs => ?_⟩
    rcases List.mem_append.mp hs with h | h
    · exact hr s h
    · obtain ⟨b, _, rfl⟩ := List.mem_map.mp h
      simp
theorem allS_head (l : List Int) : ∃ r, allS l = [] :: r ∧ ∀ s ∈ r, s ≠ [] := foldl_head l [[]] ⟨[], rfl, by simp⟩
theorem mem_subs {l s : List Int} : s ∈ subs l ↔ s.Sublist l ∧ s ≠ [] := by
  obtain ⟨r, e, hr⟩ := allS_head l
  unfold subs
  rw [e, List.drop_succ_cons, List.drop_zero]
  constructor
  · exact fun h => ⟨mem_allS.mp (by rw [e]; exact List.mem_cons_of_mem _ h), hr s h⟩
  · rintro ⟨h1, h2⟩
    have := mem_allS.mpr h1
    rw [e] at this
    rcases List.mem_cons.mp this with h | h
    · exact absurd h h2
    · exact h
theorem subs_len {l : List Int} : (subs l).length + 1 = 2 ^ l.length := by
  obtain ⟨r, e, hr⟩ := allS_head l
  have := allS_len l
  unfold subs
  rw [e] at this ⊢
  simpa using this
/-! faces -/
/-- points told in any order -/
structure Pts (f : List Int) : Prop where
  nd : f.Nodup
  pos : f ≠ []
  le : f.length ≤ 4
  rng : ∀ p ∈ f, 0 ≤ p ∧ p ≤ 15
/-- a face: growing -/
structure Face (f : List Int) : Prop where
  inc : Inc f
  pos : f ≠ []
  le : f.length ≤ 4
  rng : ∀ p ∈ f, 0 ≤ p ∧ p ≤ 15
theorem Face.pts {f : List Int} (h : Face f) : Pts f := ⟨h.inc.nodup, h.pos, h.le, h.rng⟩
theorem Pts.face {f : List Int} (h : Pts f) : Face (isort f) := ⟨inc_isort h.nd, fun e => h.pos (by have := isort_len f; rw [e] at this; exact List.length_eq_zero_iff.mp this.symm), by rw [isort_len]; exact h.le, fun p hp => h.rng p (isort_mem.mp hp)⟩
theorem Face.srt {f : List Int} (h : Face f) : isort f = f := isort_id h.inc.le
theorem Face.sub {f s : List Int} (h : Face f) (hs : s.Sublist f) (n : s ≠ []) : Face s := ⟨h.inc.sub hs, n, Nat.le_trans hs.length_le h.le, fun p hp => h.rng p (hs.subset hp)⟩
/-! lists of faces, in order -/
def fsort (l : List (List Int)) : List (List Int) := l.mergeSort leL
theorem fsort_perm (l : List (List Int)) : (fsort l).Perm l := List.mergeSort_perm l leL
theorem fsort_pw (l : List (List Int)) : (fsort l).Pairwise (fun a b => leL a b = true) := List.pairwise_mergeSort leL_trans leL_total l
theorem fsort_uniq {l m : List (List Int)} (h1 : l.Pairwise (fun a b => leL a b = true)) (h2 : m.Pairwise (fun a b => leL a b = true)) (p : l.Perm m) : l = m :=
  List.Perm.eq_of_pairwise (le := fun a b => leL a b = true) (fun a b _ _ h1 h2 => leL_anti h1 h2) h1 h2 p
theorem fsort_eq {l m : List (List Int)} (p : l.Perm m) : fsort l = fsort m := sort_perm p
/-- the faces of faces, each once, in order -/
def parts (fs : List (List Int)) : List (List Int) := fs.flatMap fun f => subs (isort f)
def clo (fs : List (List Int)) : List (List Int) := fsort (parts fs).eraseDups
theorem mem_parts {fs : List (List Int)} {s : List Int} : s ∈ parts fs ↔ ∃ f ∈ fs, s.Sublist (isort f) ∧ s ≠ [] := by
  unfold parts
  rw [List.mem_flatMap]
  exact ⟨fun ⟨f, h1, h2⟩ => ⟨f, h1, mem_subs.mp h2⟩, fun ⟨f, h1, h2⟩ => ⟨f, h1, mem_subs.mpr h2⟩⟩
theorem mem_clo {fs : List (List Int)} {s : List Int} : s ∈ clo fs ↔ ∃ f ∈ fs, s.Sublist (isort f) ∧ s ≠ [] := by
  unfold clo
  rw [(fsort_perm _).mem_iff, List.mem_eraseDups, mem_parts]
theorem clo_nodup (fs : List (List Int)) : (clo fs).Nodup := (fsort_perm _).nodup_iff.mpr (nodup_eraseDups _)
theorem clo_pw (fs : List (List Int)) : (clo fs).Pairwise (fun a b => leL a b = true) := fsort_pw _
/-- a web's faces -/
structure WebF (E : List (List Int)) : Prop where
  face : ∀ f ∈ E, Face f
  nd : E.Nodup
  pw : E.Pairwise (fun a b => leL a b = true)
  down : ∀ f ∈ E, ∀ s, s.Sublist f → s ≠ [] → s ∈ E
theorem webf_clo {fs : List (List Int)} (h : ∀ f ∈ fs, Pts f) : WebF (clo fs) where
  face f hf := by
    obtain ⟨t, ht, s, n⟩ := mem_clo.mp hf
    exact (h t ht).face.sub s n
  nd := clo_nodup fs
  pw := clo_pw fs
  down f hf s hs n := by
    obtain ⟨t, ht, s', n'⟩ := mem_clo.mp hf
    exact mem_clo.mpr ⟨t, ht, hs.trans s', n⟩
theorem nodup_perm {l m : List (List Int)} (h1 : l.Nodup) (h2 : m.Nodup) (h : ∀ x, x ∈ l ↔ x ∈ m) : l.Perm m := by
  rw [List.perm_iff_count]
  intro a
  by_cases ha : a ∈ l
  · rw [h1.count, h2.count, if_pos ha, if_pos ((h a).mp ha)]
  · rw [List.count_eq_zero_of_not_mem ha, List.count_eq_zero_of_not_mem (fun z => ha ((h a).mpr z))]
theorem WebF.clo {E : List (List Int)} (w : WebF E) : clo E = E := by
  refine fsort_uniq (clo_pw E) w.pw (nodup_perm (clo_nodup E) w.nd fun s => ?_)
  rw [mem_clo]
  constructor
  · rintro ⟨f, hf, s1, n⟩
    rw [(w.face f hf).srt] at s1
    exact w.down f hf s s1 n
  · exact fun hs => ⟨s, hs, by rw [(w.face s hs).srt]; exact List.Sublist.refl s, (w.face s hs).pos⟩
/-! few faces -/
def Few (fs : List (List Int)) : Prop := ∃ D : List (List Int), D.length < 61 ∧ ∀ s ∈ parts fs, s ∈ D
theorem Few.low {fs : List (List Int)} (h : Few fs) : (parts fs).eraseDups.length < 61 := by
  obtain ⟨D, hl, hD⟩ := h
  exact Nat.lt_of_le_of_lt (few_of (nodup_eraseDups _) fun x hx => hD x (List.mem_eraseDups.mp hx)) hl
theorem Few.len {fs : List (List Int)} (h : Few fs) : (parts fs).eraseDups.length < 76 := Nat.lt_trans h.low (by decide)
theorem Few.clo_low {fs : List (List Int)} (h : Few fs) : (clo fs).length < 61 := by
  unfold clo; rw [(fsort_perm _).length_eq]; exact h.low
theorem Few.clo_len {fs : List (List Int)} (h : Few fs) : (clo fs).length < 63 := Nat.lt_trans h.clo_low (by decide)
/-- faces among at most six points -/
theorem few_six {p : List Int} {fs : List (List Int)} (nd : p.Nodup) (hl : p.length ≤ 6) (h : ∀ f ∈ fs, f.Nodup ∧ f.length ≤ 4 ∧ ∀ x ∈ f, x ∈ p) : Few fs := by
  refine ⟨(subs (isort p)).filter (fun s => decide (s.length ≤ 4)), ?_, fun s hs => ?_⟩
  · have hl' : (isort p).length ≤ 6 := by rw [isort_len]; exact hl
    generalize isort p = q at hl'
    match q, hl' with
    | [], _ => decide
    | [a], _ => exact (by decide : 1 < 61)
    | [a, b], _ => exact (by decide : 3 < 61)
    | [a, b, c], _ => exact (by decide : 7 < 61)
    | [a, b, c, d], _ => exact (by decide : 15 < 61)
    | [a, b, c, d, e], _ => exact (by decide : 30 < 61)
    | [a, b, c, d, e, f], _ => exact (by decide : 56 < 61)
  · obtain ⟨f, hf, s1, n⟩ := mem_parts.mp hs
    obtain ⟨h1, h2, h3⟩ := h f hf
    refine List.mem_filter.mpr ⟨mem_subs.mpr ⟨inc_sublist ((inc_isort h1).sub s1) (inc_isort nd) fun x hx => isort_mem.mpr (h3 x (isort_mem.mp (s1.subset hx))), n⟩, ?_⟩
    rw [decide_eq_true_eq]
    have := s1.length_le
    rw [isort_len] at this
    omega
/-! faces told by places -/
def pick (p : List Int) (ix : List Nat) : List Int := ix.map fun i => p.getD i 0
end M
namespace M
open J PySem L2
/-! each thing once, in the order in which they come -/
section
variable {α : Type} [DecidableEq α]
def dd (l : List α) : List α := l.foldl (fun a x => if x ∈ a then a else a ++ [x]) []
theorem dd_snoc (l : List α) (x : α) : dd (l ++ [x]) = if x ∈ dd l then dd l else dd l ++ [x] := by
  unfold dd; rw [List.foldl_append]; rfl
theorem dd_gen (l : List α) : ∀ acc : List α, (∀ x, x ∈ l.foldl (fun a x => if x ∈ a then a else a ++ [x]) acc ↔ x ∈ acc ∨ x ∈ l) ∧ (acc.Nodup → (l.foldl (fun a x => if x ∈ a then a else a ++ [x]) acc).Nodup)
    ∧ (l.foldl (fun a x => if x ∈ a then a else a ++ [x]) acc).length ≤ acc.length + l.length ∧ ((l.foldl (fun a x => if x ∈ a then a else a ++ [x]) acc).length = acc.length + l.length ↔ l.Nodup ∧ ∀ y ∈ l, y ∉ acc) := by
  induction l with
  | nil => intro acc; simp
  | cons y l ih =>
    intro acc
    rw [List.foldl_cons]
    by_cases hy : y ∈ acc
    · rw [if_pos hy]
      obtain ⟨i1, i2, i3, i4⟩ := ih acc
      refine ⟨fun x => ?_, i2, by rw [List.length_cons]; omega, ?_⟩
      · rw [i1]
        constructor
        · rintro (h | h)
          · exact .inl h
          · exact .inr (List.mem_cons_of_mem _ h)
        · rintro (h | h)
          · exact .inl h
          · rcases List.mem_cons.mp h with rfl | h
            · exact .inl hy
            · exact .inr h
      · rw [List.length_cons]
        constructor
        · intro h; omega
        · rintro ⟨_, h⟩
          exact absurd hy (h y List.mem_cons_self)
    · rw [if_neg hy]
      obtain ⟨i1, i2, i3, i4⟩ := ih (acc ++ [y])
      rw [List.length_append, List.length_singleton] at i3 i4
      refine ⟨fun x => ?_, fun hn => i2 ?_, by rw [List.length_cons]; omega, ?_⟩
      · rw [i1, List.mem_append, List.mem_singleton, List.mem_cons, or_assoc]
      · rw [List.nodup_append]
        exact ⟨hn, by simp, fun a ha b hb => by rw [List.mem_singleton] at hb; subst hb; exact fun e => hy (e ▸ ha)⟩
      · rw [List.length_cons, show acc.length + (l.length + 1) = acc.length + 1 + l.length by omega, i4, List.nodup_cons]
        constructor
        · rintro ⟨h1, h2⟩
          refine ⟨⟨fun h => h2 y h (by simp), h1⟩, fun z hz => ?_⟩
          rcases List.mem_cons.mp hz with rfl | hz
          · exact hy
          · exact fun h => h2 z hz (List.mem_append_left _ h)
        · rintro ⟨⟨h1, h2⟩, h3⟩
          refine ⟨h2, fun z hz h => ?_⟩
          rcases List.mem_append.mp h with h | h
          · exact h3 z (List.mem_cons_of_mem _ hz) h
          · rw [List.mem_singleton] at h
            subst h
            exact h1 hz
theorem mem_dd {l : List α} {x : α} : x ∈ dd l ↔ x ∈ l := by
  have := (dd_gen l []).1 x
  unfold dd; rw [this]; simp
theorem dd_nodup (l : List α) : (dd l).Nodup := (dd_gen l []).2.1 (by simp)
theorem dd_le (l : List α) : (dd l).length ≤ l.length := by
  have := (dd_gen l []).2.2.1
  unfold dd; simpa using this
theorem dd_lt (l : List α) : decide ((dd l).length < l.length) = !decide l.Nodup := by
  have h1 := (dd_gen l []).2.2.1
  have h2 := (dd_gen l []).2.2.2
  simp only [List.length_nil, Nat.zero_add, List.not_mem_nil, not_false_iff, implies_true, and_true] at h1 h2
  unfold dd
  by_cases hn : l.Nodup
  · rw [h2.mpr hn]; simp [hn]
  · have : ¬ (l.foldl (fun a x => if x ∈ a then a else a ++ [x]) []).length = l.length := fun e => hn (h2.mp e)
    rw [decide_eq_true (by omega), decide_eq_false hn]; rfl
end
theorem fsort_dd (l : List (List Int)) : fsort (dd l) = fsort l.eraseDups :=
  fsort_eq (nodup_perm (dd_nodup l) (nodup_eraseDups l) fun x => by rw [mem_dd, List.mem_eraseDups])
theorem dd_len (l : List (List Int)) : (dd l).length = l.eraseDups.length :=
  (nodup_perm (dd_nodup l) (nodup_eraseDups l) fun x => by rw [mem_dd, List.mem_eraseDups]).length_eq
/-! dict keys -/
def keyI (k : List Int) : List Key := k.map Sum.inl
theorem keyI_inj : ∀ {k l : List Int}, keyI k = keyI l → k = l
  | [], [], _ => rfl
  | [], _ :: _, h => by cases h
  | _ :: _, [], h => by cases h
  | x :: k, y :: l, h => by
    have h' : Sum.inl x :: keyI k = (Sum.inl y : Key) :: keyI l := h
    injection h' with h1 h2
    rw [Sum.inl.inj h1, keyI_inj h2]
theorem keyL_ints : ∀ k : List Int, keyL (k.map VV.int) = some (keyI k)
  | [] => rfl
  | x :: k => by rw [List.map_cons, keyL, keyL_ints k]; rfl
theorem keyV_tupI (k : List Int) : keyV (tupI k) = some (keyI k) := keyL_ints k
theorem hasK_map (ks : List (List Int)) (k : List Int) : hasK (ks.map keyI) (keyI k) = decide (k ∈ ks) := by
  unfold hasK
  rw [List.any_map]
  refine Eq.trans (congrArg ks.any (funext fun x => ?_)) ((any_dec k ks).trans (by congr))
  show decide (keyI x = keyI k) = decide (x = k)
  exact Bool.eq_iff_iff.mpr (by simp only [decide_eq_true_eq]; exact ⟨keyI_inj, fun h => by rw [h]⟩)
theorem putKs_dd (l : List (List Int)) (x : List Int) : putKs ((dd l).map keyI) (keyI x) = (dd (l ++ [x])).map keyI := by
  unfold putKs
  rw [hasK_map, dd_snoc]
  by_cases h : x ∈ dd l
  · rw [decide_eq_true h, if_pos rfl, if_pos h]
  · rw [decide_eq_false h, if_neg (by decide), if_neg h, List.map_append]; rfl
theorem putVs_dd (l : List (List Int)) (x : List Int) : putVs ((dd l).map keyI) ((dd l).map fun _ => VV.bl true) (keyI x) (.bl true) = (dd (l ++ [x])).map fun _ => VV.bl true := by
  unfold putVs
  rw [hasK_map, dd_snoc]
  by_cases h : x ∈ dd l
  · rw [decide_eq_true h, if_pos rfl, if_pos h, List.zip_map', List.map_map]
    refine List.map_congr_left fun y _ => ?_
    show (if keyI y = keyI x then VV.bl true else VV.bl true) = VV.bl true
    split <;> rfl
  · rw [decide_eq_false h, if_neg (by decide), if_neg h, List.map_append]; rfl
theorem keyB_I (k : List Int) : VV.tup ((keyI k).map keyB) = tupI k := by
  unfold keyI tupI; rw [List.map_map]; rfl
/-! a web as a value -/
def sz (E : List (List Int)) (k : Nat) : List (List Int) := E.filter fun f => decide (f.length = k)
def szL (E : List (List Int)) (k : Nat) : VV := .lst ((sz E k).map tupI)
def idxs (l : List (List Int)) : List VV := (List.range l.length).map fun (i : Nat) => VV.int (i : Int)
def ordE (E : List (List Int)) : List (List Int) := sz E 1 ++ (sz E 2 ++ (sz E 3 ++ sz E 4))
def ordV (E : List (List Int)) : List VV := idxs (sz E 1) ++ (idxs (sz E 2) ++ (idxs (sz E 3) ++ idxs (sz E 4)))
def webV (E : List (List Int)) : VV := .ins "Web" ["table", "places"] [.lst [szL E 1, szL E 2, szL E 3, szL E 4], .dT ((ordE E).map keyI) (ordV E)]
theorem mem_sz {E : List (List Int)} {k : Nat} {f : List Int} : f ∈ sz E k ↔ f ∈ E ∧ f.length = k := by
  unfold sz; rw [List.mem_filter, decide_eq_true_eq]
theorem sz_nodup {E : List (List Int)} (h : E.Nodup) (k : Nat) : (sz E k).Nodup := h.sublist List.filter_sublist
theorem mem_ordE {E : List (List Int)} (hE : ∀ f ∈ E, Face f) {f : List Int} : f ∈ ordE E ↔ f ∈ E := by
  unfold ordE
  simp only [List.mem_append, mem_sz]
  constructor
  · rintro (h | h | h | h) <;> exact h.1
  · intro h
    have h1 := (hE f h).le
    have h2 : 0 < f.length := List.length_pos_iff.mpr (hE f h).pos
    have : f.length = 1 ∨ f.length = 2 ∨ f.length = 3 ∨ f.length = 4 := by omega
    rcases this with e | e | e | e
    · exact .inl ⟨h, e⟩
    · exact .inr (.inl ⟨h, e⟩)
    · exact .inr (.inr (.inl ⟨h, e⟩))
    · exact .inr (.inr (.inr ⟨h, e⟩))
/-- a look into the dict: by the place within the size -/
theorem getD_skip : ∀ {ks : List (List Key)} {vs : List VV} {ks' : List (List Key)} {vs' : List VV} {k : List Key}, ks.length = vs.length → k ∉ ks → getD (ks ++ ks') (vs ++ vs') k = getD ks' vs' k
  | [], vs, ks', vs', k, hl, _ => by
    cases vs with
    | nil => rfl
    | cons => cases hl
  | x :: ks, vs, ks', vs', k, hl, hk => by
    cases vs with
    | nil => cases hl
    | cons v vs =>
      rw [List.cons_append, List.cons_append, J.getD, if_neg (fun e => hk (by rw [e]; exact List.mem_cons_self))]
      exact getD_skip (Nat.succ.inj hl) fun h => hk (List.mem_cons_of_mem _ h)
theorem getD_at {l : List (List Int)} {ks' : List (List Key)} {vs' : List VV} {j : Nat} (hn : l.Nodup) (hj : j < l.length) : getD (l.map keyI ++ ks') (idxs l ++ vs') (keyI l[j]) = some (.int (j : Int)) := by
  have key : ∀ (l : List (List Int)) (n j : Nat) (hj : j < l.length), l.Nodup → getD (l.map keyI ++ ks') ((List.range' n l.length).map (fun (i : Nat) => VV.int (i : Int)) ++ vs') (keyI l[j]) = some (.int ((n + j : Nat) : Int)) := by
    intro l
    induction l with
    | nil => intro n j hj; simp at hj
    | cons x l ih =>
      intro n j hj hn
      rw [List.length_cons, List.range'_succ, List.map_cons, List.map_cons, List.cons_append, List.cons_append, J.getD]
      cases j with
      | zero => exact if_pos rfl
      | succ j =>
        have hj' : j < l.length := by simpa using hj
        rw [List.nodup_cons] at hn
        rw [if_neg (fun e => hn.1 (by rw [keyI_inj e]; exact List.getElem_mem hj'))]
        have := ih (n + 1) j hj' hn.2
        rw [List.getElem_cons_succ, this, show n + 1 + j = n + (j + 1) by omega]
  have := key l 0 j hj hn
  rw [← List.range_eq_range', Nat.zero_add] at this
  exact this
theorem idxs_len (l : List (List Int)) : (l.map keyI).length = (idxs l).length := by unfold idxs; simp
theorem not_key {l : List (List Int)} {f : List Int} (h : f ∉ l) : keyI f ∉ l.map keyI := fun z => by
  obtain ⟨g, hg, e⟩ := List.mem_map.mp z
  exact h (keyI_inj e ▸ hg)
/-- the place of a face -/
def plc (E : List (List Int)) (f : List Int) : Nat := (sz E f.length).findIdx fun g => decide (g = f)
theorem plc_lt {E : List (List Int)} {f : List Int} (h : f ∈ E) : plc E f < (sz E f.length).length :=
  List.findIdx_lt_length_of_exists ⟨f, mem_sz.mpr ⟨h, rfl⟩, by simp⟩
theorem plc_at {E : List (List Int)} {f : List Int} (h : f ∈ E) : (sz E f.length)[plc E f]? = some f := by
  have hl := plc_lt h
  have := List.findIdx_getElem (p := fun g => decide (g = f)) (w := hl)
  rw [decide_eq_true_eq] at this
  rw [List.getElem?_eq_getElem hl]
  exact congrArg some this
theorem getD_web {E : List (List Int)} (hE : ∀ f ∈ E, Face f) (hn : E.Nodup) {f : List Int} (hf : f ∈ E) : getD ((ordE E).map keyI) (ordV E) (keyI f) = some (.int (plc E f : Int)) := by
  have hlt := plc_lt hf
  have hat := plc_at hf
  rw [List.getElem?_eq_getElem hlt] at hat
  have e0 : (sz E f.length)[plc E f] = f := Option.some.inj hat
  unfold ordE ordV
  simp only [List.map_append]
  have h1 := (hE f hf).le
  have h2 : 0 < f.length := List.length_pos_iff.mpr (hE f hf).pos
  have no : ∀ k, f.length ≠ k → keyI f ∉ (sz E k).map keyI := fun k hk => not_key fun z => hk (mem_sz.mp z).2
  have : f.length = 1 ∨ f.length = 2 ∨ f.length = 3 ∨ f.length = 4 := by omega
  have at' : ∀ k, f.length = k → ∀ ks' vs', getD ((sz E k).map keyI ++ ks') (idxs (sz E k) ++ vs') (keyI f) = some (.int (plc E f : Int)) := by
    intro k hk ks' vs'
    subst hk
    have := getD_at (l := sz E f.length) (ks' := ks') (vs' := vs') (sz_nodup hn _) hlt
    rw [e0] at this
    exact this
  rcases this with e | e | e | e
  · exact at' 1 e _ _
  · rw [getD_skip (idxs_len _) (no 1 (by omega))]
    exact at' 2 e _ _
  · rw [getD_skip (idxs_len _) (no 1 (by omega)), getD_skip (idxs_len _) (no 2 (by omega))]
    exact at' 3 e _ _
  · rw [getD_skip (idxs_len _) (no 1 (by omega)), getD_skip (idxs_len _) (no 2 (by omega)), getD_skip (idxs_len _) (no 3 (by omega))]
    have := at' 4 e [] []
    rw [List.append_nil, List.append_nil] at this
    exact this
theorem hasK_web {E : List (List Int)} (hE : ∀ f ∈ E, Face f) (f : List Int) : hasK ((ordE E).map keyI) (keyI f) = decide (f ∈ E) := by
  rw [hasK_map]
  exact Bool.eq_iff_iff.mpr (by simp only [decide_eq_true_eq]; exact mem_ordE hE)
end M
namespace J
open PySem L2 M
section
variable {ρ : VSt} {h : VH}
theorem len_obj {n : Nat} : cLen h [.obj n] = (lstRO (h[n]?)).map fun xs => .int xs.length := by
  show (lstR h (.obj n)).map _ = _
  rw [lstR_obj]
theorem omap_some {α β : Type} {f : α → β} {a : α} : (some a).map f = some (f a) := nr rfl
theorem fin_low {v : VV} {n : Nat} {h : VH} {t : VH} (hn : h.length = n) (hv : lowV n v = true) (ho : h.all (lowO n) = true) : (SR.ret v (h ++ t)).fin n = .ok v h := by
  show Res.ok v (trim n v (h ++ t)) = _
  unfold trim
  by_cases e : (h ++ t).length = n
  · rw [if_pos e]
    have : t = [] := by
      rw [List.length_append] at e
      exact List.length_eq_zero_iff.mp (by omega)
    rw [this, List.append_nil]
  · rw [if_neg e]
    have : (h ++ t).take n = h := by rw [← hn, List.take_left]
    rw [this, if_pos ⟨hv, ho⟩]
theorem fin_o {v : VV} {o : VO} {t : VH} (hv : lowV 1 v = true) (ho : lowO 1 o = true) : (SR.ret v (o :: t)).fin 1 = .ok v [o] := fin_low (h := [o]) rfl hv (by simp [ho])
theorem log2_ok {m : Int} (h1 : 0 < m) (h2 : m < 2 ^ 100) : m.natAbs.log2 < 9000 := by
  have : m.natAbs < 2 ^ 100 := by omega
  exact Nat.lt_trans ((Nat.log2_lt (by omega)).mpr this) (by decide)
/-! sorted -/
theorem all_isI (l : List Int) : (l.map VV.int).all isI = true := by simp [isI]
theorem srt_ints (l : List Int) : srt (l.map VV.int) = some (.lst ((isort l).map VV.int)) := by
  unfold srt okS
  rw [all_isI, Bool.true_or, if_pos rfl]
  congr 2
  exact (List.map_mergeSort (r := leI) (s := leS) (f := VV.int) (fun a _ b _ => by rw [leS_int]; rfl)).symm
theorem sorted_tup {l : List Int} : cSorted h [tupI l] = some (.lst ((isort l).map VV.int)) := srt_ints l
theorem sorted_lst {l : List Int} : cSorted h [.lst (l.map VV.int)] = some (.lst ((isort l).map VV.int)) := srt_ints l
theorem isT1_tupI {k : List Int} (hk : k ≠ []) : isT1 (tupI k) = true := by
  unfold isT1
  rw [intsV_tupI]
  cases k with
  | nil => exact absurd rfl hk
  | cons => rfl
theorem all_isT1 {ks : List (List Int)} (hk : ∀ k ∈ ks, k ≠ []) : (ks.map tupI).all isT1 = true := by
  rw [List.all_map, List.all_eq_true]
  exact fun k h => isT1_tupI (hk k h)
theorem sorted_tups {ks : List (List Int)} (hk : ∀ k ∈ ks, k ≠ []) : cSorted h [.lst (ks.map tupI)] = some (.lst ((fsort ks).map tupI)) := by
  show srt (ks.map tupI) = _
  unfold srt okS
  rw [all_isT1 hk, Bool.or_true, if_pos rfl]
  congr 2
  exact (List.map_mergeSort (r := leL) (s := leS) (f := tupI) (fun a _ b _ => by rw [leS_tup]; rfl)).symm
theorem filterMap_tups (ks : List (List Int)) : (ks.map tupI).filterMap intsV = ks := by
  induction ks with
  | nil => rfl
  | cons k ks ih => rw [List.map_cons, List.filterMap_cons, intsV_tupI, ih]
theorem sortSet_tups {ks : List (List Int)} (hk : ∀ k ∈ ks, k ≠ []) (hf : ks.eraseDups.length < 76) : cSortSet h [.lst (ks.map tupI)] = some (.lst ((fsort ks.eraseDups).map tupI)) := by
  show (if _ then _ else _) = _
  rw [filterMap_tups, if_pos ⟨all_isT1 hk, hf⟩]; rfl
theorem isObj_tupI {k : List Int} : (tupI k).isObj = false := nr rfl
theorem rng_eq (n : Nat) : rngV 0 n = (List.range n).map fun (i : Nat) => VV.int (0 + (i : Int)) := nr rfl
theorem cut_tail {xs : List VV} (hl : xs ≠ []) : cut xs (some 1) none = xs.drop 1 := by
  unfold cut
  have e1 : HT.sIx xs.length 0 (some 1) = min 1 xs.length := by
    unfold HT.sIx
    simp
  have e2 : HT.sIx xs.length xs.length none = xs.length := rfl
  have : 0 < xs.length := List.length_pos_iff.mpr hl
  rw [e1, e2, Nat.min_eq_left this]
  exact List.take_of_length_le (by rw [List.length_drop]; omega)
theorem sl_lst {xs : List VV} {lo hi : Option Int} : opSl h (.lst xs) lo hi = some (.lst (cut xs lo hi)) := nr rfl
theorem sl_tup {xs : List VV} {lo hi : Option Int} : opSl h (.tup xs) lo hi = some (.tup (cut xs lo hi)) := nr rfl
theorem add_lst {xs ys : List VV} (hl : xs.length + ys.length ≤ 16777216) : opAdd h (.lst xs) (.lst ys) = some (.lst (xs ++ ys)) := by
  show (if xs.length + ys.length ≤ 16777216 then _ else _) = _
  rw [if_pos hl]
theorem add_tup {xs ys : List VV} (hl : xs.length + ys.length ≤ 16777216) : opAdd h (.tup xs) (.tup ys) = some (.tup (xs ++ ys)) := by
  show (if xs.length + ys.length ≤ 16777216 then _ else _) = _
  rw [if_pos hl]
end
end J
namespace J
theorem rngB {n : Int} (h0 : 0 ≤ n) (h1 : n ≤ 1000000) : -(2 ^ 62) ≤ n ∧ n < 2 ^ 62 := ⟨by omega, by omega⟩
end J
namespace J
open PySem L2
/-! dicts with ints or texts as keys, by value -/
abbrev DKA := List Key × List VV
def dOfK (h : VH) : VV → Option DKA
  | .dK ks vs => some (ks, vs)
  | .obj n => match h[n]? with
    | some (.dK ks vs) => some (ks, vs)
    | some (.fzn (.dK ks vs)) => some (ks, vs)
    | _ => none
  | _ => none
theorem dOfK_get {c : Ct} {g : Gh} {h : VH} {H : Hp} {v : VV} {u : V} {a : DKA} (rh : RH c g h H) (rv : RT c g H v u) (e : dOfK h v = some a) : ∃ p us, u = .ref p ∧ Rd H p (.dK (a.1.zip us)) ∧ a.1.length = us.length ∧ RVs c g.fz H a.2 us := by
  cases v with
  | dK ks vs =>
    cases e
    have q := rv.rv rfl
    rw [RV] at q
    obtain ⟨p, us, a, b, d, l, r⟩ := q
    exact ⟨p, us, a, d, l, r⟩
  | obj n =>
    obtain ⟨b, ea, eu⟩ := rv
    unfold dOfK at e
    simp only at e
    split at e
    · rename_i ks vs en
      cases e
      obtain ⟨_, us, d, l, r⟩ := rh.at' n _ b en ea
      exact ⟨b, us, eu, .inl d, l, r⟩
    · rename_i ks vs en
      cases e
      obtain ⟨_, q⟩ := rh.at' n _ b en ea
      rw [RV] at q
      obtain ⟨p, us, z, y, d, l, r⟩ := q
      cases z
      exact ⟨b, us, eu, d, l, r⟩
    · cases e
  | _ => cases e
theorem keyA_at {c : Ct} {g : Gh} {H : Hp} {v : VV} {u : V} {k : Key} (r : RT c g H v u) (e : keyA v = some k) : u = kV k := by
  cases v with
  | int i => cases e; exact int_get r
  | str x => cases e; exact str_get r
  | _ => cases e
def getK : List Key → List VV → Key → Option VV
  | k' :: ks, v :: vs, k => if k' = k then some v else getK ks vs k
  | _, _, _ => none
theorem getK_val {c : Ct} {z : Addr → Prop} {H : Hp} {k : Key} : ∀ {ks : List Key} {vs : List VV} {us : List V}, ks.length = us.length → RVs c z H vs us → (∀ v, getK ks vs k = some v → ∃ u, valV (ks.zip us) k = some u ∧ RV c z H v u)
  | [], vs, us, _, _, v, e => by simp [getK] at e
  | x :: ks, vs, us, hl, r, v, e => by
    cases us with
    | nil => cases hl
    | cons u us =>
      cases vs with
      | nil => simp [getK] at e
      | cons y vs =>
        rw [RVs] at r
        obtain ⟨a1, a2, e1, a3, a4⟩ := r
        cases e1
        unfold getK at e
        by_cases ex : x = k
        · rw [if_pos ex] at e
          cases e
          exact ⟨u, by rw [List.zip_cons_cons]; exact valV_pos ex, a3⟩
        · rw [if_neg ex] at e
          obtain ⟨w, e2, r2⟩ := getK_val (Nat.succ.inj hl) a4 v e
          exact ⟨w, by rw [List.zip_cons_cons, valV_neg ex]; exact e2, r2⟩
def hasQ (ks : List Key) (k : Key) : Bool := ks.any fun x => decide (x = k)
def putVQ {α : Type} (ks : List Key) (vs : List α) (k : Key) (v : α) : List α := if hasQ ks k = true then (ks.zip vs).map (fun p => if p.1 = k then v else p.2) else vs ++ [v]
def putKQ (ks : List Key) (k : Key) : List Key := if hasQ ks k = true then ks else ks ++ [k]
theorem zip_anyQ {ks : List Key} {us : List V} (hl : ks.length = us.length) (k : Key) : ((ks.zip us).any fun kv => decide (kv.1 = k)) = hasQ ks k := by
  unfold hasQ
  induction ks generalizing us with
  | nil => simp
  | cons x ks ih =>
    cases us with
    | nil => cases hl
    | cons u us => rw [List.zip_cons_cons, List.any_cons, List.any_cons, ih (Nat.succ.inj hl)]
theorem zip_putQ {ks : List Key} {us : List V} (hl : ks.length = us.length) (k : Key) (u : V) : putK (ks.zip us) k u = (putKQ ks k).zip (putVQ ks us k u) := by
  unfold putK
  rw [zip_anyQ hl]
  unfold putKQ putVQ
  cases hasQ ks k with
  | true =>
    simp only [if_true]
    induction ks generalizing us with
    | nil => simp
    | cons x ks ih =>
      cases us with
      | nil => cases hl
      | cons v us =>
        rw [List.zip_cons_cons, List.map_cons, List.map_cons, List.zip_cons_cons, ih (Nat.succ.inj hl)]
        by_cases e : x = k <;> simp [e]
  | false =>
    simp only [if_neg Bool.false_ne_true]
    rw [List.zip_append hl]; rfl
theorem put_lenQ {α : Type} {ks : List Key} {vs : List α} (hl : ks.length = vs.length) (k : Key) (v : α) : (putKQ ks k).length = (putVQ ks vs k v).length := by
  unfold putKQ putVQ
  cases hasQ ks k with
  | true => simp [hl]
  | false => simp [hl]
theorem RVs.putQ {c : Ct} {z : Addr → Prop} {H : Hp} {ks : List Key} {vs : List VV} {us : List V} {k : Key} {v : VV} {u : V} (hl : ks.length = us.length) (r : RVs c z H vs us) (q : RV c z H v u) : RVs c z H (putVQ ks vs k v) (putVQ ks us k u) := by
  unfold putVQ
  cases hasQ ks k with
  | false => simp only [if_neg Bool.false_ne_true]; exact RVs.app r (RVs.one q)
  | true =>
    simp only [if_true]
    induction ks generalizing vs us with
    | nil => simp; exact RVs.nil
    | cons x ks ih =>
      cases us with
      | nil => cases hl
      | cons u1 us =>
        cases vs with
        | nil => have := r.len; simp at this
        | cons v1 vs =>
          rw [RVs] at r
          obtain ⟨a1, a2, e1, a3, a4⟩ := r
          cases e1
          rw [List.zip_cons_cons, List.zip_cons_cons, List.map_cons, List.map_cons]
          refine RVs.cons ?_ (ih (Nat.succ.inj hl) a4)
          by_cases e : x = k
          · simp only [e, if_true]; exact q
          · simp only [e, if_false]; exact a3
def opKGet : Op2 := fun h d i => (dOfK h d).bind fun a => (keyA i).bind fun k => getK a.1 a.2 k
section
variable {X : Cx} {W : WX}
theorem j_kget {o i : Expr} {fo fi : EF} {pos : Pos} {k : Nat} (hr : Room k X.A) (ho : PE X o (tE (ct X) W fo)) (hi : PE X i (tE (ct X) W fi)) (hs : NoSl i) : PE X (.Subscript o i pos) (tE (ct X) W (eBin opKGet fo fi)) :=
  PE.mono (pe_dget (by have := hr.units; omega) ho hi hs) fun σ H Q h => by
    refine tOp_of (r := fun x y H Q => ∃ a v, x = .ref a ∧ DGet H a y (some v) ∧ Q v H) (fun x y H Q ⟨g, h, v, w, r, rh, rv, rw', e, kk⟩ => ?_) h
    unfold opKGet at e
    obtain ⟨a, e1, e2⟩ := Option.bind_eq_some_iff.mp e
    obtain ⟨k, e3, e4⟩ := Option.bind_eq_some_iff.mp e2
    obtain ⟨p, us, rfl, hp, hl, rvs⟩ := dOfK_get rh rv e1
    obtain rfl := keyA_at rw' e3
    obtain ⟨u, e5, r5⟩ := getK_val hl rvs r e4
    exact ⟨p, u, rfl, by rw [← e5]; exact .inl ⟨_, _, hp, rfl, rfl⟩, kk g H u .refl rh (RT.of_rv r5)⟩
def eKnew : EF := fun _ h => .ok (.obj h.length) (h ++ [.dK [] []])
/-- d[k] = v, d a root -/
def setK (h : VH) (o i v : VV) : Option VH := match o with
  | .obj n => match h[n]? with
    | some (.dK ks vs) => (keyA i).bind fun k => if v.isObj = true ∨ ks.length ≥ SZ then none else some (h.set n (.dK (putKQ ks k) (putVQ ks vs k v)))
    | _ => none
  | _ => none
def sSetK (o i e : EF) : SF := fun ρ h => (e ρ h).st ρ fun v h1 => (o ρ h1).st ρ fun ov h2 => (i ρ h2).st ρ fun iv h3 => match setK h3 ov iv v with
  | some h4 => .nx ρ h4
  | none => .no
def cLenK : OpN := fun h vs => match vs with
  | [d] => (dOfK h d).map fun a => .int a.1.length
  | _ => none
theorem call_lenKJ : CallR X (.builtin "len") (fun xs H Q => ∃ a kvs, xs = [V.ref a] ∧ Rd H a (.dK kvs) ∧ Q (.int kvs.length) H) := by
  intro pins s σ H xs us Q I r h
  obtain ⟨a, kvs, rfl, ha, q⟩ := h
  obtain ⟨u, rfl, ru⟩ := vals1 r
  cases ru
  exact d_len I ha fun t s' I' => ⟨.int kvs.length, H, I', ⟨_, rfl⟩, q⟩
theorem cr_lenK : CallR X (.builtin "len") (RdN (ct X) cLenK) :=
  CallR.imp call_lenKJ fun xs H Q ⟨g, h, vs, r, rh, rv, e, kk⟩ => by
    unfold cLenK at e
    split at e
    · obtain ⟨a, e1, e2⟩ := Option.map_eq_some_iff.mp e
      cases e2
      obtain ⟨u, q, rfl, ra, rfl⟩ := rv
      obtain ⟨p, us, rfl, hp, hl, _⟩ := dOfK_get rh ra e1
      refine ⟨p, _, rfl, hp, ?_⟩
      rw [List.length_zip, ← hl, Nat.min_self]
      exact kk g H _ .refl rh rt_int
    · cases e
def cListK : OpN := fun h vs => match vs with
  | [d] => (dOfK h d).map fun a => .lst (a.1.map keyB)
  | _ => none
theorem cr_listK (hc : X.calm = true) : CallR X (.type "list") (RdN (ct X) cListK) :=
  CallR.imp (call_listD hc) fun xs H Q ⟨g, h, vs, r, rh, rv, e, kk⟩ => by
    unfold cListK at e
    split at e
    · obtain ⟨a, e1, e2⟩ := Option.map_eq_some_iff.mp e
      cases e2
      obtain ⟨u, q, rfl, ra, rfl⟩ := rv
      obtain ⟨p, us, rfl, hp, hl, _⟩ := dOfK_get rh ra e1
      refine ⟨p, _, rfl, hp, fun l hn => ?_⟩
      have eK : (a.1.zip us).map (fun kv => kV kv.1) = a.1.map kV := by
        have : (a.1.zip us).map Prod.fst = a.1 := List.map_fst_zip (by omega)
        rw [show (fun kv : Key × V => kV kv.1) = kV ∘ Prod.fst from rfl, ← List.map_map, this]
      rw [eK]
      obtain ⟨s1, s2, s3⟩ := new_lst rh hn (rvs_key a.1)
      exact kk _ _ _ s1 s2 s3
    · cases e
/-! for k in d -/
def iKeysK (f : EF) : AF := fun ρ h => (f ρ h).bind fun v h1 => match v with
  | .dK ks vs => .ok (ks.map keyB) h1
  | _ => .no
end
/-! {k: v for t in xs} -/
def dcGo (b : VV → VSt → Option VSt) (fk fv : EF) (ρ : VSt) : List VV → VH → DKA → Res DKA
  | [], h, a => .ok a h
  | x :: xs, h, a => match b x ρ with
    | none => .no
    | some ρ' => (fk ρ' h).bind fun kv h2 => (fv ρ' h2).bind fun v h3 => match keyA kv with
      | some k => if v.isObj = true then .no else dcGo b fk fv ρ xs h3 (putKQ a.1 k, putVQ a.1 a.2 k v)
      | none => .no
def eDc1 (own : List Nat) (it : AF) (b : VV → VSt → Option VSt) (fk fv : EF) : EF := fun ρ h => (it ρ h).bind fun xs h1 => if xs.length > SZ then .no else match dcGo b fk fv (wp ρ own) xs h1 ([], []) with
  | .ok a h2 => .ok (.dK a.1 a.2) h2
  | _ => .no
theorem putKQ_le {ks : List Key} {k : Key} : (putKQ ks k).length ≤ ks.length + 1 := by
  unfold putKQ
  split <;> simp
theorem dc_run {c : Ct} {own : List Nat} {b : VV → VSt → Option VSt} {fk fv : EF} {tg : TG} {J : It} {xs : List VV} {ρ : VSt} {σ : St} {g : Gh} {h : VH} {H1 : Hp} {D : Addr} {Q : VK} {K : PySem.W.Frag}
    (ek : c.K = K) (pat : PatOk K tg b own) (dl : Deliv c g H1 xs J) (hsz : xs.length ≤ SZ) (rh : RH c g h H1) (rs : RS c g H1 ρ σ) (hD : H1 D = none)
    (fin : match dcGo b fk fv (wp ρ own) xs h ([], []) with
      | .ok a h' => ∀ g' H' us, Stp g H1 g' H' → RH c g' h' H' → H' D = some (.dK (a.1.zip us)) → a.1.length = us.length → ¬ g'.fz D → D ∉ g'.io → ¬ g'.kp D → RVs c g'.fz H' a.2 us → Q (.ref D) H'
      | _ => False) :
    ∃ Wv : Nat → Nat → Hp → Prop, (∃ m, Wv 0 m (upd H1 D (.dK []))) ∧ ∀ i m H, Wv i m H →
      (J.stop i H ∧ Q (.ref D) H) ∨ (J.go i H ∧ ∃ Nx : Hp → Prop, (∀ H', Nx H' → ∃ m', m' < m ∧ Wv (i + 1) m' H') ∧ ∀ x H', J.yld i H x H' → tg x (wipe σ own) H' fun σ2 H2 => wipe σ2 own = wipe σ own ∧ tT c W0 tTrue σ2 H2 fun bb H3 =>
        if bb = true then tE c W0 fk σ2 H3 fun y H4 => tE c W0 fv σ2 H4 fun z H5 => ∃ kvs k, y = kV k ∧ H5 D = some (.dK kvs) ∧ kvs.length < sizeLine ∧ Nx (upd H5 D (.dK (putK kvs k z))) else Nx H3) := by
  let P : Nat → Hp → Prop := fun i H => ∃ (gi : Gh) (hi : VH) (a : DKA) (us : List V), a.1.length ≤ i ∧ a.1.length = us.length ∧ Stp g H1 gi H ∧ RH c gi hi H ∧ H D = some (.dK (a.1.zip us)) ∧ ¬ gi.fz D ∧ D ∉ gi.io ∧ ¬ gi.kp D ∧ RVs c gi.fz H a.2 us ∧
    (match dcGo b fk fv (wp ρ own) (xs.drop i) hi a with
      | .ok a' h' => ∀ g' H' us, Stp gi H g' H' → RH c g' h' H' → H' D = some (.dK (a'.1.zip us)) → a'.1.length = us.length → ¬ g'.fz D → D ∉ g'.io → ¬ g'.kp D → RVs c g'.fz H' a'.2 us → Q (.ref D) H'
      | _ => False)
  refine ⟨fun i m H => m = xs.length - i ∧ i ≤ xs.length ∧ P i H, ⟨xs.length, by simp, Nat.zero_le _, ?_⟩, ?_⟩
  · refine ⟨g, h, ([], []), [], Nat.le_refl _, rfl, .junk rh hD, rh.junk hD, upd_same, fun z => ?_, fun z => ?_, fun z => ?_, RVs.nil, ?_⟩
    · obtain ⟨o, e⟩ := rh.fz D z; rw [hD] at e; cases e
    · obtain ⟨o, e⟩ := rh.root z; rw [hD] at e; cases e
    · obtain ⟨o, e⟩ := rh.kp D z; rw [hD] at e; cases e
    · rw [List.drop_zero]
      generalize dcGo b fk fv (wp ρ own) xs h ([], []) = r at fin ⊢
      cases r with
      | ok vs h' => exact fun g' H' us st => fin g' H' us ((Stp.junk rh hD).trans st)
      | no => exact fin
      | exc _ _ _ _ => exact fin
  · rintro i m H ⟨rfl, hi, gi, hh, a, us, hacc, hau, st, rhi, hDl, nf, ni, nk, rvs, fin⟩
    by_cases hlt : i < xs.length
    · refine .inr ⟨dl.go gi H st.f i hlt, P (i + 1), fun H' p' => ⟨xs.length - (i + 1), by omega, rfl, hlt, p'⟩, fun x H' y => ?_⟩
      have ed : xs.drop i = xs[i] :: xs.drop (i + 1) := List.drop_eq_getElem_cons hlt
      have rhk : RH c (gi.keep D) hh H := rhi.keep hDl nf ni
      have stk : Stp g H1 (gi.keep D) H := st.trans .keep
      obtain ⟨g1, st1, rh1, rt1⟩ := dl.yld (gi.keep D) H stk.f i xs[i] hh (List.getElem?_eq_getElem hlt) rhk x H' y
      rw [ed] at fin
      unfold dcGo at fin
      cases e : b xs[i] (wp ρ own) with
      | none => rw [e] at fin; exact fin.elim
      | some ρ' =>
        rw [e] at fin
        simp only at fin
        have rs1 : RS c g1 H' (wp ρ own) (wipe σ own) := ((rs.wipe own).stp stk).stp st1
        refine pat.run c g1 hh H' _ _ _ _ ρ' ek rh1 rs1 rt1 e _ fun σ2 rs2 o2 l2 => ⟨?_, ?_⟩
        · refine wipe_same (l2.trans (wipe_length _ _)) fun j hj => (o2 j hj).trans (wipe_out hj)
        · refine ⟨g1, ρ', hh, rh1, rs2, ?_⟩
          intro g2 H2 bb st2 rh2 eb
          cases (show bb = true from eb)
          rw [if_pos rfl]
          have hD2 : H2 D = some (.dK (a.1.zip us)) := by rw [st2.kH D (st1.kp D (.inr rfl)), st1.kH D (.inr rfl)]; exact hDl
          have kD2 : g2.kp D := st2.kp D (st1.kp D (.inr rfl))
          have s12 : Stp (gi.keep D) H g2 H2 := st1.trans st2
          refine ⟨g2, ρ', hh, rh2, rs2.stp st2, ?_⟩
          cases ek1 : fk ρ' hh with
          | no => rw [ek1] at fin; exact fin.elim
          | exc _ _ _ _ => rw [ek1] at fin; exact fin.elim
          | ok kv h2 =>
            rw [ek1] at fin
            simp only [Res.bind] at fin
            intro g3 H3 yk st3 rh3 rv3
            refine ⟨g3, ρ', h2, rh3, (rs2.stp st2).stp st3, ?_⟩
            cases ev1 : fv ρ' h2 with
            | no => rw [ev1] at fin; exact fin.elim
            | exc _ _ _ _ => rw [ev1] at fin; exact fin.elim
            | ok v h3 =>
              rw [ev1] at fin
              simp only at fin
              intro g4 H4 yv st4 rh4 rv4
              cases ekA : keyA kv with
              | none => rw [ekA] at fin; exact fin.elim
              | some k =>
                rw [ekA] at fin
                simp only at fin
                cases ov : v.isObj with
                | true => rw [ov] at fin; simp at fin
                | false =>
                  simp only [ov, if_neg Bool.false_ne_true] at fin
                  have kD3 : g3.kp D := st3.kp D kD2
                  have kD4 : g4.kp D := st4.kp D kD3
                  have hD4 : H4 D = some (.dK (a.1.zip us)) := by rw [st4.kH D kD3, st3.kH D kD2]; exact hD2
                  have s14 : Stp (gi.keep D) H g4 H4 := (s12.trans st3).trans st4
                  have nf4 := (rh4.kd D kD4).1
                  have ni4 := (rh4.kd D kD4).2
                  have rvs4 : RVs c g4.fz H4 a.2 us := s14.rvs (show RVs c (gi.keep D).fz H a.2 us from rvs)
                  refine ⟨a.1.zip us, k, keyA_at rv3 ekA, hD4, by rw [List.length_zip, ← hau, Nat.min_self]; exact SZ_lt (by omega), ?_⟩
                  have sw : Stp (g4.back gi.kp) H4 (g4.back gi.kp) (upd H4 D (.dK (putK (a.1.zip us) k yv))) := Stp.wr (c := c) (g := g4.back gi.kp) nf4 nk (fun ys z => by rw [hD4] at z; cases z)
                  have rhb : RH c (g4.back gi.kp) h3 H4 := rh4.back (fun p z => s14.kp p (.inl z))
                  have rhw : RH c (g4.back gi.kp) h3 (upd H4 D (.dK (putK (a.1.zip us) k yv))) := by
                    refine ⟨rhb.len, rhb.nd, fun n o b q1 q2 => ?_, fun q z => ?_, fun q z => ?_, rhb.kd, rhb.tb.upd (by rw [hD4]; exact noTab_of (fun _ z => by cases z) (fun _ z => by cases z)), fun q z ps y => rhb.nt q z ps (by rw [upd_ne (show q ≠ D from fun e => z.elim (fun z => nf4 (e ▸ z)) (fun z => nk (e ▸ z)))] at y; exact y)⟩
                    · have na : b ≠ D := fun z => ni4 (z ▸ List.mem_of_getElem? q2)
                      exact RO.stp sw (fun h => h) (upd_ne na) (rhb.at' n o b q1 q2)
                    · rw [upd_ne (show q ≠ D from fun e => nf4 (e ▸ z))]; exact rhb.fz q z
                    · rw [upd_ne (show q ≠ D from fun e => nk (e ▸ z))]; exact rhb.kp q z
                  refine ⟨g4.back gi.kp, h3, (putKQ a.1 k, putVQ a.1 a.2 k v), putVQ a.1 us k yv, ?_, put_lenQ hau _ _, (st.trans s14.back).trans sw, rhw, ?_, nf4, ni4, nk, ?_, ?_⟩
                  · exact Nat.le_trans putKQ_le (by omega)
                  · rw [upd_same, zip_putQ hau]
                  · exact sw.rvs (RVs.putQ hau (RVs.gback rvs4) (rv4.rv ov))
                  · generalize dcGo b fk fv (wp ρ own) (xs.drop (i + 1)) h3 (putKQ a.1 k, putVQ a.1 a.2 k v) = r at fin ⊢
                    cases r with
                    | ok vs h' => exact fun g' H' us' st' => fin g' H' us' ((s14.back.trans sw).trans st')
                    | no => exact fin
                    | exc _ _ _ _ => exact fin
    · have e : i = xs.length := by omega
      subst e
      refine .inl ⟨dl.stop gi H st.f _ (Nat.le_refl _), ?_⟩
      rw [List.drop_length] at fin
      unfold dcGo at fin
      exact fin gi H us .refl rhi hDl hau nf ni nk rvs
section
variable {X : Cx} {W : WX}
theorem j_dc1 {kx vx tg iter : Expr} {scope : Scope} {own : List (Str × Nat)} {pos : Pos} {it : AF} {g : TG} {b : VV → VSt → Option VSt} {fk fv : EF} (hc : X.calm = true) (hN : X.N.Nodup) (hi : PI X tg iter (tI (ct X) W it)) (ok : BlkOk X.N X.env.scope scope own)
    (hg : ∀ (s : Shared) (H : Hp) (C : Addr) (cl : List (Str × Addr)) (fp : List Addr), PG (X.blk s H scope (compEnvC scope cl C X.env) fp) tg g) (pat : PatOk X.K g b (own.map (·.2)))
    (hk : ∀ (s : Shared) (H : Hp) (C : Addr) (cl : List (Str × Addr)) (fp : List Addr), PE (X.blk s H scope (compEnvC scope cl C X.env) fp) kx (tE (ct X) W0 fk))
    (he : ∀ (s : Shared) (H : Hp) (C : Addr) (cl : List (Str × Addr)) (fp : List Addr), PE (X.blk s H scope (compEnvC scope cl C X.env) fp) vx (tE (ct X) W0 fv)) (hs : ∀ x, foldedSetIterable iter X.env x = pure x := by intro _; rfl) :
    PE X (.DictComp kx vx [⟨tg, iter, [], 0⟩] scope pos) (tE (ct X) W (eDc1 (own.map (·.2)) it b fk fv)) :=
  PE.mono (pe_dc hc hN hi ok hg (fun _ _ _ _ _ => jts_nil (W := W0)) hk he hs) fun σ H Q h => by
    obtain ⟨g0, ρ, h0, rh, rs, p⟩ := tG.bind (R := fun g H xs J => Deliv (ct X) g H xs J) (f := it) (k := fun (xs : List VV) ρ h1 => if xs.length > SZ then .no else (match dcGo b fk fv (wp ρ (own.map (·.2))) xs h1 ([], []) with
        | .ok a h2 => Res.ok (VV.dK a.1 a.2) h2
        | _ => .no)) h
    refine ⟨g0, ρ, h0, rh, rs, p.imp fun J H1 ⟨g1, ρ1, xs, h1, rh1, rs1, dl, p1⟩ D hD => ?_⟩
    by_cases hz : xs.length > SZ
    · rw [if_pos hz] at p1; exact p1.elim
    · rw [if_neg hz] at p1
      refine dc_run rfl pat dl (by omega) rh1 rs1 hD ?_
      generalize dcGo b fk fv (wp ρ1 (own.map (·.2))) xs h1 ([], []) = r at p1 ⊢
      cases r with
      | ok a h' =>
        intro g' H' us st rh' e hl nf ni nk rv'
        have q := Pst.step st p1
        obtain ⟨s2, r2⟩ := frz_nobody rh' ⟨nf, ni, nk⟩ e
        refine q (g'.frz D) H' (.ref D) s2 r2 ?_
        show RV _ _ _ _ _
        rw [RV]
        exact ⟨D, us, rfl, .inr rfl, .inl e, hl, s2.rvs rv'⟩
      | no => exact p1
      | exc _ _ _ _ => exact p1
end
end J
namespace J
open PySem PySem.Spec L2 PyProof.Rows
/-! sorted(set(xs)), sorted({..}): ints -/
theorem nodup_eraseDupsI_n : ∀ (n : Nat) (l : List Int), l.length ≤ n → l.eraseDups.Nodup
  | _, [], _ => by simp
  | 0, _ :: _, h => by simp at h
  | n + 1, x :: l, h => by
    rw [List.eraseDups_cons, List.nodup_cons]
    refine ⟨fun z => ?_, nodup_eraseDupsI_n n _ (Nat.le_trans (List.length_filter_le _ _) (by simpa using h))⟩
    rw [List.mem_eraseDups, List.mem_filter] at z
    simp at z
theorem nodup_eraseDupsI (l : List Int) : l.eraseDups.Nodup := nodup_eraseDupsI_n _ l (Nat.le_refl _)
def leJ (a b : Int) : Bool := decide (a ≤ b)
def srtI (l : List Int) : List Int := l.eraseDups.mergeSort leJ
theorem leJ_trans (a b c : Int) (h1 : leJ a b = true) (h2 : leJ b c = true) : leJ a c = true := by
  unfold leJ at *; simp at *; omega
theorem leJ_total (a b : Int) : (leJ a b || leJ b a) = true := by
  unfold leJ; simp; omega
theorem srtI_uniq {ns l : List Int} (h : ns.Pairwise (· < ·)) (m : ∀ k, k ∈ ns ↔ k ∈ l) : ns = srtI l := by
  have nd : ns.Nodup := h.imp fun h e => by omega
  have pm : ns.Perm l.eraseDups := (List.perm_ext_iff_of_nodup nd (nodup_eraseDupsI l)).mpr fun k => by rw [List.mem_eraseDups, m]
  refine List.Perm.eq_of_pairwise (le := fun a b => leJ a b = true) (fun a b _ _ h1 h2 => by unfold leJ at *; simp at *; omega) (h.imp fun h => by unfold leJ; simp; omega) (List.pairwise_mergeSort leJ_trans leJ_total _) (pm.trans (List.mergeSort_perm _ leJ).symm)
end J
namespace J
open PySem L2
open PyProof.Rows (IntsAre)
/-! sorted(set(xs)), ints -/
theorem intsAre_of : ∀ {ks : List Int} {its : List Value}, Vals (ks.map V.int) its → IntsAre its ks
  | [], _, .nil => .nil
  | k :: ks, _, .cons a b => by
    obtain ⟨t, rfl⟩ := a
    exact .cons _ _ (intsAre_of b)
theorem rvs_ints {c : Ct} {z : Addr → Prop} {H : Hp} : ∀ l : List Int, RVs c z H (l.map VV.int) (l.map V.int)
  | [] => RVs.nil
  | x :: l => RVs.cons (rv_int c z H x) (rvs_ints l)
section
variable {X : Cx} {W : WX}
/-! sorted({e for x in xs}) -/
def eSortSc (own : List Nat) (it : AF) (b : VV → VSt → Option VSt) (fe : EF) : EF := fun ρ h => (it ρ h).bind fun xs h1 => (noX (accGo b (stSet fe) (wp ρ own) xs h1 [])).bind fun a h2 => if a.length < 64 then .ok (.lst ((srtI a).map .int)) h2 else .no
theorem j_sortSc {elt tg iter : Expr} {scope : Scope} {own : List (Str × Nat)} {p pos cpos : Pos} {it : AF} {tgT : TG} {b : VV → VSt → Option VSt} {fe : EF} (hc : X.calm = true) (hN : X.N.Nodup) (hg : Gl X "sorted") (hm : X.mg "sorted" = none) (hi : PI X tg iter (tI (ct X) W it)) (ok : BlkOk X.N X.env.scope scope own)
    (hgt : ∀ (s : Shared) (H : Hp) (C : Addr) (cl : List (Str × Addr)) (fp : List Addr), PG (X.blk s H scope (compEnvC scope cl C X.env) fp) tg tgT) (pat : PatOk X.K tgT b (own.map (·.2)))
    (he : ∀ (s : Shared) (H : Hp) (C : Addr) (cl : List (Str × Addr)) (fp : List Addr), PE (X.blk s H scope (compEnvC scope cl C X.env) fp) elt (tE (ct X) W0 fe)) (hs : ∀ x, foldedSetIterable iter X.env x = pure x := by intro _; rfl)
    (hst1 : starEach [.SetComp elt [⟨tg, iter, [], 0⟩] scope pos] X.env = (false, eval (.SetComp elt [⟨tg, iter, [], 0⟩] scope pos) X.env) :: starEach [] X.env := by rfl) (hpl : (backTo cpos (starEach [] X.env)).any (·.1) = false := by rfl) :
    PE X (.Call (.Name "sorted" p) [.SetComp elt [⟨tg, iter, [], 0⟩] scope pos] [] cpos) (tE (ct X) W (eSortSc (own.map (·.2)) it b fe)) := by
  have key := acc_PE (X := X) (W := W) (node := .SetComp elt [⟨tg, iter, [], 0⟩] scope pos) (new := newSet (.type "set")) (O := fun D => SetO X.w D (fun _ => false) 0) (Ra := RaSet X.w) (stp := stSet fe) (a0 := []) (p := iter.pos)
    (inner := fun D env => do let v ← eval elt env; standAt elt.pos; let _ ← call (.builtin "set.add") [.ref D, v]) (PpSet.eval_SetComp elt _ scope pos) rfl hc hN hi ok hs (fun s E Q h => PpSet.newSet_ok h) (fun h G hb => setO_new (setR_fresh X.w)) (fun it acc env R s a b => PpSet.codeAny_compStart_set a b)
    (fun it D ce => ct_set elt tg iter scope pos (.ref it) (.ref D) ce) (fun _ _ _ => rfl) (fun _ _ _ => rfl) (fun _ _ _ => rfl) hgt pat (fun i hi => hi) (fun D g H g' H' a o _ h => h) (fun D g H => ⟨_, rfl, fun j => by simp⟩)
    (fun s H C cl fp D τ _ => step_set (Y := X.blk s H scope (compEnvC scope cl C X.env) fp) (fun _ _ z => z) (he s H C cl fp))
  refine PE.mono (pe_callB (id := "sorted") (cr_sortedSet (X := X) hc) hg hm rfl (pa_cons key pa_nil hst1) (by decide) (by decide) hst1 hpl) fun σ H Q h => ?_
  have h2 := tG.bind (R := fun g H (a : List Int) u => ∃ D o, u = V.ref D ∧ Dz g D ∧ H D = some o ∧ RaSet X.w D g H a o) (f := fun ρ h => (it ρ h).bind fun xs h1 => noX (accGo b (stSet fe) (wp ρ (own.map (·.2))) xs h1 [])) (k := fun (a : List Int) ρ h2 => if a.length < 64 then .ok (VV.lst ((srtI a).map .int)) h2 else .no) (R' := RT (ct X)) (W := W) (Q := Q) (by
    obtain ⟨g, ρ, h0, rh, rs, pp⟩ := h
    refine ⟨g, ρ, h0, rh, rs, ?_⟩
    unfold eSortSc at pp
    show Pst (ct X) W σ (RT (ct X)) g H Q (((it ρ h0).bind fun xs h1 => noX (accGo b (stSet fe) (wp ρ (own.map (·.2))) xs h1 [])).bind fun a h2 => if a.length < 64 then .ok (VV.lst ((srtI a).map .int)) h2 else .no)
    rw [res_assoc]
    exact pp)
  obtain ⟨g, ρ, h0, rh, rs, pp⟩ := h2
  refine ⟨g, ρ, h0, rh, rs, pp.imp fun u H1 ⟨g1, ρ1, a, h1, rh1, rs1, ⟨D, o, eu, dz, hD, S, eo, hS⟩, p1⟩ => ?_⟩
  subst eu eo
  by_cases cc : a.length < 64
  · rw [if_pos cc] at p1
    refine ⟨D, S, a.length, rfl, hD, cc, fun ns p q1 q2 q3 hp => ?_⟩
    have en : ns = srtI a := srtI_uniq q1 fun k => by rw [q2, hS]; simp
    subst en
    obtain ⟨a1, a2, a3⟩ := new_lst rh1 hp (rvs_ints (srtI a))
    exact p1 _ _ _ a1 a2 a3
  · rw [if_neg cc] at p1; exact p1.elim
/-! xs.insert(i, e), xs a root -/
def insI (h : VH) (o i v : VV) : Option VH := match o, i with
  | .obj n, .int k => match h[n]? with
    | some (.fl xs) => if 0 ≤ k ∧ k < 2 ^ 62 ∧ xs.length < SZ ∧ v.isObj = false then some (h.set n (.fl (xs.take k.toNat ++ [v] ++ xs.drop k.toNat))) else none
    | _ => none
  | _, _ => none
def eIns (fo fi fe : EF) : EF := fun ρ h => (fo ρ h).bind fun ov h1 => match lstOf h1 ov with
  | none => .no
  | some _ => (aCons fi (aCons fe aNil) ρ h1).bind fun vs h2 => match vs with
    | [iv, v] => (match insI h2 ov iv v with
      | some h3 => .ok .non h3
      | none => .no)
    | _ => .no
/-! o.m(e, .., k=v) -/
structure OkMK (P : Program) (w : World) (K : PySem.W.Frag) (mg : Str → Option Value) (base : Heap) (k : Nat) (cn m : Str) (n : Nat) (ks : List Str) (N : Nat) (Fm : FF) : Prop where
  ex : ∃ (C f : Addr) (fd : FuncData) (ps : List Str), mg cn = some (.ref C) ∧ Cls K C ∧ Meth K C m f ∧ FnOk P w K mg base (L2N.CX P w) k f fd ps (spF ⟨K, mg⟩ N Fm) ∧ KBn K fd ps (n + 1) ks (fun us ws => us ++ ws) (fun vs zs => vs ++ zs)
theorem j_methKw {k n nk N : Nat} {cn m : Str} {ks : List Str} {Fm : FF} {o e : Expr} {es : List Expr} {kws : List Keyword} {apos pos : Pos} {fo : EF} {fa fk : AF} {pl : Sem Bool} (O : OkMK X.prog X.w X.K X.mg X.base k cn m n ks N Fm) (hr : Room k X.A) (ho : PE X o (tE (ct X) W fo)) (ha : PA X (e :: es) (tA (ct X) W fa)) (hkw : PK X kws (tA (ct X) W fk))
    (hml : ks.length = nk := by rfl) (hall : (backToKw pos (keywordEach kws X.env)).all (·.1.isSome) = true := by rfl) (hks : (backToKw pos (keywordEach kws X.env)).filterMap (·.1) = ks := by rfl)
    (he : starEach (e :: es) X.env = (false, eval e X.env) :: starEach es X.env := by rfl) (hpl : ((backTo pos (starEach (e :: es) X.env)).any (·.1) || (backToKw pos (keywordEach kws X.env)).any (·.1.isNone)) = false := by rfl)
    (ht : eval (.Call (.Attribute o m apos) (e :: es) kws pos) X.env = (do
      let ov ← eval o X.env
      standAt apos.atName
      let (f, first) ← holding [ov] (getMethod ov m pl)
      callWith pos f first (backTo pos (starEach (e :: es) X.env)) (backToKw pos (keywordEach kws X.env))) := by rfl) :
    PE X (.Call (.Attribute o m apos) (e :: es) kws pos) (tE (ct X) W (eMeth cn m N Fm [] fo (aApp n nk fa fk))) := by
  subst hml
  obtain ⟨C, f, fd, ps, hC, hc, hm, F, hb⟩ := O.ex
  refine ⟨fun pins s σ H Q I ⟨g, ρ, h0, rh, rs, p⟩ => ?_⟩
  unfold eMeth at p
  refine PySem.W.methodCall_KW (pl := pl) (thn (ho.run pins s σ H _ I ⟨g, ρ, h0, rh, rs, Pst.bind (R := RT (ct X)) p⟩) fun u s1 ⟨x, H1, I1, rx, g1, v, h1, st, rh1, rv1, p1⟩ => ?_) ht
  cases e1 : insOf h1 v with
  | none => rw [e1] at p1; exact p1.elim
  | some a =>
    rw [e1] at p1
    simp only at p1
    by_cases cc : a.1 = cn ∧ lookN a.2.1 a.2.2 m = none
    · rw [if_pos cc] at p1
      obtain ⟨q, C', dx, us, rfl, mm, hq, hl, rts⟩ := insOf_get rh1 rv1 e1
      rw [cc.1] at mm
      have eC : C' = C := by
        have : X.mg cn = some (.ref C') := mm
        rw [hC] at this
        cases this
        rfl
      subst eC
      obtain rfl : u = Value.ref q := rx
      refine getmeth_ok I1 hq hc hm ((lookN_val hl rts).2 cc.2) ?_
      unfold aApp at p1
      rw [res_assoc] at p1
      refine PySem.W.callWith_KW (first := [.ref q]) (h₀ := X.base) I.ok.mod.kin hm.kp hall (thn (ha.run pos pins s1 σ H1 _ I1 ⟨g1, ρ, h1, rh1, rs.stp st, Pst.bind (R := RTs (ct X)) p1⟩) fun us s2 ⟨vs, H2, I2, r, g2, ws, h2, st2, rh2, rts2, p2⟩ => ?_) hpl he
      rw [res_assoc] at p2
      refine thn (hkw.run pos pins s2 σ H2 _ I2 ⟨g2, ρ, h2, rh2, (rs.stp st).stp st2, Pst.bind (R := RTs (ct X)) p2⟩) fun us2 s3 ⟨zs, H3, I3, rz, g3, zz, h3, st3, rh3, rts3, p3⟩ => ⟨I3.kIn, ?_⟩
      rw [hks]
      by_cases c2 : ws.length = n ∧ zz.length = ks.length
      · rw [if_pos c2] at p3
        simp only [Res.bind, List.append_nil] at p3
        by_cases hl : (v :: (ws ++ zz)).length = N
        · rw [if_pos hl] at p3
          exact run_kw (us := .ref q :: us) (vs := V.ref q :: vs) (E := fun _ => X0) F hr hb (fun pins H s e s' I c => (cx_no c).elim) I3 (.cons rfl r) rz (by rw [List.length_cons, ← rts2.len, c2.1]) (rts3.len.symm.trans c2.2)
            ⟨g3, v :: (ws ++ zz), h3, rh3, ⟨_, _, rfl, (rv1.stp st2).stp st3, RTs.append (rts2.stp st3) rts3⟩, hl, pst_noX p3⟩
        · rw [if_neg hl] at p3; exact p3.elim
      · rw [if_neg c2] at p3; exact p3.elim
    · rw [if_neg cc] at p1; exact p1.elim
end
section
variable {P : Program} {w : World} {K : PySem.W.Frag} {mg : Str → Option Value} {base : Heap}
theorem okMK_of {cn x q : Str} {st : Stmt} {kws : List (Str × V)} {C f : Addr} {fd : FuncData} {ps : List Str} {k m : Nat} {Fm : FF} (T : ClsT K mg cn C) (M : Meth K C x f) (D : Dm K x q st [] kws f fd) (hF : FnOk P w K mg base (L2N.CX P w) k f fd ps (spF ⟨K, mg⟩ m Fm)) (n : Nat) (ks : List Str)
    (h : ∀ (kV doc pm : Value) (an : Option Addr) (cdv ct : Value) (us ws : List Value), us.length = n + 1 → ws.length = ks.length → bindArgs (PySem.W.fnOf x q (defArgs st) (defBody st) (defScope st) .none kV doc pm an cdv ct) ⟨us, ks.zip ws⟩ = pure (ps.zip (us ++ ws))) : OkMK P w K mg base k cn x n ks m Fm := by
  obtain ⟨oc, od, dV, kV, doc, pm, an, cdv, ct, osl, rfl, lk, hcd, hD, hK⟩ := D.F.ex
  rcases hD with ⟨_, rfl⟩ | ⟨e, _⟩
  · exact ⟨C, f, _, ps, T.m, T.c, M, hF, ⟨fun s us ws X l1 l2 => .of_eq (h kV doc pm an cdv ct us ws l1 l2), fun r1 r2 => r1.append r2⟩⟩
  · exact absurd rfl e
end
end J
namespace J
open PySem L2
/-! [e for .. in .. for .. in .. if ..] -/
/-- the loop of the inner clause: the list at D grows behind acc0 -/
theorem lc_seg {c : Ct} {W0 : WX} {own : List Nat} {b : VV → VSt → Option VSt} {ft : TF} {fe : EF} {tg : TG} {J : It} {xs acc0 : List VV} {ρ : VSt} {σ : St} {g : Gh} {h : VH} {H1 : Hp} {D : Addr} {us0 : List V} {N : Hp → Prop} {K : PySem.W.Frag}
    (hW : ∀ a d s h, W0 a d s h → False) (ek : c.K = K) (pat : PatOk K tg b own) (dl : Deliv c g H1 xs J) (hsz : acc0.length + xs.length ≤ SZ) (rh : RH c g h H1) (rs : RS c g H1 ρ σ) (hD : H1 D = some (.lst us0)) (dz : Dz g D) (rv0 : RVs c g.fz H1 acc0 us0)
    (fin : match lcGo b ft fe (wp ρ own) xs h with
      | .ok vs h' => ∀ g' H' us, Stp g H1 g' H' → RH c g' h' H' → H' D = some (.lst us) → ¬ g'.fz D → D ∉ g'.io → ¬ g'.kp D → RVs c g'.fz H' (acc0 ++ vs) us → N H'
      | _ => False) :
    ∃ Wv : Nat → Nat → Hp → Prop, (∃ m, Wv 0 m H1) ∧ ∀ i m H, Wv i m H →
      (J.stop i H ∧ N H) ∨ (J.go i H ∧ ∃ Nx : Hp → Prop, (∀ H', Nx H' → ∃ m', m' < m ∧ Wv (i + 1) m' H') ∧ ∀ x H', J.yld i H x H' → tg x (wipe σ own) H' fun σ2 H2 => wipe σ2 own = wipe σ own ∧ tT c W0 ft σ2 H2 fun bb H3 =>
        if bb = true then tE c W0 fe σ2 H3 fun y H4 => ∃ acc, H4 D = some (.lst acc) ∧ acc.length < sizeLine ∧ Nx (upd H4 D (.lst (acc ++ [y]))) else Nx H3) := by
  let P : Nat → Hp → Prop := fun i H => ∃ (gi : Gh) (hi : VH) (acc : List VV) (us : List V), acc.length ≤ acc0.length + i ∧ Stp g H1 gi H ∧ RH c gi hi H ∧ H D = some (.lst us) ∧ ¬ gi.fz D ∧ D ∉ gi.io ∧ ¬ gi.kp D ∧ RVs c gi.fz H acc us ∧
    (match lcGo b ft fe (wp ρ own) (xs.drop i) hi with
      | .ok vs h' => ∀ g' H' us, Stp gi H g' H' → RH c g' h' H' → H' D = some (.lst us) → ¬ g'.fz D → D ∉ g'.io → ¬ g'.kp D → RVs c g'.fz H' (acc ++ vs) us → N H'
      | _ => False)
  refine ⟨fun i m H => m = xs.length - i ∧ i ≤ xs.length ∧ P i H, ⟨xs.length, by simp, Nat.zero_le _, ?_⟩, ?_⟩
  · exact ⟨g, h, acc0, us0, Nat.le_refl _, .refl, rh, hD, dz.nf, dz.ni, dz.nk, rv0, by rw [List.drop_zero]; exact fin⟩
  · rintro i m H ⟨rfl, hi, gi, hh, acc, us, hacc, st, rhi, hDl, nf, ni, nk, rvs, fin⟩
    by_cases hlt : i < xs.length
    · refine .inr ⟨dl.go gi H st.f i hlt, P (i + 1), fun H' p' => ⟨xs.length - (i + 1), by omega, rfl, hlt, p'⟩, fun x H' y => ?_⟩
      have ed : xs.drop i = xs[i] :: xs.drop (i + 1) := List.drop_eq_getElem_cons hlt
      have rhk : RH c (gi.keep D) hh H := rhi.keep hDl nf ni
      have stk : Stp g H1 (gi.keep D) H := st.trans .keep
      obtain ⟨g1, st1, rh1, rt1⟩ := dl.yld (gi.keep D) H stk.f i xs[i] hh (List.getElem?_eq_getElem hlt) rhk x H' y
      rw [ed] at fin
      unfold lcGo at fin
      cases e : b xs[i] (wp ρ own) with
      | none => rw [e] at fin; exact fin.elim
      | some ρ' =>
        rw [e] at fin
        simp only at fin
        have rs1 : RS c g1 H' (wp ρ own) (wipe σ own) := ((rs.wipe own).stp stk).stp st1
        refine pat.run c g1 hh H' _ _ _ _ ρ' ek rh1 rs1 rt1 e _ fun σ2 rs2 o2 l2 => ⟨?_, ?_⟩
        · refine wipe_same (l2.trans (wipe_length _ _)) fun j hj => (o2 j hj).trans (wipe_out hj)
        · refine ⟨g1, ρ', hh, rh1, rs2, ?_⟩
          cases et : ft ρ' hh with
          | no => rw [et] at fin; exact fin.elim
          | exc _ _ _ _ => rw [et] at fin; exact fin.elim
          | ok k h1 =>
            rw [et] at fin
            intro g2 H2 bb st2 rh2 eb
            cases (show bb = k from eb)
            have hD2 : H2 D = some (.lst us) := by rw [st2.kH D (st1.kp D (.inr rfl)), st1.kH D (.inr rfl)]; exact hDl
            have kD2 : g2.kp D := st2.kp D (st1.kp D (.inr rfl))
            have s12 : Stp (gi.keep D) H g2 H2 := st1.trans st2
            cases k with
            | false =>
              rw [if_neg Bool.false_ne_true]
              have fin' : match lcGo b ft fe (wp ρ own) (xs.drop (i + 1)) h1 with
                | .ok vs h' => ∀ g' H' us, Stp gi H g' H' → RH c g' h' H' → H' D = some (.lst us) → ¬ g'.fz D → D ∉ g'.io → ¬ g'.kp D → RVs c g'.fz H' (acc ++ vs) us → N H'
                | _ => False := by
                simp only [Res.bind, if_neg Bool.false_ne_true] at fin; exact fin
              refine ⟨g2.back gi.kp, h1, acc, us, Nat.le_succ_of_le hacc, st.trans s12.back, rh2.back (fun p z => s12.kp p (.inl z)), hD2, (rh2.kd D kD2).1, (rh2.kd D kD2).2, nk, RVs.gback (s12.rvs (show RVs c (gi.keep D).fz H acc us from rvs)), ?_⟩
              generalize lcGo b ft fe (wp ρ own) (xs.drop (i + 1)) h1 = r at fin' ⊢
              cases r with
              | ok vs h' => exact fun g' H' us' st' => fin' g' H' us' (s12.back.trans st')
              | no => exact fin'
              | exc _ _ _ _ => exact fin'
            | true =>
              rw [if_pos rfl]
              refine ⟨g2, ρ', h1, rh2, rs2.stp st2, ?_⟩
              simp only [Res.bind, if_pos rfl] at fin
              cases ee : fe ρ' h1 with
              | no => rw [ee] at fin; exact fin.elim
              | exc _ _ _ _ => rw [ee] at fin; exact fin.elim
              | ok v h2 =>
                rw [ee] at fin
                simp only at fin
                intro g3 H3 yv st3 rh3 rv3
                have s13 : Stp (gi.keep D) H g3 H3 := s12.trans st3
                have kD3 : g3.kp D := st3.kp D kD2
                have hD3 : H3 D = some (.lst us) := by rw [st3.kH D kD2]; exact hD2
                have rvs3 : RVs c g3.fz H3 acc us := s13.rvs (show RVs c (gi.keep D).fz H acc us from rvs)
                have nf3 := (rh3.kd D kD3).1
                have ni3 := (rh3.kd D kD3).2
                refine ⟨us, hD3, by rw [← rvs.len]; exact SZ_lt (by omega), ?_⟩
                cases ov : v.isObj with
                | true => rw [ov] at fin; simp at fin
                | false =>
                  simp only [ov, if_neg Bool.false_ne_true] at fin
                  have sw : Stp (g3.back gi.kp) H3 (g3.back gi.kp) (upd H3 D (.lst (us ++ [yv]))) := Stp.wr (c := c) (g := g3.back gi.kp) nf3 nk (fun ys z => by rw [hD3] at z; cases z)
                  have rhb : RH c (g3.back gi.kp) h2 H3 := rh3.back (fun p z => s13.kp p (.inl z))
                  have rhw : RH c (g3.back gi.kp) h2 (upd H3 D (.lst (us ++ [yv]))) := rhb.wrD ⟨nf3, ni3, nk⟩ (fun ys z => by rw [hD3] at z; cases z) (by rw [hD3]; exact noTab_of (fun _ z => by cases z) (fun _ z => by cases z))
                  refine ⟨g3.back gi.kp, h2, acc ++ [v], us ++ [yv], by rw [List.length_append]; simp; omega, (st.trans s13.back).trans sw, rhw, upd_same, nf3, ni3, nk, ?_, ?_⟩
                  · exact sw.rvs (RVs.app (RVs.gback rvs3) (RVs.one (show RV c (g3.back gi.kp).fz H3 v yv from rv3.rv ov)))
                  · generalize lcGo b ft fe (wp ρ own) (xs.drop (i + 1)) h2 = r at fin ⊢
                    cases r with
                    | ok vs h' =>
                      intro g' H' us' st' rh' d1 d2 d3 d4 rv'
                      rw [List.append_assoc] at rv'
                      exact fin g' H' us' ((s13.back.trans sw).trans st') rh' d1 d2 d3 d4 rv'
                    | no => exact fin
                    | exc _ _ _ _ => exact fin
    · have e : i = xs.length := by omega
      subst e
      refine .inl ⟨dl.stop gi H st.f _ (Nat.le_refl _), ?_⟩
      rw [List.drop_length] at fin
      unfold lcGo at fin
      refine fin gi H us .refl rhi hDl nf ni nk ?_
      rw [List.append_nil]; exact rvs
def lc2Go (b : VV → VSt → Option VSt) (t : TF) (it1 : AF) (b1 : VV → VSt → Option VSt) (vs1 : List Nat) (t1 : TF) (e : EF) (ρ : VSt) : List VV → VH → List VV → Res (List VV)
  | [], h, acc => .ok acc h
  | x :: xs, h, acc => match b x ρ with
    | none => .no
    | some ρ' => (t ρ' h).bind fun k h1 => if k = true then (it1 ρ' h1).bind fun ys h2 => if acc.length + ys.length > SZ then .no else (lcGo b1 t1 e (wp ρ' vs1) ys h2).bind fun vs h3 => lc2Go b t it1 b1 vs1 t1 e ρ xs h3 (acc ++ vs) else lc2Go b t it1 b1 vs1 t1 e ρ xs h1 acc
def eLc2 (own : List Nat) (it : AF) (b : VV → VSt → Option VSt) (t : TF) (it1 : AF) (b1 : VV → VSt → Option VSt) (vs1 : List Nat) (t1 : TF) (e : EF) : EF := fun ρ h => (it ρ h).bind fun xs h1 => match lc2Go b t it1 b1 vs1 t1 e (wp ρ own) xs h1 [] with
  | .ok vs h2 => .ok (.lst vs) h2
  | _ => .no
section
variable {X : Cx} {W : WX}
theorem tLc2_of {own vs1 own1 : List Nat} {it it1 : AF} {b b1 : VV → VSt → Option VSt} {ft ft1 : TF} {fe : EF} {tg tg1 : TG} (pat : PatOk X.K tg b own) (pat1 : PatOk X.K tg1 b1 vs1)
    {σ : St} {H : Hp} {Q : VK} (h : tE (ct X) W (eLc2 own it b ft it1 b1 vs1 ft1 fe) σ H Q) :
    tLc2 (tI (ct X) W it) tg (tT (ct X) W0 ft) (tI (ct X) W0 it1) tg1 (tT (ct X) W0 ft1) (tE (ct X) W0 fe) own vs1 σ H Q := by
  obtain ⟨g, ρ, h0, rh, rs, p⟩ := tG.bind (R := fun g H xs J => Deliv (ct X) g H xs J) (f := it) (k := fun (xs : List VV) ρ h1 => (match lc2Go b ft it1 b1 vs1 ft1 fe (wp ρ own) xs h1 [] with
      | .ok vs h2 => Res.ok (VV.lst vs) h2
      | _ => .no)) h
  refine ⟨g, ρ, h0, rh, rs, p.imp fun J H1 ⟨g1, ρ1, xs, h1, rh1, rs1, dl, p1⟩ D hD => ?_⟩
  clear p rs rh
  rename_i g0
  let P : Nat → Hp → Prop := fun i H => ∃ (gi : Gh) (hi : VH) (acc : List VV) (us : List V), Stp g1 H1 gi H ∧ RH (ct X) gi hi H ∧ H D = some (.lst us) ∧ Dz gi D ∧ RVs (ct X) gi.fz H acc us ∧
    (match lc2Go b ft it1 b1 vs1 ft1 fe (wp ρ1 own) (xs.drop i) hi acc with
      | .ok vs h' => ∀ g' H' us, Stp gi H g' H' → RH (ct X) g' h' H' → H' D = some (.lst us) → Dz g' D → RVs (ct X) g'.fz H' vs us → Q (.ref D) H'
      | _ => False)
  refine ⟨fun i m H => m = xs.length - i ∧ i ≤ xs.length ∧ P i H, ⟨xs.length, by simp, Nat.zero_le _, ?_⟩, ?_⟩
  · refine ⟨g1, h1, [], [], .junk rh1 hD, rh1.junk hD, upd_same, ⟨fun z => ?_, fun z => ?_, fun z => ?_⟩, RVs.nil, ?_⟩
    · obtain ⟨o, e⟩ := rh1.fz D z; rw [hD] at e; cases e
    · obtain ⟨o, e⟩ := rh1.root z; rw [hD] at e; cases e
    · obtain ⟨o, e⟩ := rh1.kp D z; rw [hD] at e; cases e
    · rw [List.drop_zero]
      generalize lc2Go b ft it1 b1 vs1 ft1 fe (wp ρ1 own) xs h1 [] = r at p1 ⊢
      cases r with
      | ok vs h' =>
        intro g' H' us st rh' e dz rv'
        have q := Pst.step ((Stp.junk rh1 hD).trans st) p1
        obtain ⟨s2, r2⟩ := frz_nobody rh' dz e
        refine q (g'.frz D) H' (.ref D) s2 r2 ?_
        show RV _ _ _ _ _
        rw [RV]
        exact ⟨D, us, rfl, .inr rfl, e, s2.rvs rv'⟩
      | no => exact p1
      | exc _ _ _ _ => exact p1
  · rintro i m H ⟨rfl, hi, gi, hh, acc, us, st, rhi, hDl, dz, rvs, fin⟩
    by_cases hlt : i < xs.length
    · refine .inr ⟨dl.go gi H st.f i hlt, P (i + 1), fun H' p' => ⟨xs.length - (i + 1), by omega, rfl, hlt, p'⟩, fun x H' y => ?_⟩
      have ed : xs.drop i = xs[i] :: xs.drop (i + 1) := List.drop_eq_getElem_cons hlt
      have rhk : RH (ct X) (gi.keep D) hh H := rhi.keep hDl dz.nf dz.ni
      have stk : Stp g1 H1 (gi.keep D) H := st.trans .keep
      obtain ⟨g2, st2, rh2, rt2⟩ := dl.yld (gi.keep D) H stk.f i xs[i] hh (List.getElem?_eq_getElem hlt) rhk x H' y
      rw [ed] at fin
      unfold lc2Go at fin
      cases e : b xs[i] (wp ρ1 own) with
      | none => rw [e] at fin; exact fin.elim
      | some ρ' =>
        rw [e] at fin
        simp only at fin
        have rs2 : RS (ct X) g2 H' (wp ρ1 own) (wipe σ own) := ((rs1.wipe own).stp stk).stp st2
        refine pat.run (ct X) g2 hh H' _ _ _ _ ρ' rfl rh2 rs2 rt2 e _ fun σ2 rs3 o2 l2 => ⟨?_, ?_⟩
        · refine wipe_same (l2.trans (wipe_length _ _)) fun j hj => (o2 j hj).trans (wipe_out hj)
        · refine ⟨g2, ρ', hh, rh2, rs3, ?_⟩
          cases et : ft ρ' hh with
          | no => rw [et] at fin; exact fin.elim
          | exc _ _ _ _ => rw [et] at fin; exact fin.elim
          | ok k h2 =>
            rw [et] at fin
            intro g3 H3 bb st3 rh3 eb
            cases (show bb = k from eb)
            have s13 : Stp (gi.keep D) H g3 H3 := st2.trans st3
            have kD3 : g3.kp D := s13.kp D (.inr rfl)
            have hD3 : H3 D = some (.lst us) := by rw [s13.kH D (.inr rfl)]; exact hDl
            cases k with
            | false =>
              rw [if_neg Bool.false_ne_true]
              simp only [Res.bind, if_neg Bool.false_ne_true] at fin
              refine ⟨g3.back gi.kp, h2, acc, us, st.trans s13.back, rh3.back (fun p z => s13.kp p (.inl z)), hD3, ⟨(rh3.kd D kD3).1, (rh3.kd D kD3).2, dz.nk⟩, RVs.gback (s13.rvs (show RVs (ct X) (gi.keep D).fz H acc us from rvs)), ?_⟩
              generalize lc2Go b ft it1 b1 vs1 ft1 fe (wp ρ1 own) (xs.drop (i + 1)) h2 acc = r at fin ⊢
              cases r with
              | ok vs h' => exact fun g' H' us' st' => fin g' H' us' (s13.back.trans st')
              | no => exact fin
              | exc _ _ _ _ => exact fin
            | true =>
              rw [if_pos rfl]
              simp only [Res.bind, if_pos rfl] at fin
              refine ⟨g3, ρ', h2, rh3, rs3.stp st3, ?_⟩
              cases ei : it1 ρ' h2 with
              | no => rw [ei] at fin; exact fin.elim
              | exc _ _ _ _ => rw [ei] at fin; exact fin.elim
              | ok ys h3 =>
                rw [ei] at fin
                simp only at fin
                intro g4 H4 J1 st4 rh4 dl1
                by_cases cz : acc.length + ys.length > SZ
                · rw [if_pos cz] at fin; exact fin.elim
                · rw [if_neg cz] at fin
                  have s14 : Stp (gi.keep D) H g4 H4 := s13.trans st4
                  have kD4 : g4.kp D := st4.kp D kD3
                  have hD4 : H4 D = some (.lst us) := by rw [st4.kH D kD3]; exact hD3
                  have dzb : Dz (g4.back gi.kp) D := ⟨(rh4.kd D kD4).1, (rh4.kd D kD4).2, dz.nk⟩
                  have rhb : RH (ct X) (g4.back gi.kp) h3 H4 := rh4.back (fun p z => s14.kp p (.inl z))
                  have dlb : Deliv (ct X) (g4.back gi.kp) H4 ys J1 := ⟨fun g H f => dl1.go g H ⟨f.fz, f.fH, f.tp⟩, fun g H f => dl1.stop g H ⟨f.fz, f.fH, f.tp⟩, fun g H f => dl1.yld g H ⟨f.fz, f.fH, f.tp⟩⟩
                  have sB : Stp g4 H4 g4 H4 := .refl
                  have rsb : RS (ct X) (g4.back gi.kp) H4 ρ' σ2 := ⟨((rs3.stp st3).stp st4).len, fun i v e => by
                    obtain ⟨u, a1, a2⟩ := ((rs3.stp st3).stp st4).get i v e
                    exact ⟨u, a1, a2.back rfl rfl⟩⟩
                  refine lc_seg (fun _ _ _ _ z => z) rfl pat1 dlb (by omega) rhb rsb hD4 dzb (RVs.gback (s14.rvs (show RVs (ct X) (gi.keep D).fz H acc us from rvs))) ?_
                  cases el : lcGo b1 ft1 fe (wp ρ' vs1) ys h3 with
                  | no => rw [el] at fin; exact fin
                  | exc _ _ _ _ => rw [el] at fin; exact fin
                  | ok vs h4 =>
                    rw [el] at fin
                    simp only at fin ⊢
                    intro g5 H5 us5 st5 rh5 d1 d2 d3 d4 rv5
                    refine ⟨g5, h4, acc ++ vs, us5, (st.trans s14.back).trans st5, rh5, d1, ⟨d2, d3, d4⟩, rv5, ?_⟩
                    generalize lc2Go b ft it1 b1 vs1 ft1 fe (wp ρ1 own) (xs.drop (i + 1)) h4 (acc ++ vs) = r at fin ⊢
                    cases r with
                    | ok vs h' => exact fun g' H' us' st' => fin g' H' us' ((s14.back.trans st5).trans st')
                    | no => exact fin
                    | exc _ _ _ _ => exact fin
    · have e : i = xs.length := by omega
      subst e
      refine .inl ⟨dl.stop gi H st.f _ (Nat.le_refl _), ?_⟩
      rw [List.drop_length] at fin
      unfold lc2Go at fin
      exact fin gi H us .refl rhi hDl dz rvs
theorem j_lc2 {elt tg iter tg1 iter1 : Expr} {ifs ifs1 : List Expr} {scope : Scope} {own : List (Str × Nat)} {vs1 : List Nat} {pos : Pos} {it it1 : AF} {g g1 : TG} {b b1 : VV → VSt → Option VSt} {ft ft1 : TF} {fe : EF} (hc : X.calm = true) (hN : X.N.Nodup) (hi : PI X tg iter (tI (ct X) W it)) (ok : BlkOk X.N X.env.scope scope own)
    (hg : ∀ (s : Shared) (H : Hp) (C : Addr) (cl : List (Str × Addr)) (fp : List Addr), PG (X.blk s H scope (compEnvC scope cl C X.env) fp) tg g) {own0 : List Nat} (pat : PatOk X.K g b own0) (hsub : ∀ i ∈ own0, i ∈ own.map (·.2))
    (ht : ∀ (s : Shared) (H : Hp) (C : Addr) (cl : List (Str × Addr)) (fp : List Addr), PTs (X.blk s H scope (compEnvC scope cl C X.env) fp) ifs (tT (ct X) W0 ft))
    (hi1 : ∀ (s : Shared) (H : Hp) (C : Addr) (cl : List (Str × Addr)) (fp : List Addr), PI (X.blk s H scope (compEnvC scope cl C X.env) fp) tg1 iter1 (tI (ct X) W0 it1))
    (hg1 : ∀ (s : Shared) (H : Hp) (C : Addr) (cl : List (Str × Addr)) (fp : List Addr), PG (X.blk s H scope (compEnvC scope cl C X.env) fp) tg1 g1) (pat1 : PatOk X.K g1 b1 vs1) (hv : ∀ i ∈ vs1, i ∈ own.map (·.2))
    (ht1 : ∀ (s : Shared) (H : Hp) (C : Addr) (cl : List (Str × Addr)) (fp : List Addr), PTs (X.blk s H scope (compEnvC scope cl C X.env) fp) ifs1 (tT (ct X) W0 ft1))
    (he : ∀ (s : Shared) (H : Hp) (C : Addr) (cl : List (Str × Addr)) (fp : List Addr), PE (X.blk s H scope (compEnvC scope cl C X.env) fp) elt (tE (ct X) W0 fe)) (hs : ∀ x, foldedSetIterable iter X.env x = pure x := by intro _; rfl) (hs1 : ∀ env x, foldedSetIterable iter1 env x = pure x := by intro _ _; rfl) :
    PE X (.ListComp elt [⟨tg, iter, ifs, 0⟩, ⟨tg1, iter1, ifs1, 0⟩] scope pos) (tE (ct X) W (eLc2 (own.map (·.2)) it b ft it1 b1 vs1 ft1 fe)) :=
  PE.mono (pe_lc2 hc hN hi ok hv hg ht hi1 hg1 ht1 he hs hs1) fun σ H Q h => tLc2_of (own1 := []) ⟨fun c g h H ρ σ v u ρ' e1 e2 e3 e4 e5 Q k => pat.run c g h H ρ σ v u ρ' e1 e2 e3 e4 e5 Q fun σ' a b d => k σ' a (fun i hi => b i fun z => hi (hsub i z)) d⟩ pat1 h
theorem js_setLc2 {i : Nat} {y : Str} {py : Pos} {elt tg iter tg1 iter1 : Expr} {ifs ifs1 : List Expr} {scope : Scope} {own : List (Str × Nat)} {vs1 : List Nat} {pos spos : Pos} {it it1 : AF} {g g1 : TG} {b b1 : VV → VSt → Option VSt} {ft ft1 : TF} {fe : EF} (hc : X.calm = true) (hN : X.N.Nodup) (hy : X.N[i]? = some y) (hyl : X.env.scope.names.lookup y = some .local)
    (hsw : swapsWith (.ListComp elt [⟨tg, iter, ifs, 0⟩, ⟨tg1, iter1, ifs1, 0⟩] scope pos) (some (.Name y py)) spos.line X.env = pure true) (hi : PI X tg iter (tI (ct X) W it)) (ok : BlkOk X.N X.env.scope scope own)
    (hg : ∀ (s : Shared) (H : Hp) (C : Addr) (cl : List (Str × Addr)) (fp : List Addr), PG (X.blk s H scope (compEnvC scope cl C X.env) fp) tg g) {own0 : List Nat} (pat : PatOk X.K g b own0) (hsub : ∀ i ∈ own0, i ∈ own.map (·.2))
    (ht : ∀ (s : Shared) (H : Hp) (C : Addr) (cl : List (Str × Addr)) (fp : List Addr), PTs (X.blk s H scope (compEnvC scope cl C X.env) fp) ifs (tT (ct X) W0 ft))
    (hi1 : ∀ (s : Shared) (H : Hp) (C : Addr) (cl : List (Str × Addr)) (fp : List Addr), PI (X.blk s H scope (compEnvC scope cl C X.env) fp) tg1 iter1 (tI (ct X) W0 it1))
    (hg1 : ∀ (s : Shared) (H : Hp) (C : Addr) (cl : List (Str × Addr)) (fp : List Addr), PG (X.blk s H scope (compEnvC scope cl C X.env) fp) tg1 g1) (pat1 : PatOk X.K g1 b1 vs1) (hv : ∀ i ∈ vs1, i ∈ own.map (·.2))
    (ht1 : ∀ (s : Shared) (H : Hp) (C : Addr) (cl : List (Str × Addr)) (fp : List Addr), PTs (X.blk s H scope (compEnvC scope cl C X.env) fp) ifs1 (tT (ct X) W0 ft1))
    (he : ∀ (s : Shared) (H : Hp) (C : Addr) (cl : List (Str × Addr)) (fp : List Addr), PE (X.blk s H scope (compEnvC scope cl C X.env) fp) elt (tE (ct X) W0 fe)) (hs : ∀ x, foldedSetIterable iter X.env x = pure x := by intro _; rfl) (hs1 : ∀ env x, foldedSetIterable iter1 env x = pure x := by intro _ _; rfl) :
    PS X (.Assign [.Name y py] (.ListComp elt [⟨tg, iter, ifs, 0⟩, ⟨tg1, iter1, ifs1, 0⟩] scope pos) spos) (tS (ct X) W (sSet i (eLc2 (own.map (·.2)) it b ft it1 b1 vs1 ft1 fe))) :=
  PS.mono (ps_setLc2 hc hN hy hyl hsw hi ok hv hg ht hi1 hg1 ht1 he hs hs1) fun D σ H ⟨g0, ρ, h, rh, rs, p⟩ => by
    have q : tE (ct X) W (eLc2 (own.map (·.2)) it b ft it1 b1 vs1 ft1 fe) σ H (fun u H1 => gName i u σ H1 D.nx) :=
      ⟨g0, ρ, h, rh, rs, (Pst.st (R := RT (ct X)) rs p).imp fun u H1 ⟨g1, v, h1, st, rh1, rs1, rv1, p1⟩ => p1 g1 H1 _ .refl rh1 (rs1.set rv1 i)⟩
    exact tLc2_of (own1 := []) ⟨fun c g h H ρ σ v u ρ' e1 e2 e3 e4 e5 Q k => pat.run c g h H ρ σ v u ρ' e1 e2 e3 e4 e5 Q fun σ' a b d => k σ' a (fun i hi => b i fun z => hi (hsub i z)) d⟩ pat1 q
end
end J
namespace J
open PySem L2
/-! [e for x in xs if ..], xs a root that nothing in it changes -/
def rootL (v : VV) (h : VH) : Option (List VV) := match v with
  | .obj n => match h[n]? with
    | some (.fl xs) => some xs
    | _ => none
  | _ => none
def afterP (r : Res (List VV)) (h : VH) : Res VV := match r with
  | .ok vs _ => .ok (.lst vs) h
  | _ => .no
def eLcP (own : List Nat) (fo : EF) (b : VV → VSt → Option VSt) (t : TF) (e : EF) : EF := fun ρ h => (fo ρ h).bind fun v h1 => match rootL v h1 with
  | none => .no
  | some xs => if xs.length > SZ then .no else afterP (lcGo b t e (wp ρ own) xs h1) h1
end J
namespace J
open PySem L2
/-! len(set(xs)), ints -/
theorem set_card {w : World} {h : Heap} {a : Addr} {ks : List Int} {m : Nat} (R : SetR w h a (fun j => decide (j ∈ ks)) m) : m = ks.eraseDups.length := by
  obtain ⟨o, es, ep, t, ho, hex, hd, g, nd, hm, hb, hf, hn, hr, hl⟩ := R
  have p := (List.perm_ext_iff_of_nodup nd (nodup_eraseDupsI ks)).mpr fun k => by
    rw [List.mem_eraseDups, ← hm k, decide_eq_true_eq]
  have := p.length_eq
  rw [List.length_map, Array.length_toList] at this
  omega
end J
namespace J
open PySem L2
/-! dict(zip(xs, ys)), the keys unlike -/
def keysA : List VV → Option (List Key)
  | [] => some []
  | v :: vs => (keyA v).bind fun k => (keysA vs).map fun r => k :: r
def dzM (vs : List VV) : Option VV := match vs with
  | [.lst xs, .lst ys] => (keysA xs).bind fun ks => if ks.Nodup ∧ ks.length = ys.length ∧ ks.length ≤ 1000 then some (.dK ks ys) else none
  | _ => none
def eDictZip (a : AF) : EF := fun ρ h => (a ρ h).bind fun vs h1 => lift (dzM vs) h1
end J
namespace J
open PySem L2 M
/-! evaluation of what J28 to J31 added -/
section
variable {ρ : VSt} {h : VH}
theorem a_knew : eKnew ρ h = .ok (.obj h.length) (h ++ [.dK [] []]) := nr rfl
theorem s_setK {o i e} : sSetK o i e ρ h = sbd (e ρ h) ρ (fun v h1 => sbd (o ρ h1) ρ (fun ov h2 => sbd (i ρ h2) ρ (fun iv h3 => onh (setK h3 ov iv v) ρ) (tg _)) (tg _)) (tg _) := nr rfl
def keysI (v : VV) (h1 : VH) : Res (List VV) := match v with
  | .dK ks vs => .ok (ks.map keyB) h1
  | _ => .no
theorem a_keysK {f} : iKeysK f ρ h = bnd (f ρ h) keysI (tg _) := nr rfl
theorem keysI_dK {ks vs} : keysI (.dK ks vs) h = .ok (ks.map keyB) h := nr rfl
def afterK (r : Res DKA) : Res VV := match r with
  | .ok a h2 => .ok (.dK a.1 a.2) h2
  | _ => .no
theorem afterK_ok {a : DKA} : afterK (.ok a h) = .ok (.dK a.1 a.2) h := nr rfl
theorem a_dc1 {own it b fk fv} : eDc1 own it b fk fv ρ h = bnd (it ρ h) (fun xs h1 => if xs.length > SZ then .no else afterK (dcGo b fk fv (wp ρ own) xs h1 ([], []))) (tg _) := nr rfl
theorem a_sortSc {own it b fe} : eSortSc own it b fe ρ h = bnd (it ρ h) (fun xs h1 => bnd (noX (accGo b (stSet fe) (wp ρ own) xs h1 [])) (fun a h2 => if a.length < 64 then .ok (.lst ((srtI a).map .int)) h2 else .no) (tg _)) (tg _) := nr rfl
def insM (o : Option VH) : Res VV := match o with
  | some h3 => .ok .non h3
  | none => .no
def insR (h2 : VH) (ov : VV) (vs : List VV) : Res VV := match vs with
  | [iv, v] => insM (insI h2 ov iv v)
  | _ => .no
theorem a_ins {fo fi fe} : eIns fo fi fe ρ h = bnd (fo ρ h) (fun ov h1 => chkL (lstOf h1 ov) (bnd (aCons fi (aCons fe aNil) ρ h1) (fun vs h2 => insR h2 ov vs) (tg _))) (tg _) := by
  unfold eIns
  cases fo ρ h with
  | no => rfl
  | exc => rfl
  | ok ov h1 =>
    show (match lstOf h1 ov with
      | none => Res.no
      | some _ => _) = chkL (lstOf h1 ov) _
    cases lstOf h1 ov with
    | none => rfl
    | some _ => rfl
theorem a_lc2 {own it b t it1 b1 vs1 t1 e} : eLc2 own it b t it1 b1 vs1 t1 e ρ h = bnd (it ρ h) (fun xs h1 => afterL (lc2Go b t it1 b1 vs1 t1 e (wp ρ own) xs h1 [])) (tg _) := nr rfl
theorem frzO_dK {ks vs n} : frzO (some (.dK ks vs)) n h = .ok (.dK ks vs) (h.set n (.fzn (.dK ks vs))) := nr rfl
theorem frzR_dK {ks vs} : frzR (.dK ks vs) h = .ok (.dK ks vs) h := nr rfl
def lcP (own : List Nat) (b : VV → VSt → Option VSt) (t : TF) (e : EF) (ρ : VSt) (h1 : VH) (o : Option (List VV)) : Res VV := match o with
  | none => .no
  | some xs => if xs.length > SZ then .no else afterP (lcGo b t e (wp ρ own) xs h1) h1
theorem a_lcP {own fo b t e} : eLcP own fo b t e ρ h = bnd (fo ρ h) (fun v h1 => lcP own b t e ρ h1 (rootL v h1)) (tg _) := nr rfl
theorem lcP_some {own b t e xs} : lcP own b t e ρ h (some xs) = if xs.length > SZ then .no else afterP (lcGo b t e (wp ρ own) xs h) h := nr rfl
def rootO (o : Option VO) : Option (List VV) := match o with
  | some (.fl xs) => some xs
  | _ => none
theorem rootL_obj {n : Nat} : rootL (.obj n) h = rootO (h[n]?) := by
  cases e : h[n]? with
  | none => simp only [rootL, rootO, e]
  | some o => cases o <;> simp only [rootL, rootO, e]
theorem rootO_fl {xs} : rootO (some (.fl xs)) = some xs := nr rfl
theorem a_dictZip {a : AF} : eDictZip a ρ h = bnd (a ρ h) (fun vs h1 => lift (dzM vs) h1) (tg _) := nr rfl
/-! points led -/
def ldV (P : List Int) (φ : Int → Int) : VV := .dK (P.map Sum.inl) (P.map fun p => VV.int (φ p))
theorem getK_map {φ : Int → Int} {p : Int} : ∀ {P : List Int}, p ∈ P → getK (P.map Sum.inl) (P.map fun p => VV.int (φ p)) (Sum.inl p) = some (.int (φ p))
  | x :: P, h => by
    rw [List.map_cons, List.map_cons, getK]
    by_cases e : x = p
    · rw [e, if_pos rfl]
    · rw [if_neg (fun z => e (Sum.inl.inj z))]
      exact getK_map (by rcases List.mem_cons.mp h with h | h; exact absurd h.symm e; exact h)
theorem kget_ld {P : List Int} {φ : Int → Int} {p : Int} (hp : p ∈ P) : opKGet h (ldV P φ) (.int p) = some (.int (φ p)) := getK_map hp
theorem len_ld {P : List Int} {φ : Int → Int} : cLenK h [ldV P φ] = some (.int (P.length : Int)) := by
  show some (VV.int ((P.map Sum.inl).length : Int)) = _
  rw [List.length_map]
theorem keyB_inl (P : List Int) : (P.map (Sum.inl : Int → Key)).map keyB = P.map VV.int := by
  rw [List.map_map]; rfl
theorem list_ld {P : List Int} {φ : Int → Int} : cListK h [ldV P φ] = some (.lst (P.map VV.int)) := by
  show some (VV.lst ((P.map Sum.inl).map keyB)) = _
  rw [keyB_inl]
theorem hasQ_inl (P : List Int) (p : Int) : hasQ (P.map Sum.inl) (Sum.inl p) = decide (p ∈ P) := by
  unfold hasQ
  rw [List.any_map, ← any_dec]
  congr 1
  funext x
  show decide (Sum.inl x = Sum.inl p) = _
  simp
/-- a new key -/
theorem put_new {P : List Int} {vs : List VV} {p : Int} {v : VV} (hp : p ∉ P) : putKQ (P.map Sum.inl) (Sum.inl p) = (P ++ [p]).map Sum.inl ∧ putVQ (P.map Sum.inl) vs (Sum.inl p) v = vs ++ [v] := by
  unfold putKQ putVQ
  rw [hasQ_inl, decide_eq_false hp]
  simp
theorem srtI_eq (l : List Int) : srtI l = isort l.eraseDups := nr rfl
end
end J
namespace J
open PySem L2
open PyProof.Rows (envOfC)
/-! refusals: own exception classes over one own base whose __init__ sets word and at -/
theorem takesN0 {X : Cx} : L2N.Takes X (fun _ _ _ _ => False) := fun _ _ x => by
  obtain ⟨_, _, _, _, _, _, _, _, _, _, _, _, _, _, _, _, z⟩ := x
  exact z.elim
section
variable {X : Cx} {W : WX}
def sRaise0 (x : Str) : SF := fun ρ h => .exc x ["at", "word"] [.int (-1), .str x] ρ h
end
end J
namespace J
open PySem L2
open PyProof.Rows (envOfC)
/-! methods and classes that let refusals out -/
abbrev Wc (E : XK) : WX := fun a d _ H' => E a d H'
def eMethX (cn m : Str) (n : Nat) (F : FF) (dws : List VV) (fo : EF) (fa : AF) : EF := fun ρ h => (fo ρ h).bind fun v h1 => match insOf h1 v with
  | some a => if a.1 = cn ∧ lookN a.2.1 a.2.2 m = none then (fa ρ h1).bind fun vs h2 => if (v :: (vs ++ dws)).length = n then F (v :: (vs ++ dws)) h2 else .no else .no
  | none => .no
def mkX (n0 : Nat) (r : Res VV) : Res VV := match r with
  | .ok .non h' => if n0 ≤ h'.length ∧ (h'.take n0).all (lowO n0) = true then (match dzV h' n0 8 (.obj n0) with
    | some w => .ok w (h'.take n0)
    | none => .no) else .no
  | .exc x ns vs h' => .exc x ns vs h'
  | _ => .no
def eMakeX (cn : Str) (n : Nat) (F : FF) (dws : List VV) (fa : AF) : EF := fun ρ h => (fa ρ h).bind fun vs h1 => if (VV.obj h1.length :: (vs ++ dws)).length = n then mkX h1.length (F (.obj h1.length :: (vs ++ dws)) (h1 ++ [.ins cn [] []])) else .no
end J
namespace J
open PySem L2
open PyProof.Rows (envOfC)
/-! within an except suite -/
end J
namespace J
open PySem L2
open PyProof.Rows (envOfC)
theorem PIH.mono {X : Cx} {tg e : Expr} {t t' : TI} (h : L2H.PIH X tg e t) (m : ∀ σ H R, t' σ H R → t σ H R) : L2H.PIH X tg e t' := ⟨fun pins s σ H R I q => h.run pins s σ H R I (m σ H R q)⟩
/-! isinstance of the handled exception (which has a dict) -/
end J
namespace J
open PySem L2
open PyProof.Rows (envOfC)
end J
namespace J
open PySem L2
end J
namespace J
open PySem L2
open PyProof.Rows (envOfC)
/-! _law_refusal(lambda: ..) -/
end J
namespace J
open PySem L2
open PyProof.Rows (envOfC)
/-- the context of a lambda's body; what it lets out has no context of its own -/
abbrev lamN (X : Cx) (A : Around) (outer : List Env) (s : Shared) (H : Hp) (E : XK) (scope : Scope) (f c' : Addr) : Cx := (LamX.lamCx X A outer s H E scope f c').wish fun e s' =>
  wpAny (model X.prog X.w) (A.deeper (LamX.lamEnv X scope s.heap.objs.size f c')) (leaving (LamX.lamEnv X scope s.heap.objs.size f c') e) (fun _ s2 => L2N.CX X.prog X.w outer H s E e s2) (fun e2 s2 => L2N.CX X.prog X.w outer H s E e2 s2) s'
def eRef (xs : List Str) (fb : EF) : EF := fun ρ h => match fb ρ h with
  | .no => .no
  | .ok _ h' => .ok (.tup [.str "let", .int (-1)]) (trim h.length .non h')
  | .exc x ns vs h' => if x ∈ xs ∧ ns = (["at", "word"] : List Str) then (match vs with
    | [.int n, .str y] => if y = x then .ok (.tup [.str x, .int n]) (trim h.length .non h') else .no
    | _ => .no) else .no
end J
namespace J
open PySem L2
open PyProof.Rows (envOfC)
/-- what _law_refusal makes of a lambda, at the def g0 -/
def RefRun (X : Cx) (g0 : Addr) (xs : List Str) (kk : Nat) : Prop := ∀ (W : WX) (fb : EF) (k : Nat) (params : Arguments) (body : Expr) (scope : Scope), Room (k + 2) X.A → kk ≤ k → LamX.LamS X.env.scope scope →
  (∀ (q : Str) (cl : List (Str × Addr)) (pm cv ctv : Value), bindArgs (PySem.W.kla_fn "<lambda>" q params body scope cl pm cv ctv) ⟨[], []⟩ = pure []) →
  (∀ (A : Around) (outer : List Env) (s : Shared) (H : Hp) (E : XK) (f c' : Addr), Room k (A.deeper (LamX.lamEnv X scope s.heap.objs.size f c')) → PE (lamN X A outer s H E scope f c') body (tE (ct X) (Wc E) fb)) →
  ∀ (pins : List (Addr × Obj)) (s1 : Shared) (σ : St) (H1 : Hp) (Q : VK) (g : Gh) (ρ : VSt) (h0 : VH) (f c' : Addr) (pm2 ctv : Value), Inv X pins σ H1 s1 → s1.heap.get? f = some (PySem.W.kla_obj "<lambda>" (X.env.qual ++ "<lambda>") params body scope (cloFrom X.env.cells scope.names []) pm2 c' ctv) → H1 f = none → f ∉ frs X.stack → H1 c' = some (LamX.CodeO c' (X.env.qual ++ "<lambda>")) →
    RH (ct X) g h0 H1 → RS (ct X) g H1 ρ σ → Pst (ct X) W σ (RT (ct X)) g H1 Q (eRef xs fb ρ h0) → wpAny (model X.prog X.w) X.A (call (.ref g0) [.ref f]) (EP X pins σ Q) X.xe s1
structure OkR (P : Program) (w : World) (K : PySem.W.Frag) (mg : Str → Option Value) (base : Heap) (xs : List Str) (kk : Nat) : Prop where
  ex : ∃ g0, mg "_law_refusal" = some (.ref g0) ∧ PySem.W.keepIn K (.ref g0) = true ∧ ∀ X : Cx, X.prog = P → X.w = w → X.K = K → X.mg = mg → X.base = base → RefRun X g0 xs kk
end J
namespace J
open PySem L2
open PyProof.Rows (envOfC)
theorem tab_mk {K : PySem.W.Frag} {f c T : Addr} {oc dV kV doc pm cdv ctv e : Value} {od an dd : Option Addr} {osl sl : Array (Option Value)} {vs : Array Value} {x q : Str} {params : Arguments} {body : List Stmt} {scope : Scope} (a : PySem.W.nsIn K mainGlobals lamFn = some (some (.ref f)))
    (l : K.lookup f = some ⟨oc, od, .func (PySem.W.fnOf x q params body scope dV kV doc pm an cdv ctv), osl⟩) (ec : cdv = .ref c) (lc : K.lookup c = some ⟨e, dd, .fields vs, sl⟩) (v : vs[11]? = some (.ref T)) : PySem.W.tabIn K lamFn = some (c, T) := by
  subst ec
  unfold PySem.W.tabIn
  rw [a]
  simp only [l]
  show (match K.lookup c with
        | some ⟨_, _, .fields vs, _⟩ => (match (vs[11]? : Option Value) with
          | some (.ref P) => some (c, P)
          | _ => none)
        | _ => none) = some (c, T)
  rw [lc]
  simp only [v]
end J
namespace J
open PySem L2
open PyProof.Rows (envOfC)
/-! x = [a]; x.append(b): a list of two, as data -/
def sSetApp (i : Nat) (fa fb : EF) : SF := fun ρ h => (fa ρ h).st ρ fun v h1 => (fb (ρ.set i none) h1).st (ρ.set i none) fun w h2 => if (v.isObj || w.isObj) = true then .no else .nx (ρ.set i (some (.lst [v, w]))) h2
end J
namespace J
open PySem L2
variable {ρ : VSt} {h h' : VH}
theorem s_setApp {i fa fb} : sSetApp i fa fb ρ h = sbd (fa ρ h) ρ (fun v h1 => sbd (fb (ρ.set i none) h1) (ρ.set i none) (fun w h2 => if (v.isObj || w.isObj) = true then .no else .nx (ρ.set i (some (.lst [v, w]))) h2) (tg _)) (tg _) := nr rfl
theorem s_raise0 {x} : sRaise0 x ρ h = .exc x ["at", "word"] [.int (-1), .str x] ρ h := nr rfl
end J
namespace J
open PySem L2
open PyProof.Rows (envOfC)
/-! == and != of instances, by the class's own __eq__ -/
section
variable {X : Cx} {W : WX} {k : Nat} {cn : Str} {Fm : FF}
def ownR (ne : Bool) (cn : Str) (F : FF) (v w : VV) (h2 : VH) : Res VV := match insOf h2 v, insOf h2 w with
  | some a, some b => if a.1 = cn ∧ b.1 = cn then (noX (F [v, w] h2)).bind fun r h3 => (match r with
    | .bl r => .ok (.bl (if ne = true then !r else r)) h3
    | _ => .no) else .no
  | _, _ => .no
def eOwn (ne : Bool) (cn : Str) (F : FF) (fa fb : EF) : EF := fun ρ h => (fa ρ h).bind fun v h1 => (fb ρ h1).bind fun w h2 => ownR ne cn F v w h2
end
end J
namespace J
open PySem PySem.Spec L2 PyProof.Rows
section
variable {P : Program} {w : World} {A : Around} {E : Value → Shared → Prop} {s : Shared} {a : Addr} {o : Obj} {es : Array (Int × Value)} {ep : Nat} {t : SetTable}
theorem setWalk_of {Q : Array (Int × Value) → Shared → Prop} (ho : s.heap.get? a = some o) (hd : o.data = .set es ep t) (hf : t.fits es.size = true) (hl : w.params.followText "set-order" = true ∨ t.led = true)
    (hQ : ∀ ys d, ys.toList.Perm es.toList → Q ys { s with drawn := d }) : wpAny (model P w) A (setWalk a) Q E s := by
  unfold setWalk
  refine wpAny_bind (wpAny_setState_of ho hd hf ?_)
  dsimp only
  refine wpAny_bind (wpAny_byText ?_)
  split
  · exact wpAny_bind (wpAny_askSetting (wpAny_pure (hQ _ s.drawn (pick_perm _ _))))
  · rename_i hb
    split
    · refine wpAny_bind (drawOrder_at _ _ s _ (Nat.le_of_eq Array.length_toList) fun ys d p => wpAny_pure (hQ _ d (by simpa using p)))
    · refine wpAny_bind (wpAny_of_eq (a := ()) ?_ (wpAny_pure (hQ es s.drawn (.refl _))))
      show (if (!t.led && decide (es.size > 1)) = true then unsupported "set:maker-not-led" else pure ()) = pure ()
      rcases hl with hl | hl
      · exact absurd hl hb
      · rw [hl] <;> rfl
/-! set(xs) - set(ys) == set(): ints -/
/-- a set whose things are ints -/
structure SInt (h : Heap) (a : Addr) : Prop where
  ex : ∃ o es ep t, h.get? a = some o ∧ o.data = .set es ep t ∧ t.fits es.size = true ∧ ∀ e ∈ es.toList, GoodE e
theorem setsQuiet_of : ∀ {l : List Addr} {Q : Bool → Shared → Prop}, (∀ b ∈ l, SInt s.heap b) → (∀ r, Q r s) → wpAny (model P w) A (setsQuiet l) Q E s := by
  intro l Q h hQ
  unfold setsQuiet
  refine wpAny_bind ?_
  refine wpAny_forIn_list _ (fun rest b s' => s' = s ∧ b = (none, ()) ∧ ∀ c ∈ rest, c ∈ l) _ ?_ ?_ l _ ⟨rfl, rfl, fun _ h => h⟩
  · rintro x rest b s' ⟨rfl, rfl, hm⟩
    obtain ⟨o, es, ep, t, ho, hd, hf, hg⟩ := (h x (hm x (List.mem_cons_self ..))).ex
    refine wpAny_bind (wpAny_setEntries_of ho hd hf ?_)
    refine wpAny_bind ?_
    refine wpAny_forIn_array' _ (fun rest b s2 => s2 = s' ∧ b = (none, ()) ∧ ∀ c ∈ rest, GoodE c) _ ?_ ?_ es _ ⟨rfl, rfl, hg⟩
    · rintro e r2 b s2 ⟨rfl, rfl, hm2⟩
      obtain ⟨k, tk, h1, _⟩ := hm2 e (List.mem_cons_self ..)
      obtain ⟨e1, e2⟩ := e
      simp only at h1
      subst h1
      exact wpAny_pure ⟨rfl, rfl, fun c hc => hm2 c (List.mem_cons_of_mem _ hc)⟩
    · rintro b s2 ⟨rfl, rfl, _⟩
      exact wpAny_pure ⟨rfl, rfl, fun c hc => hm c (List.mem_cons_of_mem _ hc)⟩
  · rintro b s' ⟨rfl, rfl, _⟩
    exact wpAny_pure (hQ true)
theorem SetR.sint {S : Int → Bool} {n : Nat} (R : SetR w s.heap a S n) : SInt s.heap a := by
  obtain ⟨o, es, ep, t, ho, hex, hd, g, nd, hm, hb, hf, hn, hr, hl⟩ := R
  exact ⟨o, es, ep, t, ho, hd, hf, g⟩
/-- a's things, in any order; the set f that is being filled stays what it is -/
theorem walkUnseen_of {S T F : Int → Bool} {n m k : Nat} {b f : Addr} {Q : Array (Int × Value) → Shared → Prop} (R : SetR w s.heap a S n) (ho : s.heap.get? a = some o) (hd : o.data = .set es ep t) (Rb : SetR w s.heap b T m) (Rf : SetR w s.heap f F k) (nf : f ≠ a)
    (hQ : ∀ ys h' d, ys.toList.Perm es.toList → Heap.SameBut f s.heap h' → SetR w h' f F k → Q ys { s with heap := h', drawn := d }) : wpAny (model P w) A (setWalkUnseen a [b, f] (some f)) Q E s := by
  have qa := SetR.sint (a := a) R
  have qb := SetR.sint (a := b) Rb
  have qf := SetR.sint (a := f) Rf
  obtain ⟨o', es', ep', t', ho', hex, hd', g, nd, hm, hb, hf, hn, hr, hl⟩ := R
  rw [ho] at ho'; cases ho'
  rw [hd] at hd'; cases hd'
  have plain : ∀ {Q}, (∀ ys h' d, ys.toList.Perm es.toList → Heap.SameBut f s.heap h' → SetR w h' f F k → Q ys { s with heap := h', drawn := d }) → wpAny (model P w) A (setWalk a) Q E s := fun hQ => setWalk_of ho hd hf hl fun ys d p => hQ ys s.heap d p (Heap.SameBut.refl f _) Rf
  unfold setWalkUnseen
  refine wpAny_bind (wpAny_setState_of ho hd hf ?_)
  dsimp only
  refine wpAny_bind (wpAny_byText ?_)
  split
  · exact plain hQ
  · rename_i cc
    refine wpAny_bind (setsQuiet_of (fun c hc => ?_) fun r => ?_)
    · simp only [List.mem_cons, List.not_mem_nil, or_false] at hc
      rcases hc with rfl | rfl | rfl
      · exact qa
      · exact qb
      · exact qf
    · split
      · exact plain hQ
      · refine wpAny_bind (wpAny_rule ?_)
        obtain ⟨of, ef, epf, tf, hof, hexf, hdf, gf, ndf, hmf, hbf, hff, hnf, hrf, hlf⟩ := id Rf
        refine wpAny_bind (wpAny_setState_of hof hdf hff ?_)
        dsimp only
        split
        · refine wpAny_bind (wpAny_storeSet_of hof hdf ?_ (fits_of_scanBound hbf))
          refine wpAny_pure (hQ es _ s.drawn (.refl _) (Heap.SameBut.update s.heap f _) ?_)
          have hlt : t.led = true ∨ w.params.followText "set-order" = true := hl.symm
          refine ⟨_, ef, _, _, store_at (es' := ef) hof hdf, hexf, rfl, gf, ndf, hmf, hbf, ?_, hnf, hrf, ?_⟩
          · exact hff
          · rcases hlt with z | z
            · rcases hlf with y | y
              · exact .inl y
              · exact .inr (by show (tf.led && t.led) = true; rw [y, z]; rfl)
            · exact .inl z
        · exact wpAny_pure (hQ es s.heap s.drawn (.refl _) (Heap.SameBut.refl f _) Rf)
theorem isSet_of {b : Addr} {Q : Bool → Shared → Prop} (hT : s.TypeIs (.ref b) "set") (h : Q true s) : wpAny (model P w) A (Builtin.Frozenset.isAnySet (.ref b)) Q E s := by
  unfold Builtin.Frozenset.isAnySet
  refine wpAny_bind (wpAny_isInstance hT PySem.sub_set_self ?_)
  exact wpAny_pure h
theorem base_of {Q : Value → Shared → Prop} (hT : s.TypeIs (.ref a) "set") (h : Q (.type "set") s) : wpAny (model P w) A (Builtin.Frozenset.baseOf a) Q E s := by
  unfold Builtin.Frozenset.baseOf
  refine wpAny_bind (wpAny_isInstance hT PySem.sub_set_self ?_)
  exact wpAny_pure h
theorem newSet_of {Q : Value → Shared → Prop} (h : Q (.ref s.heap.objs.size) { s with heap := s.heap.push { cls := .type "set", dict := none, data := .set #[] 0 (.fresh 0 0 (!w.params.followText "set-order")) } }) : wpAny (model P w) A (newSet (.type "set")) Q E s := by
  unfold newSet
  refine wpAny_bind (wpAny_byText ?_)
  simp only [newObj]
  exact wpAny_bind (wpAny_alloc (wpAny_pure h))
theorem SetR.typeIs {S : Int → Bool} {n : Nat} (R : SetR w s.heap a S n) : s.TypeIs (.ref a) "set" := by
  obtain ⟨o, es, ep, t, ho, hex, r⟩ := R
  exact ⟨o, ho, hex.1⟩
theorem size_of {S : Int → Bool} {n : Nat} {Q : Nat → Shared → Prop} (R : SetR w s.heap a S n) (h : Q n s) : wpAny (model P w) A (Builtin.Frozenset.sizeOf a) Q E s := by
  obtain ⟨o, es, ep, t, ho, hex, hd, g, nd, hm, hb, hf, hn, r⟩ := R
  unfold Builtin.Frozenset.sizeOf
  refine wpAny_bind (wpAny_setEntries_of ho hd hf (wpAny_pure ?_))
  rw [hn]; exact h
theorem diff_of {S T : Int → Bool} {n m : Nat} {b : Addr} {nm : String} {Q : Value → Shared → Prop} (R : SetR w s.heap a S n) (Rb : SetR w s.heap b T m) (hnm : n / 4 ≤ m) (hn : n < 64)
    (hQ : ∀ h' d k, k ≤ n → SetR w h' s.heap.objs.size (fun j => S j && !T j) k → (∀ c o, s.heap.get? c = some o → h'.get? c = some o) → Q (.ref s.heap.objs.size) { s with heap := h', drawn := d }) :
    wpAny (model P w) A (Builtin.Frozenset.difference nm a (.ref b)) Q E s := by
  unfold Builtin.Frozenset.difference
  dsimp only
  refine wpAny_bind (isSet_of (SetR.typeIs Rb) ?_)
  simp only [Bool.not_true, Bool.false_eq_true, if_false, if_true]
  refine wpAny_bind (m := Builtin.Frozenset.addrOf (.ref b)) (wpAny_pure ?_)
  simp only [Bool.false_and, Bool.false_eq_true, if_false]
  refine wpAny_bind (size_of Rb ?_)
  refine wpAny_bind (size_of R ?_)
  rw [if_neg (by omega)]
  refine wpAny_bind (base_of (SetR.typeIs R) ?_)
  refine wpAny_bind (newSet_of ?_)
  refine wpAny_bind (m := Builtin.Frozenset.addrOf _) (wpAny_pure ?_)
  obtain ⟨o, es, ep, t, ho, hex, hd, g, nd, hm, hb, hf, hN, hr, hl⟩ := id R
  have old : ∀ {c : Addr} {u : Obj} (x : Obj), s.heap.get? c = some u → (s.heap.push x).get? c = some u := fun x e => Heap.get?_push_of_some _ e
  have ho1 := old { cls := .type "set", dict := none, data := .set #[] 0 (.fresh 0 0 (!w.params.followText "set-order")) } ho
  have na : s.heap.objs.size ≠ a := Nat.ne_of_gt (Heap.lt_size ho)
  have nb : s.heap.objs.size ≠ b := Nat.ne_of_gt Rb.lt
  refine wpAny_bind (wpAny_setEpoch_of ho1 hd hf ?_)
  refine wpAny_bind ?_
  refine wpAny_holding ?_
  refine wpAny_bind ?_
  have Rf := setR_fresh (h := s.heap) w
  have R1 : SetR w (s.heap.push { cls := .type "set", dict := none, data := .set #[] 0 (.fresh 0 0 (!w.params.followText "set-order")) }) a S n := R.at fun o e => old _ e
  have Rb1 : SetR w (s.heap.push { cls := .type "set", dict := none, data := .set #[] 0 (.fresh 0 0 (!w.params.followText "set-order")) }) b T m := Rb.at fun o e => old _ e
  refine walkUnseen_of (s := { s with heap := s.heap.push _ }) R1 ho1 hd Rb1 Rf na ?_
  intro ys h' d pm sb rf
  refine wpAny_bind ?_
  have keep : ∀ {h2 : Heap}, Heap.SameBut s.heap.objs.size (s.heap.push { cls := .type "set", dict := none, data := .set #[] 0 (.fresh 0 0 (!w.params.followText "set-order")) }) h2 → ∀ c u, s.heap.get? c = some u → h2.get? c = some u := fun sb c u e => (sb.2 c (Nat.ne_of_lt (Heap.lt_size e))).trans (old _ e)
  refine wpAny_forIn_array' _ (fun rest _ s2 => ∃ (h2 : Heap) (dn : List (Int × Value)) (k : Nat), s2 = { s with heap := h2, drawn := d } ∧ Heap.SameBut s.heap.objs.size (s.heap.push { cls := .type "set", dict := none, data := .set #[] 0 (.fresh 0 0 (!w.params.followText "set-order")) }) h2 ∧ ys.toList = dn ++ rest ∧ k ≤ dn.length ∧ SetR w h2 s.heap.objs.size (fun j => decide (j ∈ dn.map keyOf) && !T j) k) _ ?_ ?_ ys _ ⟨h', [], 0, rfl, sb, rfl, Nat.le_refl _, rf.congr fun j => by simp⟩
  · rintro ⟨hx, x⟩ rest _ s2 ⟨h2, dn, k, rfl, sb2, e2, hk, r2⟩
    have ge : GoodE (hx, x) := g _ (pm.mem_iff.mp (by rw [e2]; simp))
    obtain ⟨q, tk, h1, h3⟩ := ge
    simp only at h1 h3
    have hh : hashInt q = (intKind P w).hash q := rfl
    rw [hh] at h3
    subst h1 h3
    have kp := keep sb2
    have Rb2 : SetR w h2 b T m := Rb.at fun o e => kp _ _ e
    have hlen : dn.length + (rest.length + 1) = n := by
      have z := pm.length_eq
      rw [e2, List.length_append, List.length_cons] at z
      have z2 : es.toList.length = n := by rw [Array.length_toList]; exact hN
      omega
    have fin : ∀ (h3 : Heap) (k3 : Nat), Heap.SameBut s.heap.objs.size h2 h3 → k3 ≤ dn.length + 1 → SetR w h3 s.heap.objs.size (fun j => decide (j ∈ (dn ++ [((intKind P w).hash q, Value.int q tk)]).map keyOf) && !T j) k3 → wpAny (model P w) A (do Builtin.Frozenset.unchanged nm a ep; pure (ForInStep.yield PUnit.unit)) (fun r s' => r = .yield PUnit.unit ∧ ∃ (h2 : Heap) (dn : List (Int × Value)) (k : Nat), s' = { s with heap := h2, drawn := d } ∧ Heap.SameBut s.heap.objs.size (s.heap.push { cls := .type "set", dict := none, data := .set #[] 0 (.fresh 0 0 (!w.params.followText "set-order")) }) h2 ∧ ys.toList = dn ++ rest ∧ k ≤ dn.length ∧ SetR w h2 s.heap.objs.size (fun j => decide (j ∈ dn.map keyOf) && !T j) k) E { s with heap := h3, drawn := d } := by
      intro h3 k3 sb3 hk3 r3
      have ho3 : h3.get? a = some o := keep (sb2.trans sb3) _ _ ho
      refine wpAny_bind ?_
      unfold Builtin.Frozenset.unchanged
      refine wpAny_bind (wpAny_setEpoch_of ho3 hd hf ?_)
      simp only [bne_self_eq_false, Bool.false_eq_true, if_false]
      refine wpAny_pure (wpAny_pure ⟨rfl, h3, dn ++ [((intKind P w).hash q, Value.int q tk)], k3, rfl, sb2.trans sb3, by rw [e2, List.append_assoc]; rfl, by simpa using hk3, r3⟩)
    have ky : keyOf ((intKind P w).hash q, Value.int q tk) = q := rfl
    have sf := wpAny_setFind_of (prog := P) (w := w) (A := A) (E := E) (s := { s with heap := h2, drawn := d }) (intKind_is P w q tk) rfl Rb2.setOf (Q := fun r s' => r.isSome = T q ∧ s' = { s with heap := h2, drawn := d }) (fun r hr2 => ⟨hr2, rfl⟩)
    have sa : ∀ {Q' : Bool → Shared → Prop}, (∀ h', Heap.SameBut s.heap.objs.size h2 h' → SetR w h' s.heap.objs.size (fun j => (decide (j ∈ dn.map keyOf) && !T j) || decide (j = q)) (if (decide (q ∈ dn.map keyOf) && !T q) = true then k else k + 1) → Q' (!(decide (q ∈ dn.map keyOf) && !T q)) { s with heap := h', drawn := d }) → wpAny (model P w) A (setAddHashed s.heap.objs.size (.int q tk) ((intKind P w).hash q)) Q' E { s with heap := h2, drawn := d } := fun hQ' => setR_add_hashed (s := { s with heap := h2, drawn := d }) r2 (show k + 1 < 4096 by omega) hQ'
    generalize (intKind P w).hash q = hq at sf fin e2 ky sa ⊢
    dsimp only
    refine wpAny_bind ?_
    refine wpAny_holding ?_
    refine wpAny_bind ?_
    refine wpAny_mono sf (fun r s' zz => ?_) fun _ _ e => e
    obtain ⟨hr2, rfl⟩ := zz
    refine wpAny_bind (wpAny_pure ?_)
    rw [hr2]
    cases hT : T q with
    | true =>
      simp only [Bool.not_true, Bool.false_eq_true, if_false]
      refine wpAny_pure (wpAny_mono (fin h2 k (Heap.SameBut.refl _ _) (by omega) (r2.congr fun j => ?_)) (fun r s' z => ?_) fun _ _ e => e)
      · by_cases ej : j = q
        · subst ej; simp [hT]
        · rw [List.map_append, List.map_cons, List.map_nil, ky]; simp only [List.mem_append, List.mem_singleton, ej, or_false, decide_false, Bool.or_false]
      · obtain ⟨rfl, z⟩ := z
        exact z
    | false =>
      simp only [Bool.not_false, if_true]
      refine wpAny_bind (sa fun h3 sb3 r3 => wpAny_pure (wpAny_mono (fin h3 _ sb3 ?_ (r3.congr fun j => ?_)) (fun r s' z => ?_) fun _ _ e => e))
      · split <;> omega
      · by_cases ej : j = q
        · subst ej; rw [List.map_append, List.map_cons, List.map_nil, ky]; simp [hT]
        · rw [List.map_append, List.map_cons, List.map_nil, ky]; simp only [List.mem_append, List.mem_singleton, ej, or_false, decide_false, Bool.or_false]
      · obtain ⟨rfl, z⟩ := z
        exact z
  · rintro _ s2 ⟨h2, dn, k, rfl, sb2, e2, hk, r2⟩
    rw [List.append_nil] at e2
    have hlen : dn.length = n := by
      have z := pm.length_eq
      rw [e2] at z
      have z2 : es.toList.length = n := by rw [Array.length_toList]; exact hN
      omega
    refine wpAny_pure ?_
    show wpAny (model P w) A (pure (Value.ref s.heap.objs.size)) Q E _
    refine wpAny_pure (hQ h2 d k (by omega) (r2.congr fun j => ?_) (keep sb2))
    have : (j ∈ dn.map keyOf) ↔ j ∈ es.toList.map keyOf := by rw [← e2]; exact (pm.map keyOf).mem_iff
    have h4 : S j = decide (j ∈ dn.map keyOf) := by
      rw [Bool.eq_iff_iff, hm j, decide_eq_true_eq]
      exact this.symm
    rw [h4]
theorem entry_s_sub : entryFor table "set.__sub__" = some Builtin.«frozenset.__sub__» := entryFor_alias (id' := "frozenset.__sub__") (by kernel_rfl) rfl (by decide +kernel) (by kernel_rfl)
theorem entry_s_eq : entryFor table "set.__eq__" = some Builtin.«frozenset.__eq__» := entryFor_alias (id' := "frozenset.__eq__") (by kernel_rfl) rfl (by decide +kernel) (by kernel_rfl)
theorem entry_s_ne : entryFor table "set.__ne__" = some Builtin.«frozenset.__ne__» := entryFor_alias (id' := "frozenset.__ne__") (by kernel_rfl) rfl (by decide +kernel) (by kernel_rfl)
end
section
variable {P : Program} {w : World} {A : Around} {E : Value → Shared → Prop} {s : Shared} {a : Addr}
theorem sub_sets {S T : Int → Bool} {n m : Nat} {b : Addr} {Q : Value → Shared → Prop} (R : SetR w s.heap a S n) (Rb : SetR w s.heap b T m) (hnm : n / 4 ≤ m) (hn : n < 64)
    (hQ : ∀ h' d k, k ≤ n → SetR w h' s.heap.objs.size (fun j => S j && !T j) k → (∀ c o, s.heap.get? c = some o → h'.get? c = some o) → Q (.ref s.heap.objs.size) { s with heap := h', drawn := d }) :
    wpAny (model P w) A (binaryOp .Sub (.ref a) (.ref b)) Q E s := by
  refine wpAny_binaryOp_same (SetR.typeIs R) (SetR.typeIs Rb) PySem.F.fills_set_sub PySem.F.slot_set_sub ?_
  refine wpAny_call_entry PySem.F.slot_set_sub (SetR.typeIs R) entry_s_sub ?_ (PySem.F.args_set_sub_2 _ _)
  unfold Builtin.«frozenset.__sub__»
  refine wpAny_bind (m := Builtin.Frozenset.slot1 "__sub__" _) (wpAny_of_eq (a := ((.ref a : Value), (.ref b : Value))) (by rfl) ?_)
  dsimp only
  simp only [Bool.false_eq_true, if_false]
  refine wpAny_bind ?_
  refine wpAny_bind (isSet_of (SetR.typeIs R) ?_)
  show wpAny _ _ (Builtin.Frozenset.isAnySet (.ref b)) _ _ _
  refine isSet_of (SetR.typeIs Rb) ?_
  simp only [Bool.not_true, Bool.false_eq_true, if_false]
  refine wpAny_bind (m := Builtin.Frozenset.addrOf _) (wpAny_pure ?_)
  refine wpAny_bind (diff_of R Rb hnm hn fun h' d k hk r kp => ?_)
  exact wpAny_pure ⟨_, rfl, (fun z => by cases z), hQ h' d k hk r kp⟩
theorem sub_set_frozenset : isSubtype (.type "set") (.type "frozenset") = pure false := by rw [isSubtype_type]; kernel_rfl
theorem subset0 {S T : Int → Bool} {b : Addr} {nm : String} {Q : Bool → Shared → Prop} (R : SetR w s.heap a S 0) (Rb : SetR w s.heap b T 0) (h : Q true s) : wpAny (model P w) A (Builtin.Frozenset.subsetOf nm a b) Q E s := by
  unfold Builtin.Frozenset.subsetOf
  refine wpAny_bind (size_of R (wpAny_bind (size_of Rb ?_)))
  rw [if_neg (by omega)]
  obtain ⟨o, es, ep, t, ho, hex, hd, g, nd, hm, hb, hf, hn, hr, hl⟩ := R
  obtain ⟨o2, es2, ep2, t2, ho2, hex2, hd2, g2, nd2, hm2, hb2, hf2, hn2, hr2, hl2⟩ := Rb
  have e1 : es = #[] := Array.eq_empty_of_size_eq_zero hn
  have e2 : es2 = #[] := Array.eq_empty_of_size_eq_zero hn2
  subst e1 e2
  refine wpAny_bind (wpAny_setEpoch_of ho hd hf ?_)
  refine wpAny_bind ?_
  unfold Builtin.Frozenset.walkUnseen
  refine wpAny_bind (wpAny_setEntries_of ho hd hf ?_)
  refine wpAny_bind (wpAny_setEntries_of ho2 hd2 hf2 ?_)
  exact wpAny_pure (wpAny_pure h)
/-- compared with a set that has nothing -/
theorem cmp_sets {S : Int → Bool} {n : Nat} {b : Addr} {ne : Bool} {Q : Value → Shared → Prop} (hu : A.units < cLine) (R : SetR w s.heap a S n) (Rb : SetR w s.heap b (fun _ => false) 0)
    (hQ : Q (.bool (if ne = true then !decide (n = 0) else decide (n = 0))) s) :
    wpAny (model P w) A (richCompare (if ne = true then .NotEq else .Eq) (.ref a) (.ref b)) Q E s := by
  cases ne with
  | false =>
    simp only [Bool.false_eq_true, if_false] at hQ ⊢
    refine wpAny_richCompare_same_room (SetR.typeIs R) (SetR.typeIs Rb) PySem.F.slot_set_eq ?_ hu
    refine wpAny_call_entry PySem.F.slot_set_eq (SetR.typeIs R) entry_s_eq ?_ (PySem.F.args_set_eq_2 _ _)
    unfold Builtin.«frozenset.__eq__»
    refine wpAny_bind (m := Builtin.Frozenset.slot1 "__eq__" _) (wpAny_of_eq (a := ((.ref a : Value), (.ref b : Value))) (by rfl) ?_)
    dsimp only
    refine wpAny_bind (isSet_of (SetR.typeIs Rb) ?_)
    simp only [Bool.not_true, Bool.false_eq_true, if_false]
    refine wpAny_bind (m := Builtin.Frozenset.addrOf _) (wpAny_pure ?_)
    refine wpAny_bind (m := Builtin.Frozenset.addrOf _) (wpAny_pure ?_)
    refine wpAny_bind (size_of R ?_)
    refine wpAny_bind (size_of Rb ?_)
    refine wpAny_bind ?_
    by_cases h0 : n = 0
    · subst h0
      simp only [bne_self_eq_false, Bool.false_eq_true, if_false]
      refine wpAny_bind (wpAny_bind (wpAny_isInstance (SetR.typeIs R) sub_set_frozenset (wpAny_pure ?_)))
      simp only [Bool.false_eq_true, if_false]
      exact subset0 R Rb (wpAny_pure ⟨_, rfl, (fun z => by cases z), hQ⟩)
    · have e : (n != 0) = true := by simp [h0]
      rw [e, if_pos rfl]
      refine wpAny_pure (wpAny_pure ⟨_, rfl, (fun z => by cases z), ?_⟩)
      rw [decide_eq_false h0] at hQ
      exact hQ
  | true =>
    simp only [if_true] at hQ ⊢
    refine wpAny_richCompare_same_room (SetR.typeIs R) (SetR.typeIs Rb) PySem.F.slot_set_ne ?_ hu
    refine wpAny_call_entry PySem.F.slot_set_ne (SetR.typeIs R) entry_s_ne ?_ (PySem.F.args_set_ne_2 _ _)
    unfold Builtin.«frozenset.__ne__»
    refine wpAny_bind (m := Builtin.Frozenset.slot1 "__ne__" _) (wpAny_of_eq (a := ((.ref a : Value), (.ref b : Value))) (by rfl) ?_)
    dsimp only
    refine wpAny_bind (isSet_of (SetR.typeIs Rb) ?_)
    simp only [Bool.not_true, Bool.false_eq_true, if_false]
    refine wpAny_bind (m := Builtin.Frozenset.addrOf _) (wpAny_pure ?_)
    refine wpAny_bind (m := Builtin.Frozenset.addrOf _) (wpAny_pure ?_)
    refine wpAny_bind (size_of R ?_)
    refine wpAny_bind (size_of Rb ?_)
    refine wpAny_bind ?_
    by_cases h0 : n = 0
    · subst h0
      simp only [bne_self_eq_false, Bool.false_eq_true, if_false]
      refine wpAny_bind (wpAny_bind (wpAny_isInstance (SetR.typeIs R) sub_set_frozenset (wpAny_pure ?_)))
      simp only [Bool.false_eq_true, if_false]
      exact subset0 R Rb (wpAny_pure ⟨_, rfl, (fun z => by cases z), hQ⟩)
    · have e : (n != 0) = true := by simp [h0]
      rw [e, if_pos rfl]
      refine wpAny_pure (wpAny_pure ⟨_, rfl, (fun z => by cases z), ?_⟩)
      rw [decide_eq_false h0] at hQ
      exact hQ
end
end J
namespace J
open PySem PySem.Spec L2 PyProof.Rows
theorem eraseDups_le_n : ∀ (n : Nat) (l : List Int), l.length ≤ n → l.eraseDups.length ≤ l.length
  | _, [], _ => by simp
  | 0, _ :: _, h => by simp at h
  | n + 1, x :: l, h => by
    rw [List.eraseDups_cons, List.length_cons, List.length_cons]
    have h1 := List.length_filter_le (fun b => !(b == x)) l
    have h2 := eraseDups_le_n n (l.filter fun b => !(b == x)) (Nat.le_trans h1 (by simpa using h))
    omega
theorem eraseDups_le (l : List Int) : l.eraseDups.length ≤ l.length := eraseDups_le_n _ l (Nat.le_refl _)
section
variable {X : Cx} {W : WX}
def rSetIt (K : PySem.W.Frag) (w : World) : List V → Hp → VK → Prop := fun xs H Q => ∃ (l : Addr) (ks : List Int), xs = [V.ref l] ∧ SqT K H l (ks.map V.int) ∧ ks.length < 64 ∧
  ∀ S, H S = none → Q (.ref S) (upd H S (SetO w S (fun j => decide (j ∈ ks)) ks.eraseDups.length))
theorem cr_setIt (hc : X.calm = true) : CallR X (.type "set") (rSetIt X.K X.w) := by
  intro pins s σ H xs us Q I r h
  obtain ⟨l, ks, rfl, hl, hf, q⟩ := h
  rw [Vals.ref1 r]
  obtain ⟨its, rv, pl, hz⟩ := I.tuple hl
  have fr : H s.heap.objs.size = none := I.hok.fresh (Nat.le_refl _)
  refine call_set_tupI (P := X.prog) (w := X.w) ks (I.ok.hd hc) pl (by simpa using intsAre_of rv) (show ks.length + 1 < 4096 by omega) fun h' tk m R hm k => ?_
  obtain rfl := set_card R
  have I2 := I.laid (t' := tk) (o := SetO X.w s.heap.objs.size (fun j => decide (j ∈ ks)) ks.eraseDups.length) k (Nat.le_refl _) (setO_new R)
  exact ⟨.ref s.heap.objs.size, _, I2, rfl, q _ fr⟩
/-- the rest of one set behind another -/
def rSubS (w : World) : R2 := fun x y H Q => ∃ (a b : Addr) (S T : Int → Bool) (n m : Nat), x = .ref a ∧ y = .ref b ∧ H a = some (SetO w a S n) ∧ H b = some (SetO w b T m) ∧ n / 4 ≤ m ∧ n < 64 ∧
  ∀ p k, H p = none → (k = 0 ↔ ∀ j, S j = true → T j = true) → Q (.ref p) (upd H p (SetO w p (fun j => S j && !T j) k))
theorem or_subS : OpR X (binaryOp .Sub) (rSubS X.w) := by
  intro pins s σ H x y v u Q I rx ry ⟨a, b, S, T, n, m, ex, ey, ha, hb, h1, h2, q⟩
  subst ex ey
  cases rx
  cases ry
  have fr : H s.heap.objs.size = none := I.hok.fresh (Nat.le_refl _)
  refine sub_sets (setO_get I ha) (setO_get I hb) h1 h2 fun h' d k hk r kp => ?_
  refine ⟨.ref s.heap.objs.size, upd H s.heap.objs.size (SetO X.w s.heap.objs.size (fun j => S j && !T j) k), ?_, rfl, q _ k fr ?_⟩
  · exact I.call' (s' := { s with heap := h', drawn := d }) (ch := []) rfl (Un.laid kp (Nat.le_refl _) fr) (I.hok.laid kp (Nat.le_refl _) (setO_new r)) I.bare (fun _ z => nomatch z)
  · obtain ⟨o, es, ep, t, ho, hex, hd, g, nd, hm, hb, hf, hn, hr, hl⟩ := r
    constructor
    · intro z j hj
      rw [z] at hn
      have e1 : es = #[] := Array.eq_empty_of_size_eq_zero hn
      subst e1
      have := (hm j).mp
      cases hT : T j with
      | true => rfl
      | false => simp [hj, hT] at this
    · intro z
      have e : es.toList = [] := by
        cases he : es.toList with
        | nil => rfl
        | cons e l =>
          have := (hm (keyOf e)).mpr (by rw [he]; simp)
          rw [Bool.and_eq_true] at this
          rw [z _ this.1] at this
          simp at this
      rw [← hn, ← Array.length_toList, e]
      rfl
def rCmp0 (w : World) (ne : Bool) : R2 := fun x y H Q => ∃ (a b : Addr) (S : Int → Bool) (n : Nat), x = .ref a ∧ y = .ref b ∧ H a = some (SetO w a S n) ∧ H b = some (SetO w b (fun _ => false) 0) ∧ Q (.bl (if ne = true then !decide (n = 0) else decide (n = 0))) H
def opSE (ne : Bool) : CmpOp := if ne = true then .NotEq else .Eq
theorem or_cmp0 {k : Nat} {ne : Bool} (hr : Room k X.A) : OpR X (compareOp (opSE ne)) (rCmp0 X.w ne) := by
  intro pins s σ H x y v u Q I rx ry ⟨a, b, S, n, ex, ey, ha, hb, q⟩
  subst ex ey
  cases rx
  cases ry
  have key := cmp_sets (P := X.prog) (E := X.xe) (ne := ne) hr.units0 (setO_get I ha) (setO_get I hb) (Q := EP X pins σ Q) ⟨.bl (if ne = true then !decide (n = 0) else decide (n = 0)), H, I, rfl, q⟩
  cases ne
  · exact key
  · exact key
def tupN : VV → Option (List Int)
  | .tup xs => intL xs
  | _ => none
def subV (ne : Bool) (ks ls : List Int) : Bool := if ne = true then !(ks.all fun k => decide (k ∈ ls)) else ks.all fun k => decide (k ∈ ls)
def opSubs (ne : Bool) : Op2 := fun _ v w => match tupN v, tupN w with
  | some ks, some ls => if ks.length < 64 ∧ ls.length < 64 ∧ ks.eraseDups.length / 4 ≤ ls.eraseDups.length then some (.bl (subV ne ks ls)) else none
  | _, _ => none
theorem tupN_get {c : Ct} {g : Gh} {H : Hp} {v : VV} {u : V} {ks : List Int} (r : RT c g H v u) (e : tupN v = some ks) : ∃ p, u = .ref p ∧ H p = some (.tup (ks.map V.int)) := by
  cases v with
  | tup xs =>
    have q := r.rv rfl
    rw [RV] at q
    obtain ⟨p, us, eu, ta, rvs⟩ := q
    obtain rfl := intL_vals rvs e
    exact ⟨p, eu, ta⟩
  | _ => cases e
theorem subs_run {ne : Bool} {j : Nat} {fa : EF} {σ : L2.St} {H : Hp} {Q : VK} {x : Str} (h : tE (ct X) W (eBin (opSubs ne) fa (eVar j)) σ H Q) :
    tOp (rCmp0 X.w ne) (tOp (rSubS X.w) (tCB (rSetIt X.K X.w) (fun σ H Q => tE (ct X) W fa σ H fun v H1 => Q [v] H1)) (tCB (rSetIt X.K X.w) (fun σ H Q => tVar j σ H fun v H1 => Q [v] H1))) (fun σ H Q => rSet0 X.w [] H Q) σ H Q := by
  obtain ⟨g, ρ, h0, rh, rs, pp⟩ := h
  refine ⟨g, ρ, h0, rh, rs, ?_⟩
  unfold eBin at pp
  refine (Pst.bind (R := RT (ct X)) pp).imp fun u H1 ⟨g1, v, h1, st, rh1, rv1, p1⟩ => ?_
  unfold eVar at p1
  split at p1
  case h_2 => exact p1.elim
  rename_i wv ew
  have rs1 := rs.stp st
  obtain ⟨u2, a2, r2⟩ := rs1.get j wv ew
  simp only [Res.bind] at p1
  unfold lift opSubs at p1
  cases e1 : tupN v with
  | none => rw [e1] at p1; exact p1.elim
  | some ks =>
    cases e2 : tupN wv with
    | none => rw [e1, e2] at p1; exact p1.elim
    | some ls =>
      rw [e1, e2] at p1
      simp only at p1
      by_cases cc : ks.length < 64 ∧ ls.length < 64 ∧ ks.eraseDups.length / 4 ≤ ls.eraseDups.length
      · rw [if_pos cc] at p1
        obtain ⟨c1, c2, c3⟩ := cc
        obtain ⟨p, rfl, tp⟩ := tupN_get rv1 e1
        obtain ⟨p2, rfl, tp2⟩ := tupN_get r2 e2
        refine ⟨p, ks, rfl, .inl (.inl tp), c1, fun S hS => ?_⟩
        have rhS := rh1.junk (o := SetO X.w S (fun j => decide (j ∈ ks)) ks.eraseDups.length) hS
        have stS : Stp g1 H1 g1 (upd H1 S (SetO X.w S (fun j => decide (j ∈ ks)) ks.eraseDups.length)) := .junk rh1 hS
        have hSs : upd H1 S (SetO X.w S (fun j => decide (j ∈ ks)) ks.eraseDups.length) S = some (SetO X.w S (fun j => decide (j ∈ ks)) ks.eraseDups.length) := upd_same
        have tp3 := stS.tp _ _ tp2
        have p2' := Pst.step stS p1
        clear p1 stS
        revert rhS hSs tp3 p2'
        generalize upd H1 S (SetO X.w S (fun j => decide (j ∈ ks)) ks.eraseDups.length) = H2
        intro rhS hSs tp3 p2'
        refine ⟨.ref p2, a2, p2, ls, rfl, .inl (.inl tp3), c2, fun S2 hS2 => ?_⟩
        have rhS2 := rhS.junk (o := SetO X.w S2 (fun j => decide (j ∈ ls)) ls.eraseDups.length) hS2
        have stS2 : Stp g1 H2 g1 (upd H2 S2 (SetO X.w S2 (fun j => decide (j ∈ ls)) ls.eraseDups.length)) := .junk rhS hS2
        have ne2 : S ≠ S2 := fun z => by rw [z, hS2] at hSs; cases hSs
        have hSs2 : upd H2 S2 (SetO X.w S2 (fun j => decide (j ∈ ls)) ls.eraseDups.length) S = some (SetO X.w S (fun j => decide (j ∈ ks)) ks.eraseDups.length) := by rw [upd_ne ne2]; exact hSs
        have hS22 : upd H2 S2 (SetO X.w S2 (fun j => decide (j ∈ ls)) ls.eraseDups.length) S2 = some (SetO X.w S2 (fun j => decide (j ∈ ls)) ls.eraseDups.length) := upd_same
        have p3 := Pst.step stS2 p2'
        clear p2' stS2
        revert rhS2 hSs2 hS22 p3
        generalize upd H2 S2 (SetO X.w S2 (fun j => decide (j ∈ ls)) ls.eraseDups.length) = H3
        intro rhS2 hSs2 hS22 p3
        refine ⟨S, S2, _, _, _, _, rfl, rfl, hSs2, hS22, c3, Nat.lt_of_le_of_lt (eraseDups_le ks) c1, fun P k hP hk => ?_⟩
        have rhP := rhS2.junk (o := SetO X.w P (fun j => decide (j ∈ ks) && !decide (j ∈ ls)) k) hP
        have stP : Stp g1 H3 g1 (upd H3 P (SetO X.w P (fun j => decide (j ∈ ks) && !decide (j ∈ ls)) k)) := .junk rhS2 hP
        have hPP : upd H3 P (SetO X.w P (fun j => decide (j ∈ ks) && !decide (j ∈ ls)) k) P = some (SetO X.w P (fun j => decide (j ∈ ks) && !decide (j ∈ ls)) k) := upd_same
        have p4 := Pst.step stP p3
        clear p3 stP
        revert rhP hPP p4
        generalize upd H3 P (SetO X.w P (fun j => decide (j ∈ ks) && !decide (j ∈ ls)) k) = H4
        intro rhP hPP p4
        refine ⟨rfl, fun Z hZ => ?_⟩
        have neZ : P ≠ Z := fun z => by rw [z, hZ] at hPP; cases hPP
        refine ⟨P, Z, _, k, rfl, rfl, (by rw [upd_ne neZ]; exact hPP), upd_same, ?_⟩
        have stZ : Stp g1 H4 g1 (upd H4 Z (SetO X.w Z (fun _ => false) 0)) := .junk rhP hZ
        have e : subV ne ks ls = (if ne = true then !decide (k = 0) else decide (k = 0)) := by
          have z : (ks.all fun k => decide (k ∈ ls)) = decide (k = 0) := by
            rw [Bool.eq_iff_iff, List.all_eq_true, decide_eq_true_eq, hk]
            simp
          unfold subV
          rw [z]
        rw [e] at p4
        exact p4 g1 _ _ stZ (rhP.junk hZ) rt_bl
      · rw [if_neg cc] at p1; exact p1.elim
theorem jt_setSub {ne : Bool} {a b : Expr} {j k : Nat} {fa : EF} {p1 p2 p3 q1 q2 q3 q4 q5 : Pos} (hr : Room k X.A) (hc : X.calm = true) (g2 : Gl X "set") (m2 : X.mg "set" = none) (ha : PE X a (tE (ct X) W fa)) (hb : PE X b (tVar j))
    (s1 : starEach [a] X.env = (false, eval a X.env) :: starEach [] X.env := by rfl) (s2 : starEach [b] X.env = (false, eval b X.env) :: starEach [] X.env := by rfl) (w1 : (backTo q1 (starEach [] X.env)).any (·.1) = false := by rfl) (w2 : (backTo q2 (starEach [] X.env)).any (·.1) = false := by rfl) (hm : behindInMarks (opSE ne) (.Call (.Name "set" p3) [] [] q5) = false := by rfl) :
    PT X (.Compare (.BinOp (.Call (.Name "set" p1) [a] [] q1) .Sub (.Call (.Name "set" p2) [b] [] q2) q3) [opSE ne] [.Call (.Name "set" p3) [] [] q5] q4) (tT (ct X) W (tVal (eBin (opSubs ne) fa (eVar j)))) :=
  PT.mono (pt_cmpR (or_cmp0 (ne := ne) hr) (pe_op or_subS (pe_callTy (T := "set") (cr_setIt (X := X) hc) g2 m2 rfl (pa_cons ha pa_nil s1) (by decide) (by decide) s1 w1) (pe_callTy (T := "set") (cr_setIt (X := X) hc) g2 m2 rfl (pa_cons hb pa_nil s2) (by decide) (by decide) s2 w2)) (pe_callTy0 (T := "set") cr_set0 g2 m2 rfl (by decide) (by decide)) hm) fun σ H Q h => subs_run (x := "") (tVal_of h)
end
end J
namespace J
open PySem L2
/-! len(x) by the class's own __len__; isinstance(x, own class) -/
def lenR (cn : Str) (F : FF) (v : VV) (h1 : VH) : Res VV := match insOf h1 v with
  | some a => if a.1 = cn then (noX (F [v] h1)).bind fun r h2 => (match r with
    | .int n => if 0 ≤ n ∧ n < 1000000 then .ok (.int n) h2 else .no
    | _ => .no) else .no
  | none => .no
def eLenOwn (cn : Str) (F : FF) (fa : EF) : EF := fun ρ h => (fa ρ h).bind fun v h1 => lenR cn F v h1
/-- is a thing of this kind one of C? -/
def isiK (h : VH) (cn : Str) (cs : List Str) (v : VV) : Option Bool := match insOf h v with
  | some a => if a.1 = cn then some true else if a.1 ∈ cs then some false else none
  | none => match v with
    | .non => some false
    | .int _ => some false
    | .str _ => some false
    | .tup _ => some false
    | .lst _ => some false
    | .dK _ _ => some false
    | _ => none
def eIsiC (cn : Str) (cs : List Str) (fa : EF) : EF := fun ρ h => (fa ρ h).bind fun v h1 => lift ((isiK h1 cn cs v).map .bl) h1
end J
namespace J
open PySem L2
/-! == and != of dicts with ints as values -/
section
variable {X : Cx} {W : WX}
/-! for k, v in d.items() -/
def iItemsK (f : EF) : AF := fun ρ h => (f ρ h).bind fun v h1 => match v with
  | .dK ks vs => .ok ((ks.zip vs).map fun p => .tup [keyB p.1, p.2]) h1
  | _ => .no
end
end J
namespace J
open PySem L2
/-! list(range(n)), as data -/
def eListRng (f : EF) : EF := fun ρ h => (f ρ h).bind fun v h1 => match v with
  | .int n => if 0 ≤ n ∧ n ≤ SZ then .ok (.lst (rngV 0 n.toNat)) h1 else .no
  | _ => .no
end J
namespace J
open PySem L2
variable {ρ : VSt} {h h' : VH}
theorem a_own {ne c F fa fb} : eOwn ne c F fa fb ρ h = bnd (fa ρ h) (fun v h1 => bnd (fb ρ h1) (fun w h2 => ownR ne c F v w h2) (tg _)) (tg _) := nr rfl
theorem a_lenOwn {c F fa} : eLenOwn c F fa ρ h = bnd (fa ρ h) (fun v h1 => lenR c F v h1) (tg _) := nr rfl
theorem a_isiC {c cs fa} : eIsiC c cs fa ρ h = bnd (fa ρ h) (fun v h1 => lift ((isiK h1 c cs v).map .bl) h1) (tg _) := nr rfl
theorem a_items {fa} : iItemsK fa ρ h = bnd (fa ρ h) (fun v h1 => match v with
  | .dK ks vs => .ok ((ks.zip vs).map fun p => VV.tup [keyB p.1, p.2]) h1
  | _ => .no) (tg _) := nr rfl
theorem a_methX {cn m n F dws fo fa} : eMethX cn m n F dws fo fa ρ h = bnd (fo ρ h) (fun v h1 => methC cn m (insOf h1 v) (bnd (fa ρ h1) (fun vs h2 => if (v :: (vs ++ dws)).length = n then F (v :: (vs ++ dws)) h2 else .no) (tg _))) (tg _) := by
  unfold eMethX
  show Res.bind _ _ = Res.bind _ _
  congr 1
theorem a_makeX {cn n F dws fa} : eMakeX cn n F dws fa ρ h = bnd (fa ρ h) (fun vs h1 => if (VV.obj h1.length :: (vs ++ dws)).length = n then mkX h1.length (F (.obj h1.length :: (vs ++ dws)) (h1 ++ [.ins cn [] []])) else .no) (tg _) := nr rfl
theorem fin_exc {x ns vs} {n : Nat} : (SR.exc x ns vs ρ h).fin n = .exc x ns vs h := nr rfl
def lrD (v : VV) (h1 : VH) : Res VV := match v with
  | .int n => if 0 ≤ n ∧ n ≤ SZ then .ok (.lst (rngV 0 n.toNat)) h1 else .no
  | _ => .no
theorem a_listRng {f} : eListRng f ρ h = bnd (f ρ h) lrD (tg _) := nr rfl
theorem lrD_int {n : Int} : lrD (.int n) h = if 0 ≤ n ∧ n ≤ SZ then .ok (.lst (rngV 0 n.toNat)) h else .no := nr rfl
end J
namespace J
open PySem L2
/-! {k: v, l: w} with tuples as keys -/
section
variable {X : Cx} {W : WX}
theorem d_setT {pins : List (Addr × Obj)} {σ : St} {H H' : Hp} {s : Shared} {a : Addr} {y v : V} {u r : Value} {A : Around} {E : Value → Shared → Prop} {Q : Unit → Shared → Prop} (hu : A.units < cLine) (I : Inv X pins σ H s) (ht : ∃ kvs, H a = some (.dT kvs)) (g : DPut H a y v H') (ry : RelV y u) (rv : RelV v r) (h : ∀ s', Inv X pins σ H' s' → Q () s') :
    wpAny (model X.prog X.w) A (dictSet a u r) Q E s := by
  obtain ⟨kv0, ht⟩ := ht
  rcases g with ⟨kvs, k, e, ey, l, eH⟩ | ⟨kvs, k, b, e, ey, eb, l, eH⟩
  · rw [ht] at e; cases e
  · subst ey eH
    cases (show u = Value.ref b from ry)
    obtain ⟨z, hd, xs, rel, dd⟩ := dt_of I.hok e
    have hz : xs.length ≤ sizeLine := by rw [← Paired.length rel]; exact z
    have hl : (putK kvs k v).length ≤ sizeLine := by have := length_putK kvs k v; omega
    refine wpAny_dictSet_heap (hsz := hz) (knd := tupleKind (mixKind X.prog X.w)) hu (key_of I.hok eb) dd fun h' dd' hs => h _ ?_
    obtain ⟨q, es, ep, hq, h2, h3, h4, _, h5⟩ := dd'
    exact d_write I (by rw [e]; exact True.intro) hs ⟨q, hq⟩ ⟨hl, hd, _, (rel.put k eb rv).keeps (fun c ys ec => by rw [upd_ne (ne_of ec e (fun z => nomatch z))]; exact ec), q, es, ep, hq, h2, h3, h4, h5⟩
def tDispT (t1 t2 t3 t4 : TE) : TE := fun σ H Q => ∀ p, H p = none → tPairs [(t1, t2), (t3, t4)] σ (upd H p (.dT [])) fun ps H4 =>
  ∃ x1 y1 x2 y2 H5 H6, ps = [(x1, y1), (x2, y2)] ∧ (∃ kvs, H4 p = some (.dT kvs)) ∧ DPut H4 p x1 y1 H5 ∧ (∃ kvs, H5 p = some (.dT kvs)) ∧ DPut H5 p x2 y2 H6 ∧ Q (.ref p) H6
theorem pe_dispT {k1 v1 k2 v2 : Expr} {t1 t2 t3 t4 : TE} {pos : Pos} (hu : X.A.units + 1 < cLine) (a1 : PE X k1 t1) (a2 : PE X v1 t2) (a3 : PE X k2 t3) (a4 : PE X v2 t4) : PE X (.Dict [some k1, some k2] [v1, v2] pos) (tDispT t1 t2 t3 t4) := by
  refine ⟨fun pins s σ H Q I q => ?_⟩
  have hn := I.hok.fresh (Nat.le_refl s.heap.objs.size)
  have I1 := I.laid (a := s.heap.objs.size) (o := .dT []) (h' := s.heap.push { cls := .type "dict", data := .dict #[] }) (t' := s.toks) (fun _ _ q => Heap.get?_push_of_some _ q) (Nat.le_refl _) (dt_empty s.heap I.big)
  rw [arm_eval_Dict, zip_pairTrees [some k1, some k2] [v1, v2] X.env pos rfl rfl, dictDisplay_pairs (pairTrees [some k1, some k2] [v1, v2] X.env pos) (by simp [pairTrees]) (by simp [pairTrees])]
  refine wpAny_bind (wpAny_standAt (wpAny_bind ?_))
  unfold subDict
  refine wpAny_bind (wpAny_alloc ?_)
  refine wpAny_bind (wpAny_holding ?_)
  rw [if_pos (by simp [pairTrees])]
  have g := (pps_cons (pos := pos) a1 a2 (pps_cons a3 a4 pps_nil)).run pins _ σ _ _ I1 (q _ hn)
  refine wpAny_bind (thn g fun ws s2 ⟨ps, H2, I2, rel, x1, y1, x2, y2, H5, H6, ep, b1, b2, b3, b4, b5⟩ => ?_)
  subst ep
  refine wpAny_holding ?_
  cases rel with
  | @cons p1 q1 _ _ r1 rel =>
    cases rel with
    | @cons p2 q2 _ _ r2 rel =>
      cases rel
      rw [List.forIn_cons]
      refine wpAny_bind (wpAny_bind (wpAny_bind (d_setT (by omega) I2 b1 b2 r1.1 r1.2 fun s3 I3 => wpAny_pure ?_)))
      show wpAny _ _ (forIn _ _ _) _ _ _
      rw [List.forIn_cons]
      refine wpAny_bind (wpAny_bind (d_setT (by omega) I3 b3 b4 r2.1 r2.2 fun s4 I4 => wpAny_pure ?_))
      show wpAny _ _ (forIn _ _ _) _ _ _
      rw [List.forIn_nil]
      exact wpAny_pure (wpAny_pure (wpAny_pure (wpAny_pure ⟨.ref s.heap.objs.size, _, I4, rfl, b5⟩)))
def eDispT (f1 f2 f3 f4 : EF) : EF := fun ρ h => (f1 ρ (h ++ [.dT [] []])).bind fun k1 h1 => (f2 ρ h1).bind fun v1 h2 => (f3 ρ h2).bind fun k2 h3 => (f4 ρ h3).bind fun v2 h4 =>
  match setD h4 (.obj h.length) k1 v1 with
  | some h5 => match setD h5 (.obj h.length) k2 v2 with
    | some h6 => .ok (.obj h.length) h6
    | none => .no
  | none => .no
theorem setD_is {c : Ct} {g : Gh} {h h' : VH} {H : Hp} {o i v : VV} {uo : V} (rh : RH c g h H) (ro : RT c g H o uo) (e : setD h o i v = some h') : ∃ a kvs, uo = .ref a ∧ H a = some (.dT kvs) := by
  unfold setD at e
  split at e
  · rename_i n
    split at e
    · rename_i ks vs en
      obtain ⟨a, ea, eo⟩ := ro
      obtain ⟨nz, us, hl, ln, rvs⟩ := rh.at' n _ a en ea
      exact ⟨a, _, eo, hl⟩
    · cases e
  · cases e
theorem j_dispT {k1 v1 k2 v2 : Expr} {f1 f2 f3 f4 : EF} {pos : Pos} {k : Nat} (hr : Room k X.A) (a1 : PE X k1 (tE (ct X) W f1)) (a2 : PE X v1 (tE (ct X) W f2)) (a3 : PE X k2 (tE (ct X) W f3)) (a4 : PE X v2 (tE (ct X) W f4)) : PE X (.Dict [some k1, some k2] [v1, v2] pos) (tE (ct X) W (eDispT f1 f2 f3 f4)) :=
  PE.mono (pe_dispT (by have := hr.units; omega) a1 a2 a3 a4) fun σ H Q ⟨g, ρ, h, rh, rs, p⟩ q hq => by
    have st : Stp g H g (upd H q (.dT [])) := .junk rh hq
    have rh1 : RH (ct X) g h (upd H q (.dT [])) := rh.junk hq
    have nq : q ∉ g.io := fun z => by
      obtain ⟨o, e⟩ := rh.root z
      rw [hq] at e; cases e
    have st1 : Stp g H (g.add q) (upd H q (.dT [])) := st.trans .add
    have rh2 : RH (ct X) (g.add q) (h ++ [.dT [] []]) (upd H q (.dT [])) := rh1.add nq (fun z => by obtain ⟨o, e⟩ := rh.kp q z; rw [hq] at e; cases e) ⟨fun z => (by obtain ⟨o, e⟩ := rh.fz q z; rw [hq] at e; cases e), [], upd_same, rfl, RVs.nil⟩
    have ro : RT (ct X) (g.add q) (upd H q (.dT [])) (.obj h.length) (.ref q) := ⟨q, by show (g.io ++ [q])[h.length]? = some q; rw [← rh.len, List.getElem?_append_right (Nat.le_refl _), Nat.sub_self]; rfl, rfl⟩
    have p0 := Pst.step st1 p
    refine ⟨g.add q, ρ, _, rh2, rs.stp st1, (Pst.bind (R := RT (ct X)) p0).imp fun x1 H1 ⟨g1, k1, h1, s1, r1, t1, p1⟩ => ?_⟩
    refine ⟨g1, ρ, h1, r1, (rs.stp st1).stp s1, (Pst.bind (R := RT (ct X)) p1).imp fun y1 H2 ⟨g2, v1, h2, s2, r2, t2, p2⟩ => ?_⟩
    refine ⟨g2, ρ, h2, r2, ((rs.stp st1).stp s1).stp s2, (Pst.bind (R := RT (ct X)) p2).imp fun x2 H3 ⟨g3, k2, h3, s3, r3, t3, p3⟩ => ?_⟩
    refine ⟨g3, ρ, h3, r3, (((rs.stp st1).stp s1).stp s2).stp s3, (Pst.bind (R := RT (ct X)) p3).imp fun y2 H4 ⟨g4, v2, h4, s4, r4, t4, p4⟩ => ?_⟩
    have o4 := ((((ro.stp s1).stp s2).stp s3).stp s4)
    cases e1 : setD h4 (.obj h.length) k1 v1 with
    | none => simp only [e1] at p4; exact p4.elim
    | some h5 =>
      simp only [e1] at p4
      cases e2 : setD h5 (.obj h.length) k2 v2 with
      | none => simp only [e2] at p4; exact p4.elim
      | some h6 =>
        simp only [e2] at p4
        obtain ⟨_, w1, z1, y1'⟩ := setD_is r4 o4 e1
        cases z1
        obtain ⟨_, H5, z3, d5, s5, r5⟩ := setD_ok r4 o4 (((t1.stp s2).stp s3).stp s4) ((t2.stp s3).stp s4) e1 (fun H5 => Stp g4 H4 g4 H5 ∧ RH (ct X) g4 h5 H5) fun H' st' rh' => ⟨st', rh'⟩
        cases z3
        obtain ⟨_, w2, z2, y2'⟩ := setD_is r5 (o4.stp s5) e2
        cases z2
        obtain ⟨_, H6, z4, d6, s6, r6⟩ := setD_ok r5 (o4.stp s5) ((t3.stp s4).stp s5) (t4.stp s5) e2 (fun H6 => Stp g4 H5 g4 H6 ∧ RH (ct X) g4 h6 H6) fun H' st' rh' => ⟨st', rh'⟩
        cases z4
        exact ⟨x1, y1, x2, y2, H5, H6, rfl, ⟨w1, y1'⟩, d5, ⟨w2, y2'⟩, d6, p4 g4 H6 _ (s5.trans s6) r6 ((o4.stp s5).stp s6)⟩
/-! a tuple in a tuple of tuples -/
def opInT (ne : Bool) : Op2 := fun _ x y => match y with
  | .tup xs => (intsV x).bind fun k => (tupsOf xs).map fun ks => .bl (ne ^^ decide (k ∈ ks))
  | _ => none
theorem opInT_ok {c : Ct} {g : Gh} {h : VH} {H : Hp} {v w r : VV} {x y : V} {ne : Bool} (rv : RT c g H v x) (rw' : RT c g H w y) (e : opInT ne h v w = some r) :
    ∃ d ds, Dp c.K H x d ∧ Dp c.K H y (.tuple ds) ∧ SeqAt.shaped d = true ∧ SeqAt.shaped (.tuple ds) = true ∧ r = .bl (ne ^^ ds.any fun z => PyData.eqv z d) := by
  unfold opInT at e
  split at e
  · rename_i xs
    obtain ⟨k', e1, e2⟩ := Option.bind_eq_some_iff.mp e
    obtain ⟨ks, e3, e4⟩ := Option.map_eq_some_iff.mp e2
    have ek := intsV_inv e1
    have ex := tupsOf_inv e3
    subst ex ek e4
    have d1 := dp_of _ _ (rv.rv (by rfl)) (isD_tupI k')
    have d2 := dp_of _ _ (rw'.rv (by rfl)) (by rw [isD]; exact isDs_tups ks)
    have s1 := shaped_tupI k'
    have s2 := shaped_tups ks
    rw [toD_tupI] at d1
    rw [toD, toDs_tups] at d2
    rw [toD_tupI] at s1
    rw [toD, toDs_tups] at s2
    have s3 : SeqAt.shaped (.tuple (ks.map fun k => .tuple (k.map PyData.int))) = true := by
      unfold SeqAt.shaped at s2 ⊢
      simp only [PyData.canLay0, PyData.depth] at s2 ⊢
      exact s2
    refine ⟨_, _, d1, d2, s1, s3, ?_⟩
    rw [List.any_map]
    refine congrArg (fun b => VV.bl (ne ^^ b)) (Eq.trans ?_ (congrArg ks.any (funext fun n => (eqv_tups n k').symm)))
    refine Eq.trans ?_ (any_dec k' ks).symm
    congr
  · cases e
theorem or_notInT {k : Nat} (hr : Room k X.A) : OpR X (compareOp .NotIn) (Rd2 (ct X) (opInT true)) := by
  intro pins s σ H x y v u Q I rx ry ⟨g, h, v', w', r, rh, rv, rw', e, kk⟩
  obtain ⟨d, ds, hd, he, sd, se, rfl⟩ := opInT_ok rv rw' e
  obtain ⟨as, r1⟩ := Dp.reads I d x v hd rx
  obtain ⟨bs, r2⟩ := Dp.reads I (.tuple ds) y u he ry
  refine SeqAt.notIn_tuple_reads r2 r1 (SeqAt.canLay_of_shaped se) (SeqAt.canLay_of_shaped sd) (PyProof.Rows.room_in_shaped sd (by have := hr.un; omega)) ⟨.bl _, H, I, rfl, ?_⟩
  rw [Bool.true_xor] at kk
  exact kk g H _ .refl rh rt_bl
end
end J
namespace J
open PySem L2
variable {ρ : VSt} {h h' : VH}
def dispR (n : Nat) (k1 v1 k2 v2 : VV) (h4 : VH) : Res VV := match setD h4 (.obj n) k1 v1 with
  | some h5 => match setD h5 (.obj n) k2 v2 with
    | some h6 => .ok (.obj n) h6
    | none => .no
  | none => .no
theorem a_dispT {f1 f2 f3 f4} : eDispT f1 f2 f3 f4 ρ h = bnd (f1 ρ (h ++ [.dT [] []])) (fun k1 h1 => bnd (f2 ρ h1) (fun v1 h2 => bnd (f3 ρ h2) (fun k2 h3 => bnd (f4 ρ h3) (fun v2 h4 => dispR h.length k1 v1 k2 v2 h4) (tg _)) (tg _)) (tg _)) (tg _) := nr rfl
theorem inT_tups {ne : Bool} {k : List Int} {ks : List (List Int)} : opInT ne h (tupI k) (.tup (ks.map tupI)) = some (.bl (ne ^^ decide (k ∈ ks))) := by
  unfold opInT
  simp only
  rw [intsV_tupI, tupsOf_map]
  rfl
end J
namespace L
open PySem L2 J
abbrev lb_law_box_1 : SF :=
    (sSet 1 (eBin opMod (eBin opAdd (eBin opAdd (eBin opMul (eVar 1) (eC (.int 31))) (eVar 2)) (eC (.int 17))) (eC (.int 2147483647))))
def B_law_box : SF :=
    (sSeq (sSet 1 (eC (.int 0)))
    (sSeq (sFor (iSeq (eSl opSl (eVar 0) oNone (oSome (eC (.int 63))))) (bNm 2) lb_law_box_1)
    (sRet (eLstO (aCons (eCall cList (aCons (eSl opSl (eVar 0) oNone (oSome (eC (.int 63)))) aNil)) (aCons (eC (.int 0)) (aCons (eC (.int 0)) (aCons (eC (.int 0)) (aCons (eVar 1) aNil)))))))))
def F_law_box : FF := fnF 3 B_law_box
def B_law_mixed : SF :=
    (sSeq (sSet 2 (eBin opMod (eBin opAdd (eBin opAdd (eBin opMul (eVar 0) (eC (.int 48271))) (eBin opMul (eVar 1) (eC (.int 69621)))) (eC (.int 12345))) (eC (.int 2147483647))))
    (sSeq (sSet 3 (eBin opMod (eBin opAdd (eBin opAdd (eBin opMul (eVar 2) (eBin opAdd (eBin opMod (eVar 2) (eC (.int 65521))) (eC (.int 7)))) (eBin opMul (eVar 1) (eC (.int 40692)))) (eBin opMod (eVar 0) (eC (.int 104729)))) (eC (.int 998244353))))
    (sRet (eBin opFdiv (eVar 3) (eC (.int 7))))))
def F_law_mixed : FF := fnF 4 B_law_mixed
def B_law_take : SF :=
    (sSeq (sSetI (eVar 0) (eC (.int 3)) (eBin opAdd (eBin opIx (eVar 0) (eC (.int 3))) (eC (.int 1))))
    (sSeq (sIf (tVal (eBin opGt (eBin opIx (eVar 0) (eC (.int 2))) (eC (.int 0)))) (sSeq (sSet 3 (eBin opIx (eVar 0) (eC (.int 2))))
    (sSeq (sSetI (eVar 0) (eC (.int 2)) (eBin opFdiv (eVar 3) (eVar 1)))
    (sRet (eBin opMod (eVar 3) (eVar 1))))) sSkip)
    (sSeq (sIf (tVal (eBin opGe (eBin opIx (eVar 0) (eC (.int 1))) (eCall cLen (aCons (eBin opIx (eVar 0) (eC (.int 0))) aNil)))) (sRet (eBin opMod (eFn 2 F_law_mixed [] (aCons (eBin opIx (eVar 0) (eC (.int 4))) (aCons (eBin opIx (eVar 0) (eC (.int 3))) aNil))) (eVar 1))) sSkip)
    (sSeq (sSet 2 (eBin opIx (eBin opIx (eVar 0) (eC (.int 0))) (eBin opIx (eVar 0) (eC (.int 1)))))
    (sSeq (sSetI (eVar 0) (eC (.int 1)) (eBin opAdd (eBin opIx (eVar 0) (eC (.int 1))) (eC (.int 1))))
    (sSeq (sIf (tVal (eBin opLt (eVar 2) (eBin opPow (eC (.int 10)) (eC (.int 18))))) (sRet (eBin opMod (eFn 2 F_law_mixed [] (aCons (eVar 2) (aCons (eBin opIx (eVar 0) (eC (.int 3))) aNil))) (eVar 1))) sSkip)
    (sSeq (sSetI (eVar 0) (eC (.int 2)) (eBin opFdiv (eVar 2) (eVar 1)))
    (sRet (eBin opMod (eVar 2) (eVar 1))))))))))
def F_law_take : FF := fnF 4 B_law_take
abbrev lb_law_points_1 : SF :=
    (sExpr (eApp (eVar 3) (ePop (eVar 2) (eFn 2 F_law_take [] (aCons (eVar 0) (aCons (eCall cLen (aCons (eVar 2) aNil)) aNil))))))
def B_law_points : SF :=
    (sSeq (sSet 2 (eListRngO (eC (.int 16))))
    (sSeq (sSet 3 (eLstO aNil))
    (sSeq (sFor (iRange1 (eVar 1)) (bNm 4) lb_law_points_1)
    (sRet (eFrzD (eVar 3))))))
def F_law_points : FF := fnF 5 B_law_points
abbrev lb_law_drawn_face_1 : SF :=
    (sExpr (eApp (eVar 4) (ePop (eVar 3) (eFn 2 F_law_take [] (aCons (eVar 0) (aCons (eCall cLen (aCons (eVar 3) aNil)) aNil))))))
def B_law_drawn_face : SF :=
    (sSeq (sSet 3 (eNewO lList (aCons (eVar 1) aNil)))
    (sSeq (sSet 4 (eLstO aNil))
    (sSeq (sFor (iRange1 (eCall cMin (aCons (eCall cLen (aCons (eVar 3) aNil)) (aCons (eBin opAdd (eC (.int 1)) (eFn 2 F_law_take [] (aCons (eVar 0) (aCons (eBin opAdd (eVar 2) (eC (.int 1))) aNil)))) aNil)))) (bNm 5) lb_law_drawn_face_1)
    (sRet (eCall cTuple (aCons (eFrzD (eVar 4)) aNil))))))
def F_law_drawn_face : FF := fnF 6 B_law_drawn_face
abbrev le_law_drawn_tops_1 : EF :=
    (eFn 3 F_law_drawn_face [] (aCons (eVar 0) (aCons (eVar 4) (aCons (eVar 3) aNil))))
def B_law_drawn_tops : SF :=
    (sSeq (sSet 4 (eFn 2 F_law_points [] (aCons (eVar 0) (aCons (eBin opAdd (eC (.int 1)) (eFn 2 F_law_take [] (aCons (eVar 0) (aCons (eVar 1) aNil)))) aNil))))
    (sRet (eLc [5] (iRange1 (eFn 2 F_law_take [] (aCons (eVar 0) (aCons (eBin opAdd (eVar 2) (eC (.int 1))) aNil)))) (bNm 5) tTrue le_law_drawn_tops_1)))
def F_law_drawn_tops : FF := fnF 6 B_law_drawn_tops
abbrev le_law_subs_1 : EF :=
    (eBin opAdd (eVar 3) (eTup (aCons (eVar 2) aNil)))
abbrev lb_law_subs_1 : SF :=
    (sSet 1 (eBin opAdd (eVar 1) (eLc [3] (iSeq (eVar 1)) (bNm 3) tTrue le_law_subs_1)))
def B_law_subs : SF :=
    (sSeq (sSet 1 (eLst (aCons (eTup aNil) aNil)))
    (sSeq (sFor (iSeq (eCall cSorted (aCons (eVar 0) aNil))) (bNm 2) lb_law_subs_1)
    (sRet (eSl opSl (eVar 1) (oSome (eC (.int 1))) oNone))))
def F_law_subs : FF := fnF 4 B_law_subs
abbrev lb_law_fourwall_1 : SF :=
    (sIf (tVal (eBin opEq (eCall cLen (aCons (eVar 3) aNil)) (eBin opAdd (eVar 1) (eC (.int 1))))) (sExpr (eApp (eVar 2) (eVar 3))) sSkip)
def B_law_fourwall : SF :=
    (sSeq (sSet 2 (eLstO aNil))
    (sSeq (sFor (iSeq (eFn 1 F_law_subs [] (aCons (eVar 0) aNil))) (bNm 3) lb_law_fourwall_1)
    (sRet (eFrzD (eVar 2)))))
def F_law_fourwall : FF := fnF 4 B_law_fourwall
def B_law_small_tops : SF :=
    (sSeq (sSet 1 (eFn 2 F_law_take [] (aCons (eVar 0) (aCons (eC (.int 6)) aNil))))
    (sSeq (sIf (tVal (eBin opLt (eVar 1) (eC (.int 4)))) (sRet (eFn 4 F_law_drawn_tops [] (aCons (eVar 0) (aCons (eC (.int 5)) (aCons (eC (.int 5)) (aCons (eC (.int 3)) aNil)))))) sSkip)
    (sSeq (sIf (tVal (eBin opEq (eVar 1) (eC (.int 4)))) (sRet (eFn 4 F_law_drawn_tops [] (aCons (eVar 0) (aCons (eC (.int 5)) (aCons (eC (.int 8)) (aCons (eC (.int 1)) aNil)))))) sSkip)
    (sRet (eFn 2 F_law_fourwall [] (aCons (eFn 2 F_law_points [] (aCons (eVar 0) (aCons (eBin opAdd (eC (.int 3)) (eFn 2 F_law_take [] (aCons (eVar 0) (aCons (eC (.int 2)) aNil)))) aNil))) (aCons (eBin opAdd (eC (.int 1)) (eFn 2 F_law_take [] (aCons (eVar 0) (aCons (eC (.int 2)) aNil)))) aNil)))))))
def F_law_small_tops : FF := fnF 2 B_law_small_tops
abbrev lb_law_closed_1 : SF :=
    (sSet 1 (eBin opAdd (eVar 1) (eFn 1 F_law_subs [] (aCons (eVar 2) aNil))))
def B_law_closed : SF :=
    (sSeq (sSet 1 (eLst aNil))
    (sSeq (sFor (iSeq (eVar 0)) (bNm 2) lb_law_closed_1)
    (sRet (eCall cSortSet (aCons (eVar 1) aNil)))))
def F_law_closed : FF := fnF 3 B_law_closed
abbrev lb_law_free_1 : SF :=
    (sIf (tVal (eBin opEq (eCall cLen (aCons (eLc [3] (iSeq (eVar 0)) (bNm 3) (tVal (eBin (opSubs false) (eVar 2) (eVar 3))) (eVar 3)) aNil)) (eC (.int 2)))) (sExpr (eApp (eVar 1) (eVar 2))) sSkip)
def B_law_free : SF :=
    (sSeq (sSet 1 (eLstO aNil))
    (sSeq (sFor (iSeq (eVar 0)) (bNm 2) lb_law_free_1)
    (sRet (eFrzD (eVar 1)))))
def F_law_free : FF := fnF 4 B_law_free
abbrev le_is_face_1 : EF :=
    (eChain opLe opLe (eC (.int 0)) (eVar 1) (eC (.int 15)))
def B_is_face : SF :=
    (sSeq (sIf (tOr (tNot (tVal (eChain opLe opLe (eC (.int 1)) (eCall cLen (aCons (eVar 0) aNil)) (eBin opAdd (eC (.int 3)) (eC (.int 1)))))) (tVal (eBin opLt (eLenSc [1] (iSeq (eVar 0)) (bNm 1) (eVar 1)) (eCall cLen (aCons (eVar 0) aNil))))) (sRet (eC (.bl false))) sSkip)
    (sRet (eCall cAll (aCons (eLc [1] (iSeq (eVar 0)) (bNm 1) tTrue le_is_face_1) aNil))))
def F_is_face : FF := fnF 2 B_is_face
abbrev le_own_faces_1 : EF :=
    (eBin opAdd (eVar 3) (eTup (aCons (eVar 2) aNil)))
abbrev lb_own_faces_1 : SF :=
    (sSet 1 (eBin opAdd (eVar 1) (eLc [3] (iSeq (eVar 1)) (bNm 3) tTrue le_own_faces_1)))
def B_own_faces : SF :=
    (sSeq (sSet 1 (eLst (aCons (eTup aNil) aNil)))
    (sSeq (sFor (iSeq (eVar 0)) (bNm 2) lb_own_faces_1)
    (sRet (eSl opSl (eVar 1) (oSome (eC (.int 1))) oNone))))
def F_own_faces : FF := fnF 4 B_own_faces
abbrev lb_Web_init_1 : SF :=
    (sSetD (eVar 2) (eVar 5) (eC (.bl true)))
abbrev lb_Web_init_2 : SF :=
    (sSeq (sIf (tNot (tVal (eFn 1 F_is_face [] (aCons (eVar 3) aNil)))) (fun _ _ => .no) sSkip)
    (sFor (iSeq (eFn 1 F_own_faces [] (aCons (eCall cTuple (aCons (eCall cSorted (aCons (eVar 3) aNil)) aNil)) aNil))) (bNm 5) lb_Web_init_1))
abbrev lb_Web_init_3 : SF :=
    (sExpr (eApp (eBin opIx (eFld "Web" "table" (eVar 0)) (eBin opSub (eCall cLen (aCons (eVar 3) aNil)) (eC (.int 1)))) (eVar 3)))
def B_Web_init : SF :=
    (sSeq (sSet 2 eDnew)
    (sSeq (sFor (iEnum (aCons (eVar 1) aNil)) (bTup 2 (bCons (bNm 4) (bCons (bNm 3) bNil))) lb_Web_init_2)
    (sSeq (sIf (tVal (eBin opGt (eCall cLenD (aCons (eVar 2) aNil)) (eC (.int 120)))) (fun _ _ => .no) sSkip)
    (sSeq (sFldS "Web" "table" (eVar 0) (eLcR [6] (iRange1 (eBin opAdd (eC (.int 3)) (eC (.int 1)))) (bNm 6) tTrue (eLstO aNil)))
    (sSeq (sFor (iSeq (eCall cSorted (aCons (eCall cListD (aCons (eVar 2) aNil)) aNil))) (bNm 3) lb_Web_init_3)
    (sFldS "Web" "places" (eVar 0) (eDc2 [7, 4, 3] (iSeq (eFrzD (eFld "Web" "table" (eVar 0)))) (bNm 7) (iEnum (aCons (eVar 7) aNil)) (bTup 2 (bCons (bNm 4) (bCons (bNm 3) bNil))) [4, 3] (eVar 3) (eVar 4))))))))
def F_Web_init : FF := fnF 8 B_Web_init
def B_Web_has : SF :=
    (sRet (eBin opIn (eCall cTuple (aCons (eCall cSorted (aCons (eVar 1) aNil)) aNil)) (eFld "Web" "places" (eVar 0))))
def F_Web_has : FF := fnF 2 B_Web_has
abbrev le_within_1 : EF :=
    (eBin opIn (eVar 2) (eVar 1))
def B_within : SF :=
    (sRet (eCall cAll (aCons (eLc [2] (iSeq (eVar 0)) (bNm 2) tTrue le_within_1) aNil)))
def F_within : FF := fnF 3 B_within
def B_Web_around : SF :=
    (sRet (eCall cSorted (aCons (eLc2 [2, 3] (iSeq (eFld "Web" "table" (eVar 0))) (bNm 2) tTrue (iSeq (eVar 2)) (bNm 3) [3] (tVal (eFn 2 F_within [] (aCons (eVar 1) (aCons (eVar 3) aNil)))) (eVar 3)) aNil)))
def F_Web_around : FF := fnF 4 B_Web_around
def B_sign : SF :=
    (sRet (eBin opSub (eC (.int 1)) (eBin opMul (eC (.int 2)) (eBin opMod (eVar 0) (eC (.int 2))))))
def F_sign : FF := fnF 1 B_sign
abbrev le_sides_1 : EF :=
    (eTup (aCons (eFn 1 F_sign [] (aCons (eVar 1) aNil)) (aCons (eBin opAdd (eSl opSl (eVar 0) oNone (oSome (eVar 1))) (eSl opSl (eVar 0) (oSome (eBin opAdd (eVar 1) (eC (.int 1)))) oNone)) aNil)))
def B_sides : SF :=
    (sRet (eLc [1] (iRange1 (eIf (tVal (eBin opGt (eCall cLen (aCons (eVar 0) aNil)) (eC (.int 1)))) (eCall cLen (aCons (eVar 0) aNil)) (eC (.int 0)))) (bNm 1) tTrue le_sides_1))
def F_sides : FF := fnF 2 B_sides
def B_Web_without : SF :=
    (sSeq (sIf (tNot (tVal (eMeth "Web" "has" 2 F_Web_has [] (eVar 0) (aCons (eVar 1) aNil)))) (fun _ _ => .no) sSkip)
    (sRet (eMakeZ "Web" 2 F_Web_init [] (aCons (eLc2 [2, 3] (iSeq (eFld "Web" "table" (eVar 0))) (bNm 2) tTrue (iSeq (eVar 2)) (bNm 3) [3] (tNot (tVal (eFn 2 F_within [] (aCons (eVar 1) (aCons (eVar 3) aNil))))) (eVar 3)) aNil))))
def F_Web_without : FF := fnF 4 B_Web_without
def B_Web_faces : SF :=
    (sRet (eIf (tVal (eChain opLe opLe (eC (.int 0)) (eVar 1) (eC (.int 3)))) (eCall cList (aCons (eBin opIx (eFld "Web" "table" (eVar 0)) (eVar 1)) aNil)) (eLst aNil)))
def F_Web_faces : FF := fnF 2 B_Web_faces
def B_Map_image : SF :=
    (sRet (eCall cTuple (aCons (eSortSc [2] (iSeq (eVar 1)) (bNm 2) (eBin opKGet (eFld "Map" "lead" (eVar 0)) (eVar 2))) aNil)))
def F_Map_image : FF := fnF 3 B_Map_image
abbrev le_Map_init_1 : EF :=
    (eBin opIx (eVar 7) (eC (.int 0)))
abbrev le_Map_init_2 : EF :=
    (eMeth "Web" "has" 2 F_Web_has [] (eVar 2) (aCons (eTup (aCons (eBin opKGet (eFld "Map" "lead" (eVar 0)) (eVar 9)) aNil)) aNil))
abbrev lb_Map_init_1 : SF :=
    (sIf (tNot (tVal (eMeth "Web" "has" 2 F_Web_has [] (eVar 2) (aCons (eMeth "Map" "image" 2 F_Map_image [] (eVar 0) (aCons (eVar 7) aNil)) aNil)))) (fun _ _ => .no) sSkip)
def B_Map_init : SF :=
    (sSeq (sFldS "Map" "one" (eVar 0) (eVar 1))
    (sSeq (sFldS "Map" "other" (eVar 0) (eVar 2))
    (sSeq (sFldS "Map" "lead" (eVar 0) (eDc1 [9, 10] (iSeq (eVar 3)) (bTup 2 (bCons (bNm 9) (bCons (bNm 10) bNil))) (eVar 9) (eVar 10)))
    (sSeq (sSet 4 (eLc [7] (iSeq (eMeth "Web" "faces" 2 F_Web_faces [] (eVar 1) (aCons (eC (.int 0)) aNil))) (bNm 7) tTrue le_Map_init_1))
    (sSeq (sIf (tOr (tVal (eBin opNe (eCall cLen (aCons (eVar 3) aNil)) (eCall cLenK (aCons (eFld "Map" "lead" (eVar 0)) aNil)))) (tVal (eBin opNe (eCall cSorted (aCons (eCall cListK (aCons (eFld "Map" "lead" (eVar 0)) aNil)) aNil)) (eVar 4)))) (fun _ _ => .no) sSkip)
    (sSeq (sIf (tNot (tVal (eCall cAll (aCons (eLc [9] (iSeq (eVar 4)) (bNm 9) tTrue le_Map_init_2) aNil)))) (fun _ _ => .no) sSkip)
    (sSeq (sSet 5 (eLc2 [8, 7] (iRange1 (eBin opAdd (eC (.int 3)) (eC (.int 1)))) (bNm 8) tTrue (iSeq (eMeth "Web" "faces" 2 F_Web_faces [] (eVar 1) (aCons (eVar 8) aNil))) (bNm 7) [7] tTrue (eVar 7)))
    (sFor (iEnum (aCons (eVar 5) aNil)) (bTup 2 (bCons (bNm 6) (bCons (bNm 7) bNil))) lb_Map_init_1))))))))
def F_Map_init : FF := fnF 11 B_Map_init
def B_Step_init : SF :=
    (sSeq (sFldS "Step" "elder" (eVar 0) (eVar 1))
    (sSeq (sFldS "Step" "later" (eVar 0) (eVar 2))
    (sSeq (sFldS "Step" "home" (eVar 0) (eMakeZ "Map" 4 F_Map_init [] (aCons (eVar 2) (aCons (eVar 1) (aCons (eVar 3) aNil)))))
    (sFldS "Step" "moved" (eVar 0) (eVar 4)))))
def F_Step_init : FF := fnF 5 B_Step_init
abbrev le_lesser_1 : EF :=
    (eTup (aCons (eBin opMul (eUn opNeg (eVar 4)) (eVar 10)) (aCons (eVar 11) aNil)))
abbrev le_lesser_2 : EF :=
    (eTup (aCons (eBin opIx (eVar 9) (eC (.int 0))) (aCons (eBin opIx (eVar 9) (eC (.int 0))) aNil)))
def B_lesser : SF :=
    (sSeq (sIf (tNot (tVal (eMeth "Web" "has" 2 F_Web_has [] (eVar 0) (aCons (eVar 1) aNil)))) (fun _ _ => .no) sSkip)
    (sSeq (sSet 2 (eCall cTuple (aCons (eCall cSorted (aCons (eVar 1) aNil)) aNil)))
    (sSeq (sSet 3 (eLc [8] (iSeq (eMeth "Web" "around" 2 F_Web_around [] (eVar 0) (aCons (eVar 2) aNil))) (bNm 8) (tVal (eBin opNe (eVar 8) (eVar 2))) (eVar 8)))
    (sSeq (sIf (tVal (eBin opNe (eCall cLen (aCons (eVar 3) aNil)) (eC (.int 1)))) (fun _ _ => .no) sSkip)
    (sSeq (sSet 4 (eCall cSum (aCons (eLc [10, 11] (iSeq (eFn 1 F_sides [] (aCons (eBin opIx (eVar 3) (eC (.int 0))) aNil))) (bTup 2 (bCons (bNm 10) (bCons (bNm 11) bNil))) (tVal (eBin opEq (eVar 11) (eVar 2))) (eVar 10)) aNil)))
    (sSeq (sSet 5 (eLc [10, 11] (iSeq (eFn 1 F_sides [] (aCons (eBin opIx (eVar 3) (eC (.int 0))) aNil))) (bTup 2 (bCons (bNm 10) (bCons (bNm 11) bNil))) (tVal (eBin opNe (eVar 11) (eVar 2))) le_lesser_1))
    (sSeq (sSet 6 (eMeth "Web" "without" 2 F_Web_without [] (eVar 0) (aCons (eVar 2) aNil)))
    (sSeq (sSet 7 (eLc [9] (iSeq (eMeth "Web" "faces" 2 F_Web_faces [] (eVar 6) (aCons (eC (.int 0)) aNil))) (bNm 9) tTrue le_lesser_2))
    (sRet (eMakeZ "Step" 5 F_Step_init [] (aCons (eVar 0) (aCons (eVar 6) (aCons (eVar 7) (aCons (eFrzD (eDispT (eVar 2) (eCall cTuple (aCons (eVar 5) aNil)) (eBin opIx (eVar 3) (eC (.int 0))) (eTup aNil))) aNil))))))))))))))
def F_lesser : FF := fnF 12 B_lesser
def B_law_drawn_rests : SF :=
    (sSeq (sSet 1 (eFn 2 F_law_take [] (aCons (eVar 0) (aCons (eC (.int 5)) aNil))))
    (sSeq (sIf (tVal (eBin opLt (eVar 1) (eC (.int 2)))) (sRet (eC (.int 0))) sSkip)
    (sRet (eBin opIx (eLst (aCons (eC (.int 2)) (aCons (eC (.int 3)) (aCons (eBin opAdd (eC (.int 2)) (eFn 2 F_law_take [] (aCons (eVar 0) (aCons (eC (.int 59)) aNil)))) aNil)))) (eBin opSub (eVar 1) (eC (.int 2)))))))
def F_law_drawn_rests : FF := fnF 2 B_law_drawn_rests
def B_law_sized : SF :=
    (sRet (eLc [2] (iSeq (eVar 0)) (bNm 2) (tVal (eBin opEq (eCall cLen (aCons (eVar 2) aNil)) (eBin opAdd (eVar 1) (eC (.int 1))))) (eVar 2)))
def F_law_sized : FF := fnF 3 B_law_sized
abbrev le_law_few_1 : EF :=
    (eBin opSub (eFn 2 F_law_take [] (aCons (eVar 0) (aCons (eBin opAdd (eBin opMul (eC (.int 2)) (eVar 2)) (eC (.int 1))) aNil))) (eVar 2))
def B_law_few : SF :=
    (sRet (eLc [3] (iRange1 (eVar 1)) (bNm 3) tTrue le_law_few_1))
def F_law_few : FF := fnF 4 B_law_few
abbrev lb_law_sides_1 : SF :=
    (sExpr (eApp (eVar 1) (eTup (aCons (eBin opSub (eC (.int 1)) (eBin opMul (eC (.int 2)) (eBin opMod (eVar 2) (eC (.int 2))))) (aCons (eBin opAdd (eSl opSl (eVar 0) oNone (oSome (eVar 2))) (eSl opSl (eVar 0) (oSome (eBin opAdd (eVar 2) (eC (.int 1)))) oNone)) aNil)))))
def B_law_sides : SF :=
    (sSeq (sSet 1 (eLstO aNil))
    (sSeq (sFor (iRange1 (eBin opMul (eCall cLen (aCons (eVar 0) aNil)) (eCall cInt (aCons (eBin opGt (eCall cLen (aCons (eVar 0) aNil)) (eC (.int 1))) aNil)))) (bNm 2) lb_law_sides_1)
    (sRet (eFrzD (eVar 1)))))
def F_law_sides : FF := fnF 3 B_law_sides
abbrev le_law_lesser_row_1 : EF :=
    (eTup (aCons (eBin opMul (eUn opNeg (eVar 8)) (eVar 12)) (aCons (eVar 14) aNil)))
abbrev lb_law_lesser_row_1 : SF :=
    (sAugI (eVar 7) (eIdx (eVar 6) (eVar 13)) (eBin opMul (eVar 12) (eVar 10)))
abbrev lb_law_lesser_row_2 : SF :=
    (sSeq (sSet 11 (eIf (tVal (eBin opNe (eVar 9) (eVar 3))) (eLst (aCons (eTup (aCons (eC (.int 1)) (aCons (eVar 9) aNil))) aNil)) (eLst aNil)))
    (sSeq (sIf (tVal (eBin opEq (eVar 9) (eVar 2))) (sSet 11 (eLc [12, 14] (iSeq (eFn 1 F_law_sides [] (aCons (eVar 3) aNil))) (bTup 2 (bCons (bNm 12) (bCons (bNm 14) bNil))) (tVal (eBin opNe (eVar 14) (eVar 2))) le_law_lesser_row_1)) sSkip)
    (sFor (iSeq (eVar 11)) (bTup 2 (bCons (bNm 12) (bCons (bNm 13) bNil))) lb_law_lesser_row_1)))
def B_law_lesser_row : SF :=
    (sSeq (sSet 6 (eFn 2 F_law_sized [] (aCons (eVar 1) (aCons (eVar 4) aNil))))
    (sSeq (sSet 7 (eRepO (eLst (aCons (eC (.int 0)) aNil)) (eCall cLen (aCons (eVar 6) aNil))))
    (sSeq (sSet 8 (eBin opIx (eLc [10, 14] (iSeq (eFn 1 F_law_sides [] (aCons (eVar 3) aNil))) (bTup 2 (bCons (bNm 10) (bCons (bNm 14) bNil))) (tVal (eBin opEq (eVar 14) (eVar 2))) (eVar 10)) (eC (.int 0))))
    (sSeq (sFor (iZip (aCons (eFn 2 F_law_sized [] (aCons (eVar 0) (aCons (eVar 4) aNil))) (aCons (eVar 5) aNil))) (bTup 2 (bCons (bNm 9) (bCons (bNm 10) bNil))) lb_law_lesser_row_2)
    (sRet (eFrzD (eVar 7)))))))
def F_law_lesser_row : FF := fnF 15 B_law_lesser_row
def B_look_rests : SF :=
    (sIf (tAnd (tVal (eBin opNe (eVar 0) (eC (.int 0)))) (tNot (tVal (eChain opLe opLe (eC (.int 2)) (eVar 0) (eC (.int 60)))))) (fun _ _ => .no) sSkip)
def F_look_rests : FF := fnF 1 B_look_rests
def B_Web_many : SF :=
    (sRet (eIf (tVal (eChain opLe opLe (eC (.int 0)) (eVar 1) (eC (.int 3)))) (eCall cLen (aCons (eBin opIx (eFld "Web" "table" (eVar 0)) (eVar 1)) aNil)) (eC (.int 0))))
def F_Web_many : FF := fnF 2 B_Web_many
def B_look_row : SF :=
    (sSeq (sIf (tNot (tVal (eChain opLe opLe (eC (.int 0)) (eVar 1) (eC (.int 3))))) (fun _ _ => .no) sSkip)
    (sSeq (sExpr (eFn 1 F_look_rests [] (aCons (eVar 3) aNil)))
    (sIf (tVal (eBin opNe (eCall cLen (aCons (eVar 2) aNil)) (eMeth "Web" "many" 2 F_Web_many [] (eVar 0) (aCons (eVar 1) aNil)))) (fun _ _ => .no) sSkip)))
def F_look_row : FF := fnF 4 B_look_row
def B_Step_parts : SF :=
    (sRet (eIf (tVal (eBin opIn (eVar 1) (eFld "Step" "moved" (eVar 0)))) (eCall cList (aCons (eBin opDGet (eFld "Step" "moved" (eVar 0)) (eVar 1)) aNil)) (eLst (aCons (eTup (aCons (eC (.int 1)) (aCons (eVar 1) aNil))) aNil))))
def F_Step_parts : FF := fnF 2 B_Step_parts
def B_Web_place : SF :=
    (sSeq (sIf (tNot (tVal (eMeth "Web" "has" 2 F_Web_has [] (eVar 0) (aCons (eVar 1) aNil)))) (fun _ _ => .no) sSkip)
    (sRet (eBin opDGet (eFld "Web" "places" (eVar 0)) (eCall cTuple (aCons (eCall cSorted (aCons (eVar 1) aNil)) aNil)))))
def F_Web_place : FF := fnF 2 B_Web_place
def B_rest : SF :=
    (sRet (eIf (tVal (eBin opEq (eVar 1) (eC (.int 0)))) (eVar 0) (eBin opMod (eVar 0) (eVar 1))))
def F_rest : FF := fnF 2 B_rest
abbrev le_rested_1 : EF :=
    (eFn 2 F_rest [] (aCons (eVar 2) (aCons (eVar 1) aNil)))
def B_rested : SF :=
    (sRet (eLc [2] (iSeq (eVar 0)) (bNm 2) tTrue le_rested_1))
def F_rested : FF := fnF 3 B_rested
abbrev lb_Step_forth_1 : SF :=
    (sAugI (eVar 4) (eMeth "Web" "place" 2 F_Web_place [] (eFld "Step" "later" (eVar 0)) (aCons (eVar 8) aNil)) (eBin opMul (eVar 7) (eVar 6)))
abbrev lb_Step_forth_2 : SF :=
    (sFor (iSeq (eMeth "Step" "parts" 2 F_Step_parts [] (eVar 0) (aCons (eVar 5) aNil))) (bTup 2 (bCons (bNm 7) (bCons (bNm 8) bNil))) lb_Step_forth_1)
def B_Step_forth : SF :=
    (sSeq (sExpr (eFn 4 F_look_row [] (aCons (eFld "Step" "elder" (eVar 0)) (aCons (eVar 1) (aCons (eVar 2) (aCons (eVar 3) aNil))))))
    (sSeq (sSet 4 (eRepO (eLst (aCons (eC (.int 0)) aNil)) (eMeth "Web" "many" 2 F_Web_many [] (eFld "Step" "later" (eVar 0)) (aCons (eVar 1) aNil))))
    (sSeq (sFor (iZip (aCons (eMeth "Web" "faces" 2 F_Web_faces [] (eFld "Step" "elder" (eVar 0)) (aCons (eVar 1) aNil)) (aCons (eVar 2) aNil))) (bTup 2 (bCons (bNm 5) (bCons (bNm 6) bNil))) lb_Step_forth_2)
    (sRet (eFn 2 F_rested [] (aCons (eFrzD (eVar 4)) (aCons (eVar 3) aNil)))))))
def F_Step_forth : FF := fnF 9 B_Step_forth
def B_law_rest : SF :=
    (sRet (eIf (tVal (eBin opEq (eVar 1) (eC (.int 0)))) (eVar 0) (eBin opMod (eVar 0) (eVar 1))))
def F_law_rest : FF := fnF 2 B_law_rest
abbrev le_law_rested_1 : EF :=
    (eFn 2 F_law_rest [] (aCons (eVar 2) (aCons (eVar 1) aNil)))
def B_law_rested : SF :=
    (sRet (eLc [2] (iSeq (eVar 0)) (bNm 2) tTrue le_law_rested_1))
def F_law_rested : FF := fnF 3 B_law_rested
abbrev le_law_alike_1 (Fr : FF) : EF :=
    (eFn 2 Fr [] (aCons (eVar 2) (aCons (eVar 3) aNil)))
def B_law_alike (Fr : FF) : SF :=
    (sSeq (sIf (tOr (tVal (eCall cIsi (aCons (eVar 1) (aCons (eC (.ty "list")) aNil)))) (tVal (eCall cIsi (aCons (eVar 1) (aCons (eC (.ty "tuple")) aNil))))) (sSeq (sIf (tOr (tVal (eBin opNe (eCall cIsi (aCons (eVar 0) (aCons (eC (.ty "list")) aNil))) (eCall cIsi (aCons (eVar 1) (aCons (eC (.ty "list")) aNil))))) (tVal (eBin opNe (eCall cIsi (aCons (eVar 0) (aCons (eC (.ty "tuple")) aNil))) (eCall cIsi (aCons (eVar 1) (aCons (eC (.ty "tuple")) aNil)))))) (sRet (eC (.bl false))) sSkip)
    (sRet (eAnd (eBin opEq (eCall cLen (aCons (eVar 0) aNil)) (eCall cLen (aCons (eVar 1) aNil))) (eCall cAll (aCons (eLc [2, 3] (iZip (aCons (eVar 0) (aCons (eVar 1) aNil))) (bTup 2 (bCons (bNm 2) (bCons (bNm 3) bNil))) tTrue (le_law_alike_1 Fr)) aNil))))) sSkip)
    (sSeq (sIf (tOr (tVal (eBin opIsN (eVar 1) (eC .non))) (tVal (eBin opIsN (eVar 0) (eC .non)))) (sRet (eAnd (eBin opIsN (eVar 0) (eC .non)) (eBin opIsN (eVar 1) (eC .non)))) sSkip)
    (sSeq (sIf (tOr (tVal (eBin opNe (eCall cIsi (aCons (eVar 0) (aCons (eC (.ty "bool")) aNil))) (eCall cIsi (aCons (eVar 1) (aCons (eC (.ty "bool")) aNil))))) (tVal (eBin opNe (eCall cIsi (aCons (eVar 0) (aCons (eC (.ty "int")) aNil))) (eCall cIsi (aCons (eVar 1) (aCons (eC (.ty "int")) aNil)))))) (sRet (eC (.bl false))) sSkip)
    (sRet (eAnd (eBin opEq (eCall cIsi (aCons (eVar 0) (aCons (eC (.ty "str")) aNil))) (eCall cIsi (aCons (eVar 1) (aCons (eC (.ty "str")) aNil)))) (eBin opEq (eVar 0) (eVar 1)))))))
def F_law_alike : Nat → FF
  | 0 => fun _ _ => .no
  | d + 1 => fnF 4 (B_law_alike (F_law_alike d))
abbrev lb_law_border_1 : SF :=
    (sAugI (eVar 4) (eIdx (eVar 3) (eVar 8)) (eBin opMul (eVar 7) (eVar 6)))
abbrev lb_law_border_2 : SF :=
    (sFor (iSeq (eFn 1 F_law_sides [] (aCons (eVar 5) aNil))) (bTup 2 (bCons (bNm 7) (bCons (bNm 8) bNil))) lb_law_border_1)
def B_law_border : SF :=
    (sSeq (sSet 3 (eFn 2 F_law_sized [] (aCons (eVar 0) (aCons (eBin opSub (eVar 1) (eC (.int 1))) aNil))))
    (sSeq (sSet 4 (eRepO (eLst (aCons (eC (.int 0)) aNil)) (eCall cLen (aCons (eVar 3) aNil))))
    (sSeq (sFor (iZip (aCons (eFn 2 F_law_sized [] (aCons (eVar 0) (aCons (eVar 1) aNil))) (aCons (eVar 2) aNil))) (bTup 2 (bCons (bNm 5) (bCons (bNm 6) bNil))) lb_law_border_2)
    (sRet (eFrzD (eVar 4))))))
def F_law_border : FF := fnF 9 B_law_border
abbrev le_Step_back_1 : EF :=
    (eBin opMul (eVar 6) (eBin opIx (eVar 2) (eMeth "Web" "place" 2 F_Web_place [] (eFld "Step" "later" (eVar 0)) (aCons (eVar 7) aNil))))
abbrev lb_Step_back_1 : SF :=
    (sExpr (eApp (eVar 4) (eCall cSum (aCons (eLc [6, 7] (iSeq (eMeth "Step" "parts" 2 F_Step_parts [] (eVar 0) (aCons (eVar 5) aNil))) (bTup 2 (bCons (bNm 6) (bCons (bNm 7) bNil))) tTrue le_Step_back_1) aNil))))
def B_Step_back : SF :=
    (sSeq (sExpr (eFn 4 F_look_row [] (aCons (eFld "Step" "later" (eVar 0)) (aCons (eVar 1) (aCons (eVar 2) (aCons (eVar 3) aNil))))))
    (sSeq (sSet 4 (eLstO aNil))
    (sSeq (sFor (iSeq (eMeth "Web" "faces" 2 F_Web_faces [] (eFld "Step" "elder" (eVar 0)) (aCons (eVar 1) aNil))) (bNm 5) lb_Step_back_1)
    (sRet (eFn 2 F_rested [] (aCons (eFrzD (eVar 4)) (aCons (eVar 3) aNil)))))))
def F_Step_back : FF := fnF 8 B_Step_back
abbrev le_law_whole_list_1 : EF :=
    (eAnd (eCall cIsi (aCons (eVar 2) (aCons (eC (.ty "int")) aNil))) (eNot (eCall cIsi (aCons (eVar 2) (aCons (eC (.ty "bool")) aNil)))))
def B_law_whole_list : SF :=
    (sSeq (sIf (tOr (tNot (tVal (eCall cIsi (aCons (eVar 0) (aCons (eC (.ty "list")) aNil))))) (tVal (eBin opNe (eCall cLen (aCons (eVar 0) aNil)) (eVar 1)))) (sRet (eC (.bl false))) sSkip)
    (sRet (eCall cAll (aCons (eLc [2] (iSeq (eVar 0)) (bNm 2) tTrue le_law_whole_list_1) aNil))))
def F_law_whole_list : FF := fnF 3 B_law_whole_list
abbrev le_law_sum_1 : EF :=
    (eBin opMul (eVar 2) (eVar 3))
def B_law_sum : SF :=
    (sRet (eCall cSum (aCons (eLc [2, 3] (iZip (aCons (eVar 0) (aCons (eVar 1) aNil))) (bTup 2 (bCons (bNm 2) (bCons (bNm 3) bNil))) tTrue le_law_sum_1) aNil)))
def F_law_sum : FF := fnF 4 B_law_sum
abbrev le_law_rise_1 : EF :=
    (eBin opMul (eVar 6) (eBin opIx (eVar 2) (eIdx (eVar 3) (eVar 7))))
abbrev lb_law_rise_1 : SF :=
    (sExpr (eApp (eVar 4) (eCall cSum (aCons (eLc [6, 7] (iSeq (eFn 1 F_law_sides [] (aCons (eVar 5) aNil))) (bTup 2 (bCons (bNm 6) (bCons (bNm 7) bNil))) tTrue le_law_rise_1) aNil))))
def B_law_rise : SF :=
    (sSeq (sSet 3 (eFn 2 F_law_sized [] (aCons (eVar 0) (aCons (eVar 1) aNil))))
    (sSeq (sSet 4 (eLstO aNil))
    (sSeq (sFor (iSeq (eFn 2 F_law_sized [] (aCons (eVar 0) (aCons (eBin opAdd (eVar 1) (eC (.int 1))) aNil)))) (bNm 5) lb_law_rise_1)
    (sRet (eFrzD (eVar 4))))))
def F_law_rise : FF := fnF 8 B_law_rise
abbrev le_in_order_1 : EF :=
    (eC (.int 1))
def B_in_order : SF :=
    (sSeq (sIf (tVal (eBin opLt (eLenSc [3] (iSeq (eVar 0)) (bNm 3) (eVar 3)) (eCall cLen (aCons (eVar 0) aNil)))) (sRet (eTup (aCons (eC (.int 0)) (aCons (eTup aNil) aNil)))) sSkip)
    (sSeq (sSet 1 (eCall cSum (aCons (eLc2 [4, 5, 2] (iEnum (aCons (eVar 0) aNil)) (bTup 2 (bCons (bNm 4) (bCons (bNm 5) bNil))) tTrue (iSeq (eSl opSl (eVar 0) (oSome (eBin opAdd (eVar 4) (eC (.int 1)))) oNone)) (bNm 2) [2] (tVal (eBin opLt (eVar 2) (eVar 5))) le_in_order_1) aNil)))
    (sRet (eTup (aCons (eFn 1 F_sign [] (aCons (eVar 1) aNil)) (aCons (eCall cTuple (aCons (eCall cSorted (aCons (eVar 0) aNil)) aNil)) aNil))))))
def F_in_order : FF := fnF 6 B_in_order
abbrev le_Map_led_1 : EF :=
    (eBin opKGet (eFld "Map" "lead" (eVar 0)) (eVar 2))
def B_Map_led : SF :=
    (sRet (eFn 1 F_in_order [] (aCons (eLc [2] (iSeq (eVar 1)) (bNm 2) tTrue le_Map_led_1) aNil)))
def F_Map_led : FF := fnF 3 B_Map_led
abbrev lb_Map_forth_1 : SF :=
    (sSeq (sAsg (eMeth "Map" "led" 2 F_Map_led [] (eVar 0) (aCons (eVar 5) aNil)) (bTup 2 (bCons (bNm 7) (bCons (bNm 8) bNil))))
    (sIf (tVal (eBin opNe (eVar 7) (eC (.int 0)))) (sAugI (eVar 4) (eMeth "Web" "place" 2 F_Web_place [] (eFld "Map" "other" (eVar 0)) (aCons (eVar 8) aNil)) (eBin opMul (eVar 7) (eVar 6))) sSkip))
def B_Map_forth : SF :=
    (sSeq (sExpr (eFn 4 F_look_row [] (aCons (eFld "Map" "one" (eVar 0)) (aCons (eVar 1) (aCons (eVar 2) (aCons (eVar 3) aNil))))))
    (sSeq (sSet 4 (eRepO (eLst (aCons (eC (.int 0)) aNil)) (eMeth "Web" "many" 2 F_Web_many [] (eFld "Map" "other" (eVar 0)) (aCons (eVar 1) aNil))))
    (sSeq (sFor (iZip (aCons (eMeth "Web" "faces" 2 F_Web_faces [] (eFld "Map" "one" (eVar 0)) (aCons (eVar 1) aNil)) (aCons (eVar 2) aNil))) (bTup 2 (bCons (bNm 5) (bCons (bNm 6) bNil))) lb_Map_forth_1)
    (sRet (eFn 2 F_rested [] (aCons (eFrzD (eVar 4)) (aCons (eVar 3) aNil)))))))
def F_Map_forth : FF := fnF 9 B_Map_forth
abbrev lb_law_1 : SF :=
    (sSeq (sSet 10 (eFn 3 F_law_few [] (aCons (eVar 1) (aCons (eCall cLen (aCons (eFn 2 F_law_sized [] (aCons (eVar 2) (aCons (eVar 9) aNil))) aNil)) (aCons (eC (.int 30)) aNil)))))
    (sSeq (sSet 11 (eFn 6 F_law_lesser_row [] (aCons (eVar 2) (aCons (eVar 6) (aCons (eVar 4) (aCons (eVar 5) (aCons (eVar 9) (aCons (eVar 10) aNil))))))))
    (sSeq (sSet 12 (eCall cList (aCons (eVar 10) aNil)))
    (sSeq (sSet 13 (eLst (aCons (eMeth "Step" "forth" 4 F_Step_forth [.int 0] (eVar 7) (aCons (eVar 9) (aCons (eVar 12) aNil))) (aCons (eMeth "Step" "forth" 4 F_Step_forth [] (eVar 7) (aApp 2 1 (aCons (eVar 9) (aCons (eVar 12) aNil)) (aCons (eVar 8) aNil))) aNil))))
    (sSeq (sIf (tOr (tNot (tVal (eFn 2 (F_law_alike 4) [] (aCons (eVar 13) (aCons (eLst (aCons (eVar 11) (aCons (eFn 2 F_law_rested [] (aCons (eVar 11) (aCons (eVar 8) aNil))) aNil))) aNil))))) (tVal (eBin opNe (eVar 12) (eVar 10)))) (sRet (eC (.bl false))) sSkip)
    (sSeq (sSet 14 (eFn 3 F_law_border [] (aCons (eVar 2) (aCons (eVar 9) (aCons (eVar 10) aNil)))))
    (sSeq (sIf (tAnd (tVal (eBin opGt (eVar 9) (eC (.int 0)))) (tVal (eBin opNe (eMeth "Step" "forth" 4 F_Step_forth [.int 0] (eVar 7) (aCons (eBin opSub (eVar 9) (eC (.int 1))) (aCons (eVar 14) aNil))) (eFn 3 F_law_border [] (aCons (eVar 6) (aCons (eVar 9) (aCons (eVar 11) aNil))))))) (sRet (eC (.bl false))) sSkip)
    (sSeq (sSet 15 (eFn 3 F_law_few [] (aCons (eVar 1) (aCons (eCall cLen (aCons (eVar 11) aNil)) (aCons (eC (.int 30)) aNil)))))
    (sSeq (sSet 16 (eMeth "Step" "back" 4 F_Step_back [.int 0] (eVar 7) (aCons (eVar 9) (aCons (eVar 15) aNil))))
    (sSeq (sIf (tOr (tNot (tVal (eFn 2 F_law_whole_list [] (aCons (eVar 16) (aCons (eCall cLen (aCons (eVar 10) aNil)) aNil))))) (tVal (eBin opNe (eFn 2 F_law_sum [] (aCons (eVar 16) (aCons (eVar 10) aNil))) (eFn 2 F_law_sum [] (aCons (eVar 15) (aCons (eVar 11) aNil)))))) (sRet (eC (.bl false))) sSkip)
    (sSeq (sIf (tNot (tVal (eFn 2 (F_law_alike 4) [] (aCons (eMeth "Step" "back" 4 F_Step_back [] (eVar 7) (aApp 2 1 (aCons (eVar 9) (aCons (eVar 15) aNil)) (aCons (eVar 8) aNil))) (aCons (eFn 2 F_law_rested [] (aCons (eVar 16) (aCons (eVar 8) aNil))) aNil))))) (sRet (eC (.bl false))) sSkip)
    (sSeq (sSet 17 (eFn 3 F_law_rise [] (aCons (eVar 6) (aCons (eVar 9) (aCons (eVar 15) aNil)))))
    (sSeq (sIf (tAnd (tVal (eBin opLt (eVar 9) (eC (.int 3)))) (tVal (eBin opNe (eMeth "Step" "back" 4 F_Step_back [.int 0] (eVar 7) (aCons (eBin opAdd (eVar 9) (eC (.int 1))) (aCons (eVar 17) aNil))) (eFn 3 F_law_rise [] (aCons (eVar 2) (aCons (eVar 9) (aCons (eVar 16) aNil))))))) (sRet (eC (.bl false))) sSkip)
    (sIf (tNot (tVal (eFn 2 (F_law_alike 4) [] (aCons (eMeth "Step" "forth" 4 F_Step_forth [.int 0] (eVar 7) (aCons (eVar 9) (aCons (eMeth "Map" "forth" 4 F_Map_forth [.int 0] (eFld "Step" "home" (eVar 7)) (aCons (eVar 9) (aCons (eVar 15) aNil))) aNil))) (aCons (eVar 15) aNil))))) (sRet (eC (.bl false))) sSkip))))))))))))))
def B_law : SF :=
    (sSeq (sSet 1 (eFn 1 F_law_box [] (aCons (eVar 0) aNil)))
    (sSeq (sSet 2 (eFn 1 F_law_closed [] (aCons (eFn 1 F_law_small_tops [] (aCons (eVar 1) aNil)) aNil)))
    (sSeq (sSet 3 (eFn 1 F_law_free [] (aCons (eVar 2) aNil)))
    (sSeq (sIf (tVal (eBin opEq (eVar 3) (eLst aNil))) (sRet (eC (.bl true))) sSkip)
    (sSeq (sSet 4 (eBin opIx (eVar 3) (eFn 2 F_law_take [] (aCons (eVar 1) (aCons (eCall cLen (aCons (eVar 3) aNil)) aNil)))))
    (sSeq (sSet 5 (eBin opIx (eLc [18] (iSeq (eVar 2)) (bNm 18) (tAnd (tVal (eBin (opSubs false) (eVar 4) (eVar 18))) (tVal (eBin opNe (eVar 18) (eVar 4)))) (eVar 18)) (eC (.int 0))))
    (sSeq (sSet 6 (eLc [18] (iSeq (eVar 2)) (bNm 18) (tVal (eBin (opInT true) (eVar 18) (eTup (aCons (eVar 4) (aCons (eVar 5) aNil))))) (eVar 18)))
    (sSeq (sSet 7 (eFn 2 F_lesser [] (aCons (eMakeZ "Web" 2 F_Web_init [] (aCons (eCall cList (aCons (eVar 2) aNil)) aNil)) (aCons (eVar 4) aNil))))
    (sSeq (sSet 8 (eFn 1 F_law_drawn_rests [] (aCons (eVar 1) aNil)))
    (sSeq (sFor (iRange1 (eC (.int 4))) (bNm 9) lb_law_1)
    (sRet (eC (.bl true)))))))))))))
def F_law : FF := fnF 19 B_law
end L
namespace L
open PySem L2 J M
local macro_rules | `(tactic| walk_at "ev") => `(tactic| try simp only [fn_ap, List.map_cons, List.map_nil, List.length_cons, List.length_nil, List.cons_append, List.nil_append, List.append_nil, Nat.reduceAdd, Nat.reduceSub, Nat.zero_add, List.replicate_succ, List.replicate_zero, s_seq, s_set, s_asg, s_if, s_ret, s_expr, s_for, s_skip, s_par, s_par3, s_setI, thn_nx, thn_ret, thn_no, thn_brk, thn_cnt, thn_exc, a_var, a_c, a_bin, a_un, a_call, a_nil, a_cons, a_tup, a_lst, a_lstO, a_val, a_tand, a_tor, a_tnot, a_if, a_and, a_or, a_not, a_chain, a_fn, a_lc', a_seq, a_range1, a_zip, a_sl, a_onone, a_osome, bnd_ok, bnd_no, bnd_exc, sbd_ok, sbd_no, sbd_exc, getV_some, toB_bl, toO_int, lift_some, lift_none, seqI_lst, seqI_scr, seqI_tup, seqI_str, rng1_int, zip_lst, zip_tup, onx_some, onh_some, List.getElem?_cons_zero, List.getElem?_cons_succ, List.set_cons_zero, List.set_cons_succ, o_sub, o_add, o_lt, o_le, o_gt, o_ge, o_neg, o_eqI, o_neI, o_eqB, o_neB, o_eqS, if_true, if_false, ite_true, ite_false, decide_true, decide_false, Bool.false_eq_true, Bool.true_eq_false, reduceIte, Bool.not_true, Bool.not_false, a_frzD, frzR_obj, frzO_fl, frzO_fzn, frzR_lst, frzR_tup, frzR_int, a_newO, newO_some, lList_lst, lList_tup, a_listRngO, lrO_int, a_repO, repO_lst, chkL_some, lstOf_obj, lstO_fl, lstO_fzn, lstR_obj, lstRO_fl, lstRO_lo, lstRO_fzn, a_pop, popR_obj, a_app, appV_obj, enumI_lst, a_enum, s_augI, augV_obj, augO_int, s_setD, a_dnew, a_fld, insOf_obj, insO_ins, insOf_ins, a_meth, noX_ok, a_make, s_fldS, setF_obj, a_aApp, afterR_ok, a_lcR, a_lenSc, a_dc2, bNm_ap, obd_some, trn_nx, a_knew, s_setK, a_keysK, keysI_dK, a_dc1, a_sortSc, a_ins, a_lc2, frzO_dK, frzR_dK, a_lcP, lcP_some, rootL_obj, rootO_fl, a_dictZip, s_setApp, s_raise0, a_own, a_lenOwn, a_isiC, a_items, a_methX, a_makeX, fin_exc, a_listRng, lrD_int])
local macro_rules | `(tactic| walk_at "evd") => `(tactic| try simp (disch := first | decide | omega) only [o_mod, o_fdiv, o_pow, o_mul_r, o_mul_l, fn_ap, List.map_cons, List.map_nil, List.length_cons, List.length_nil, List.cons_append, List.nil_append, List.append_nil, Nat.reduceAdd, Nat.reduceSub, Nat.zero_add, List.replicate_succ, List.replicate_zero, s_seq, s_set, s_asg, s_if, s_ret, s_expr, s_for, s_skip, s_par, s_par3, s_setI, thn_nx, thn_ret, thn_no, thn_brk, thn_cnt, thn_exc, a_var, a_c, a_bin, a_un, a_call, a_nil, a_cons, a_tup, a_lst, a_lstO, a_val, a_tand, a_tor, a_tnot, a_if, a_and, a_or, a_not, a_chain, a_fn, a_lc', a_seq, a_range1, a_zip, a_sl, a_onone, a_osome, bnd_ok, bnd_no, bnd_exc, sbd_ok, sbd_no, sbd_exc, getV_some, toB_bl, toO_int, lift_some, lift_none, seqI_lst, seqI_scr, seqI_tup, seqI_str, rng1_int, zip_lst, zip_tup, onx_some, onh_some, List.getElem?_cons_zero, List.getElem?_cons_succ, List.set_cons_zero, List.set_cons_succ, o_sub, o_add, o_lt, o_le, o_gt, o_ge, o_neg, o_eqI, o_neI, o_eqB, o_neB, o_eqS, if_true, if_false, ite_true, ite_false, decide_true, decide_false, Bool.false_eq_true, Bool.true_eq_false, reduceIte, Bool.not_true, Bool.not_false, a_frzD, frzR_obj, frzO_fl, frzO_fzn, frzR_lst, frzR_tup, frzR_int, a_newO, newO_some, lList_lst, lList_tup, a_listRngO, lrO_int, a_repO, repO_lst, chkL_some, lstOf_obj, lstO_fl, lstO_fzn, lstR_obj, lstRO_fl, lstRO_lo, lstRO_fzn, a_pop, popR_obj, a_app, appV_obj, enumI_lst, a_enum, s_augI, augV_obj, augO_int, s_setD, a_dnew, a_fld, insOf_obj, insO_ins, insOf_ins, a_meth, noX_ok, a_make, s_fldS, setF_obj, a_aApp, afterR_ok, a_lcR, a_lenSc, a_dc2, bNm_ap, obd_some, trn_nx, a_knew, s_setK, a_keysK, keysI_dK, a_dc1, a_sortSc, a_ins, a_lc2, frzO_dK, frzR_dK, a_lcP, lcP_some, rootL_obj, rootO_fl, a_dictZip, s_setApp, s_raise0, a_own, a_lenOwn, a_isiC, a_items, a_methX, a_makeX, fin_exc, a_listRng, lrD_int])
local macro_rules | `(tactic| walk_at "eva") => `(tactic| try simp only [fn_ap, List.map_cons, List.map_nil, List.length_cons, List.length_nil, List.cons_append, List.nil_append, List.append_nil, Nat.reduceAdd, Nat.reduceSub, Nat.zero_add, List.replicate_succ, List.replicate_zero, s_seq, s_set, s_asg, s_if, s_ret, s_expr, s_for, s_skip, s_par, s_par3, s_setI, thn_nx, thn_ret, thn_no, thn_brk, thn_cnt, thn_exc, a_var, a_c, a_bin, a_un, a_call, a_nil, a_cons, a_tup, a_lst, a_lstO, a_val, a_tand, a_tor, a_tnot, a_if, a_and, a_or, a_not, a_chain, a_fn, a_lc', a_seq, a_range1, a_zip, a_sl, a_onone, a_osome, bnd_ok, bnd_no, bnd_exc, sbd_ok, sbd_no, sbd_exc, getV_some, toB_bl, toO_int, lift_some, lift_none, seqI_lst, seqI_scr, seqI_tup, seqI_str, rng1_int, zip_lst, zip_tup, onx_some, onh_some, List.getElem?_cons_zero, List.getElem?_cons_succ, List.set_cons_zero, List.set_cons_succ, o_sub, o_add, o_lt, o_le, o_gt, o_ge, o_neg, o_eqI, o_neI, o_eqB, o_neB, o_eqS, if_true, if_false, ite_true, ite_false, decide_true, decide_false, Bool.false_eq_true, Bool.true_eq_false, reduceIte, Bool.not_true, Bool.not_false, a_frzD, frzR_obj, frzO_fl, frzO_fzn, frzR_lst, frzR_tup, frzR_int, a_newO, newO_some, lList_lst, lList_tup, a_listRngO, lrO_int, a_repO, repO_lst, chkL_some, lstOf_obj, lstO_fl, lstO_fzn, lstR_obj, lstRO_fl, lstRO_lo, lstRO_fzn, a_pop, popR_obj, a_app, appV_obj, enumI_lst, a_enum, s_augI, augV_obj, augO_int, s_setD, a_dnew, a_fld, insOf_obj, insO_ins, insOf_ins, a_meth, noX_ok, a_make, s_fldS, setF_obj, a_aApp, afterR_ok, a_lcR, a_lenSc, a_dc2, bNm_ap, obd_some, trn_nx, a_knew, s_setK, a_keysK, keysI_dK, a_dc1, a_sortSc, a_ins, a_lc2, frzO_dK, frzR_dK, a_lcP, lcP_some, rootL_obj, rootO_fl, a_dictZip, s_setApp, s_raise0, a_own, a_lenOwn, a_isiC, a_items, a_methX, a_makeX, fin_exc, a_listRng, lrD_int, isi_NoneType_list, isi_NoneType_tuple, isi_NoneType_bool, isi_NoneType_int, isi_NoneType_str, isi_bool_list, isi_bool_tuple, isi_bool_bool, isi_bool_int, isi_bool_str, isi_int_list, isi_int_tuple, isi_int_bool, isi_int_int, isi_int_str, isi_str_list, isi_str_tuple, isi_str_bool, isi_str_int, isi_str_str, isi_tuple_list, isi_tuple_tuple, isi_tuple_bool, isi_tuple_int, isi_tuple_str, isi_list_list, isi_list_tuple, isi_list_bool, isi_list_int, isi_list_str, opIsN, opNotN, VV.isObj, len_lst, len_tup, list_lst, list_tup, tuple_lst, x_lst, x_tup])
local macro_rules | `(tactic| walk_at "evad") => `(tactic| try simp (disch := first | decide | omega) only [o_mod, o_fdiv, o_pow, o_mul_r, o_mul_l, fn_ap, List.map_cons, List.map_nil, List.length_cons, List.length_nil, List.cons_append, List.nil_append, List.append_nil, Nat.reduceAdd, Nat.reduceSub, Nat.zero_add, List.replicate_succ, List.replicate_zero, s_seq, s_set, s_asg, s_if, s_ret, s_expr, s_for, s_skip, s_par, s_par3, s_setI, thn_nx, thn_ret, thn_no, thn_brk, thn_cnt, thn_exc, a_var, a_c, a_bin, a_un, a_call, a_nil, a_cons, a_tup, a_lst, a_lstO, a_val, a_tand, a_tor, a_tnot, a_if, a_and, a_or, a_not, a_chain, a_fn, a_lc', a_seq, a_range1, a_zip, a_sl, a_onone, a_osome, bnd_ok, bnd_no, bnd_exc, sbd_ok, sbd_no, sbd_exc, getV_some, toB_bl, toO_int, lift_some, lift_none, seqI_lst, seqI_scr, seqI_tup, seqI_str, rng1_int, zip_lst, zip_tup, onx_some, onh_some, List.getElem?_cons_zero, List.getElem?_cons_succ, List.set_cons_zero, List.set_cons_succ, o_sub, o_add, o_lt, o_le, o_gt, o_ge, o_neg, o_eqI, o_neI, o_eqB, o_neB, o_eqS, if_true, if_false, ite_true, ite_false, decide_true, decide_false, Bool.false_eq_true, Bool.true_eq_false, reduceIte, Bool.not_true, Bool.not_false, a_frzD, frzR_obj, frzO_fl, frzO_fzn, frzR_lst, frzR_tup, frzR_int, a_newO, newO_some, lList_lst, lList_tup, a_listRngO, lrO_int, a_repO, repO_lst, chkL_some, lstOf_obj, lstO_fl, lstO_fzn, lstR_obj, lstRO_fl, lstRO_lo, lstRO_fzn, a_pop, popR_obj, a_app, appV_obj, enumI_lst, a_enum, s_augI, augV_obj, augO_int, s_setD, a_dnew, a_fld, insOf_obj, insO_ins, insOf_ins, a_meth, noX_ok, a_make, s_fldS, setF_obj, a_aApp, afterR_ok, a_lcR, a_lenSc, a_dc2, bNm_ap, obd_some, trn_nx, a_knew, s_setK, a_keysK, keysI_dK, a_dc1, a_sortSc, a_ins, a_lc2, frzO_dK, frzR_dK, a_lcP, lcP_some, rootL_obj, rootO_fl, a_dictZip, s_setApp, s_raise0, a_own, a_lenOwn, a_isiC, a_items, a_methX, a_makeX, fin_exc, a_listRng, lrD_int, isi_NoneType_list, isi_NoneType_tuple, isi_NoneType_bool, isi_NoneType_int, isi_NoneType_str, isi_bool_list, isi_bool_tuple, isi_bool_bool, isi_bool_int, isi_bool_str, isi_int_list, isi_int_tuple, isi_int_bool, isi_int_int, isi_int_str, isi_str_list, isi_str_tuple, isi_str_bool, isi_str_int, isi_str_str, isi_tuple_list, isi_tuple_tuple, isi_tuple_bool, isi_tuple_int, isi_tuple_str, isi_list_list, isi_list_tuple, isi_list_bool, isi_list_int, isi_list_str, opIsN, opNotN, VV.isObj, len_lst, len_tup, list_lst, list_tup, tuple_lst, x_lst, x_tup])
/-! the drawing box -/
structure Bx where
  xs : List Int
  pos : Nat
  left : Int
  cnt : Int
  seed : Int
def Bx.v (b : Bx) : VO := .fl [.lst (b.xs.map VV.int), .int b.pos, .int b.left, .int b.cnt, .int b.seed]
theorem fmod_rng (a : Int) {m : Int} (h : 0 < m) : 0 ≤ a.fmod m ∧ a.fmod m < m := by
  rw [Int.fmod_eq_emod_of_nonneg _ (by omega)]
  exact ⟨Int.emod_nonneg _ (by omega), Int.emod_lt_of_pos _ h⟩
theorem mixed_eq (a t : Int) (h : VH) : ∃ r, F_law_mixed [.int a, .int t] h = .ok (.int r) h ∧ 0 ≤ r := by
  unfold F_law_mixed B_law_mixed
  have h1 := fmod_rng (a * 48271 + t * 69621 + 12345) (m := 2147483647) (by decide)
  walk_at "evd"
  rw [fin_ret rfl]
  refine ⟨_, rfl, ?_⟩
  rw [Int.fdiv_eq_ediv_of_nonneg _ (by decide)]
  exact Int.ediv_nonneg (fmod_rng _ (by decide)).1 (by decide)
theorem take_eq {n : Nat} {h : VH} {b : Bx} {m : Int} (hb : h[n]? = some b.v) (hm : 0 < m) (hl : m.natAbs.log2 < 9000) : ∃ r b', F_law_take [.obj n, .int m] h = .ok (.int r) (h.set n (Bx.v b')) ∧ 0 ≤ r ∧ r < m := by
  obtain ⟨xs, pos, left, cnt, seed⟩ := b
  have hn : n < h.length := lt_of_get hb
  unfold Bx.v at hb
  simp only at hb
  unfold F_law_take B_law_take
  -- count
  have hb1 : (h.set n (.fl [.lst (xs.map VV.int), .int pos, .int left, .int (cnt + 1), .int seed]))[n]? = some (.fl [.lst (xs.map VV.int), .int pos, .int left, .int (cnt + 1), .int seed]) := get_set hn
  have s1 : setI h (.obj n) (.int 3) (.int (cnt + 1)) = some (h.set n (.fl [.lst (xs.map VV.int), .int pos, .int left, .int (cnt + 1), .int seed])) := set_root (j := 3) hb rfl rfl
  walk_at "ev"
  simp only [ix_root hb, at5_3]
  walk_at "ev"
  simp only [s1]
  walk_at "ev"
  simp only [ix_root hb1, at5_2]
  walk_at "ev"
  generalize eh1 : h.set n (.fl [.lst (xs.map VV.int), .int pos, .int left, .int (cnt + 1), .int seed]) = h1 at hb1
  have hn1 : n < h1.length := by rw [← eh1, List.length_set]; exact hn
  have hl1 : h1.length = h.length := by rw [← eh1, List.length_set]
  by_cases c1 : 0 < left
  · simp only [decide_eq_true c1, reduceIte]
    walk_at "ev"
    simp only [ix_root hb1, at5_2]
    walk_at "ev"
    simp (disch := omega) only [o_fdiv (j := m) (by omega) hl, o_mod (j := m) (by omega)]
    walk_at "ev"
    have s2 : setI h1 (.obj n) (.int 2) (.int (left.fdiv m)) = some (h1.set n (.fl [.lst (xs.map VV.int), .int pos, .int (left.fdiv m), .int (cnt + 1), .int seed])) := set_root (j := 2) hb1 rfl rfl
    simp only [s2]
    walk_at "ev"
    simp (disch := omega) only [o_mod (j := m) (by omega)]
    walk_at "ev"
    rw [fin_ret (by rw [List.length_set]; exact hl1)]
    refine ⟨_, ⟨xs, pos, left.fdiv m, cnt + 1, seed⟩, ?_, fmod_rng left hm⟩
    rw [← eh1, List.set_set]; rfl
  · simp only [decide_eq_false c1, Bool.false_eq_true, reduceIte]
    walk_at "ev"
    simp only [ix_root hb1, at5_1, at5_0]
    walk_at "ev"
    simp only [ix_root hb1, at5_1, at5_0]
    walk_at "ev"
    simp only [len_lst, List.length_map]
    walk_at "ev"
    by_cases c2 : (xs.length : Int) ≤ pos
    · simp only [decide_eq_true c2, reduceIte]
      walk_at "ev"
      simp only [ix_root hb1, at5_4, at5_3]
      walk_at "ev"
      simp only [ix_root hb1, at5_4, at5_3]
      walk_at "ev"
      obtain ⟨r, er, hr⟩ := mixed_eq seed (cnt + 1) h1
      simp only [er]
      walk_at "ev"
      simp (disch := omega) only [o_mod (j := m) (by omega)]
      walk_at "ev"
      rw [fin_ret hl1]
      refine ⟨_, ⟨xs, pos, left, cnt + 1, seed⟩, ?_, fmod_rng r hm⟩
      rw [← eh1]; rfl
    · simp only [decide_eq_false c2, Bool.false_eq_true, reduceIte]
      have hp : pos < xs.length := by omega
      walk_at "ev"
      simp only [ix_root hb1, at5_1, at5_0]
      walk_at "ev"
      simp only [ix_root hb1, at5_1, at5_0]
      walk_at "ev"
      have ex : atI (xs.map VV.int) (pos : Int) = some (.int xs[pos]) := atI_in (by rw [List.getElem?_map, List.getElem?_eq_getElem hp]; rfl)
      simp only [x_lst, ex]
      walk_at "ev"
      simp only [ix_root hb1, at5_1, at5_0]
      walk_at "ev"
      have s3 : setI h1 (.obj n) (.int 1) (.int ((pos : Int) + 1)) = some (h1.set n (.fl [.lst (xs.map VV.int), .int ((pos : Int) + 1), .int left, .int (cnt + 1), .int seed])) := set_root (j := 1) hb1 rfl rfl
      simp only [s3]
      walk_at "ev"
      have hb2 : (h1.set n (.fl [.lst (xs.map VV.int), .int ((pos : Int) + 1), .int left, .int (cnt + 1), .int seed]))[n]? = some (.fl [.lst (xs.map VV.int), .int ((pos : Int) + 1), .int left, .int (cnt + 1), .int seed]) := get_set hn1
      generalize eh2 : h1.set n (.fl [.lst (xs.map VV.int), .int ((pos : Int) + 1), .int left, .int (cnt + 1), .int seed]) = h2 at hb2
      have hl2 : h2.length = h.length := by rw [← eh2, List.length_set]; exact hl1
      walk_at "evd"
      by_cases c3 : xs[pos] < 10 ^ Int.toNat 18
      · simp only [decide_eq_true c3, reduceIte]
        walk_at "ev"
        simp only [ix_root hb2, at5_3]
        walk_at "ev"
        obtain ⟨r, er, hr⟩ := mixed_eq xs[pos] (cnt + 1) h2
        simp only [er]
        walk_at "ev"
        simp (disch := omega) only [o_mod (j := m) (by omega)]
        walk_at "ev"
        rw [fin_ret hl2]
        refine ⟨_, ⟨xs, pos + 1, left, cnt + 1, seed⟩, ?_, fmod_rng r hm⟩
        rw [← eh2, ← eh1, List.set_set]; rfl
      · simp only [decide_eq_false c3, Bool.false_eq_true, reduceIte]
        walk_at "ev"
        simp (disch := omega) only [o_fdiv (j := m) (by omega) hl, o_mod (j := m) (by omega)]
        walk_at "ev"
        have s4 : setI h2 (.obj n) (.int 2) (.int (xs[pos].fdiv m)) = some (h2.set n (.fl [.lst (xs.map VV.int), .int ((pos : Int) + 1), .int (xs[pos].fdiv m), .int (cnt + 1), .int seed])) := set_root (j := 2) hb2 rfl rfl
        simp only [s4]
        walk_at "ev"
        simp (disch := omega) only [o_mod (j := m) (by omega)]
        walk_at "ev"
        rw [fin_ret (by rw [List.length_set]; exact hl2)]
        refine ⟨_, ⟨xs, pos + 1, xs[pos].fdiv m, cnt + 1, seed⟩, ?_, fmod_rng xs[pos] hm⟩
        rw [← eh2, ← eh1, List.set_set, List.set_set]; rfl
theorem cut_ints (ns : List Int) (lo hi : Option Int) : ∃ ms : List Int, cut (ns.map VV.int) lo hi = ms.map VV.int ∧ ms.length ≤ ns.length := by
  refine ⟨(ns.drop (HT.sIx ns.length 0 lo)).take (HT.sIx ns.length ns.length hi - HT.sIx ns.length 0 lo), ?_, ?_⟩
  · unfold cut
    rw [List.length_map, List.map_take, List.map_drop]
  · rw [List.length_take, List.length_drop]; omega
theorem sl_scr {h : VH} {xs : List VV} {lo hi : Option Int} : opSl h (.scr xs) lo hi = some (.lst (cut xs lo hi)) := rfl
theorem box_eq (ns : List Int) : ∃ b : Bx, F_law_box [.scr (ns.map VV.int)] [] = .ok (.obj 0) [b.v] := by
  obtain ⟨ms, em, hl⟩ := cut_ints ns none (some 63)
  unfold F_law_box B_law_box
  walk_at "ev"
  simp only [sl_scr, em]
  walk_at "ev"
  have lp := for_inv (b := bNm 2) (body := sSet 1 (eBin opMod (eBin opAdd (eBin opAdd (eBin opMul (eVar 1) (eC (.int 31))) (eVar 2)) (eC (.int 17))) (eC (.int 2147483647)))) (fun ρ h => h = [] ∧ ∃ s o, ρ = [some (.scr (ns.map VV.int)), some (.int s), o]) (xs := ms.map VV.int) (ρ := [some (.scr (ns.map VV.int)), some (.int 0), none]) (h := []) ⟨rfl, 0, none, rfl⟩ (by
    rintro x hx ρ h ⟨rfl, s, o, rfl⟩
    obtain ⟨c, _, rfl⟩ := List.mem_map.mp hx
    refine ⟨_, _, _, rfl, ?_, rfl, (s * 31 + c + 17).fmod 2147483647, some (.int c), rfl⟩
    walk_at "evd")
  obtain ⟨ρ2, h2, e2, rfl, s, o, rfl⟩ := lp
  simp only [e2]
  walk_at "ev"
  simp only [sl_scr, em]
  walk_at "eva"
  simp only [List.any_cons, List.any_nil, VV.isObj, Bool.or_false, Bool.false_eq_true, false_or, List.length_cons, List.length_nil]
  rw [if_neg (by decide)]
  walk_at "ev"
  exact ⟨⟨ms, 0, 0, 0, s⟩, rfl⟩
/-! the drawing of webs -/
open M
theorem take_h (b : Bx) (t : VH) {m : Int} (hm : 0 < m) (hl : m < 2 ^ 100) : ∃ r b', F_law_take [.obj 0, .int m] (b.v :: t) = .ok (.int r) (Bx.v b' :: t) ∧ 0 ≤ r ∧ r < m := take_eq (n := 0) rfl hm (log2_ok hm hl)
theorem take1 (b : Bx) {m : Int} (hm : 0 < m) (hl : m < 2 ^ 100) : ∃ r b', F_law_take [.obj 0, .int m] [b.v] = .ok (.int r) [Bx.v b'] ∧ 0 ≤ r ∧ r < m := take_h b [] hm hl
theorem fin_b {v : VV} {b : Bx} {t : VH} (hv : lowV 1 v = true) : (SR.ret v (b.v :: t)).fin 1 = .ok v [b.v] := fin_o hv rfl
theorem erase_perm {l : List Int} {k : Nat} (hk : k < l.length) : (l[k] :: l.eraseIdx k).Perm l := by
  induction l generalizing k with
  | nil => simp at hk
  | cons x l ih =>
    cases k with
    | zero => simp
    | succ k =>
      simp only [List.getElem_cons_succ, List.eraseIdx_cons_succ]
      exact (List.Perm.swap x _ _).trans ((ih (by simpa using hk)).cons x)
theorem eraseIdx_mapI : ∀ (l : List Int) (k : Nat), (l.map VV.int).eraseIdx k = (l.eraseIdx k).map VV.int
  | [], _ => rfl
  | _ :: _, 0 => rfl
  | x :: l, k + 1 => by simp only [List.map_cons, List.eraseIdx_cons_succ, eraseIdx_mapI l k]
/-- a turn of drawing without putting back -/
theorem pop_turn (b : Bx) {rest found : List Int} (hr : rest ≠ []) (hl : rest.length ≤ 16) (hf : found.length < 16777216) : ∃ (r : Nat) (b' : Bx) (hk : r < rest.length),
    F_law_take [.obj 0, .int rest.length] [b.v, .fl (rest.map VV.int), .fl (found.map VV.int)] = .ok (.int r) [b'.v, .fl (rest.map VV.int), .fl (found.map VV.int)]
    ∧ popO (some (.fl (rest.map VV.int))) 1 (r : Int) [b'.v, .fl (rest.map VV.int), .fl (found.map VV.int)] = .ok (.int rest[r]) [b'.v, .fl ((rest.eraseIdx r).map VV.int), .fl (found.map VV.int)]
    ∧ appO (some (.fl (found.map VV.int))) 2 [b'.v, .fl ((rest.eraseIdx r).map VV.int), .fl (found.map VV.int)] (.int rest[r]) = .ok .non [b'.v, .fl ((rest.eraseIdx r).map VV.int), .fl ((found ++ [rest[r]]).map VV.int)] := by
  have hp : 0 < rest.length := List.length_pos_iff.mpr hr
  obtain ⟨r, b', e, h1, h2⟩ := take_h b [.fl (rest.map VV.int), .fl (found.map VV.int)] (m := rest.length) (by omega) (by omega)
  obtain ⟨k, rfl⟩ := Int.eq_ofNat_of_zero_le h1
  have hk : k < rest.length := by omega
  refine ⟨k, b', hk, e, ?_, ?_⟩
  · rw [popO_fl (v := .int rest[k]) h1 (by rw [List.length_map]; exact h2) (by omega) (by rw [List.getElem?_map]; show ((rest[k]?).map _) = _; rw [List.getElem?_eq_getElem hk]; rfl)]
    show Res.ok _ [_, VO.fl ((rest.map VV.int).eraseIdx k), _] = _
    rw [eraseIdx_mapI]
  · rw [appO_fl (by rw [List.length_map]; exact hf) rfl]
    show Res.ok _ [_, _, VO.fl (found.map VV.int ++ [VV.int rest[k]])] = _
    rw [List.map_append]; rfl
theorem points_eq (b : Bx) {m : Int} (h0 : 0 ≤ m) (h1 : m ≤ 16) : ∃ (ps : List Int) (b' : Bx), F_law_points [.obj 0, .int m] [b.v] = .ok (.lst (ps.map VV.int)) [b'.v] ∧ (ps.length : Int) = m ∧ ps.Nodup ∧ ∀ p ∈ ps, 0 ≤ p ∧ p ≤ 15 := by
  unfold F_law_points B_law_points
  walk_at "ev"
  rw [if_pos (by decide)]
  walk_at "ev"
  simp only [List.any_nil, Bool.false_eq_true, false_or]
  rw [if_neg (by decide)]
  walk_at "ev"
  rw [if_pos (by omega)]
  walk_at "ev"
  have e16 : rngV 0 (Int.toNat 16) = ([0, 1, 2, 3, 4, 5, 6, 7, 8, 9, 10, 11, 12, 13, 14, 15] : List Int).map VV.int := rfl
  rw [e16, rng_eq]
  obtain ⟨ρ2, h2, e2, b2, rest, found, o, rfl, rfl, hp, hl⟩ := for_pre (b := bNm 4) (body := lb_law_points_1) (fun (i : Nat) => VV.int (0 + (i : Int)))
    (fun pre ρ h => ∃ (b : Bx) (rest found : List Int) (o : Option VV), ρ = [some (.obj 0), some (.int m), some (.obj 1), some (.obj 2), o] ∧ h = [b.v, .fl (rest.map VV.int), .fl (found.map VV.int)] ∧ (found ++ rest).Perm [0, 1, 2, 3, 4, 5, 6, 7, 8, 9, 10, 11, 12, 13, 14, 15] ∧ found.length = pre.length)
    (List.range m.toNat) (ρ := [some (.obj 0), some (.int m), some (.obj 1), some (.obj 2), none]) (h := [b.v, .fl (([0, 1, 2, 3, 4, 5, 6, 7, 8, 9, 10, 11, 12, 13, 14, 15] : List Int).map VV.int), .fl (([] : List Int).map VV.int)])
    ⟨b, _, [], none, rfl, rfl, List.Perm.refl _, rfl⟩ (by
      rintro pre y post ey ρ h ⟨b, rest, found, o, rfl, rfl, hp, hl⟩
      have ll := hp.length_eq
      have lm : pre.length + 1 + post.length = m.toNat := by
        have := congrArg List.length ey
        simpa [Nat.add_assoc, Nat.add_comm, Nat.add_left_comm] using this.symm
      rw [List.length_append] at ll
      have l16 : ([0, 1, 2, 3, 4, 5, 6, 7, 8, 9, 10, 11, 12, 13, 14, 15] : List Int).length = 16 := rfl
      rw [l16] at ll
      obtain ⟨r, b', hk, t1, t2, t3⟩ := pop_turn b (rest := rest) (found := found) (fun e => by rw [e] at ll; simp at ll; omega) (by omega) (by omega)
      refine ⟨_, [some (.obj 0), some (.int m), some (.obj 1), some (.obj 2), some (.int (0 + (y : Int)))], _, rfl, ?_, b', rest.eraseIdx r, found ++ [rest[r]], _, rfl, rfl, ?_, by simp [hl]⟩
      · walk_at "ev"
        simp only [len_obj]
        walk_at "ev"
        simp only [omap_some, List.length_map, lift_some]
        walk_at "ev"
        simp only [t1]
        walk_at "ev"
        simp only [t2]
        walk_at "ev"
        simp only [t3]
        walk_at "ev"
      · refine List.Perm.trans ?_ hp
        rw [List.append_assoc]
        exact (erase_perm hk).append_left found)
  simp only [List.map_nil] at e2
  rw [e2]
  walk_at "ev"
  rw [fin_b rfl]
  have hnd : (found ++ rest).Nodup := hp.nodup_iff.mpr (by decide)
  refine ⟨found, b2, rfl, ?_, (List.nodup_append.mp hnd).1, fun p hpm => ?_⟩
  · rw [hl, List.length_range]; omega
  · have : p ∈ ([0, 1, 2, 3, 4, 5, 6, 7, 8, 9, 10, 11, 12, 13, 14, 15] : List Int) := hp.mem_iff.mp (List.mem_append_left _ hpm)
    simp only [List.mem_cons, List.not_mem_nil, or_false] at this
    omega
theorem min_int {i j : Int} {h : VH} : cMin h [.int i, .int j] = some (.int (if j < i then j else i)) := rfl
/-- what a drawn face keeps -/
structure DF (p : List Int) (big : Int) (f : List Int) : Prop where
  nd : f.Nodup
  pos : f ≠ []
  le : (f.length : Int) ≤ big + 1
  sub : ∀ x ∈ f, x ∈ p
theorem drawn_face_eq (b : Bx) {p : List Int} {big : Int} (pn : p.Nodup) (pp : p ≠ []) (pl : p.length ≤ 16) (h0 : 0 ≤ big) (h1 : big ≤ 3) : ∃ (f : List Int) (b' : Bx), F_law_drawn_face [.obj 0, .lst (p.map VV.int), .int big] [b.v] = .ok (tupI f) [b'.v] ∧ DF p big f := by
  have hp0 : 0 < p.length := List.length_pos_iff.mpr pp
  unfold F_law_drawn_face B_law_drawn_face
  walk_at "ev"
  simp only [List.any_nil, Bool.false_eq_true, false_or]
  rw [if_neg (by decide)]
  walk_at "ev"
  simp only [len_obj]
  walk_at "ev"
  simp only [omap_some, List.length_map, lift_some]
  walk_at "ev"
  obtain ⟨r, b1, e1, r0, r1⟩ := take_h b [.fl (p.map VV.int), .fl []] (m := big + 1) (by omega) (by omega)
  simp only [e1]
  walk_at "ev"
  simp only [min_int]
  walk_at "ev"
  generalize en : (if 1 + r < (p.length : Int) then 1 + r else (p.length : Int)) = n
  have hn : 1 ≤ n ∧ n ≤ p.length ∧ n ≤ big + 1 := by
    rw [← en]; split <;> omega
  rw [if_pos (by omega)]
  walk_at "ev"
  rw [rng_eq]
  obtain ⟨ρ2, h2, e2, b2, rest, found, o, rfl, rfl, hp, hl⟩ := for_pre (b := bNm 5) (body := lb_law_drawn_face_1) (fun (i : Nat) => VV.int (0 + (i : Int)))
    (fun pre ρ h => ∃ (b : Bx) (rest found : List Int) (o : Option VV), ρ = [some (.obj 0), some (.lst (p.map VV.int)), some (.int big), some (.obj 1), some (.obj 2), o] ∧ h = [b.v, .fl (rest.map VV.int), .fl (found.map VV.int)] ∧ (found ++ rest).Perm p ∧ found.length = pre.length)
    (List.range n.toNat) (ρ := [some (.obj 0), some (.lst (p.map VV.int)), some (.int big), some (.obj 1), some (.obj 2), none]) (h := [b1.v, .fl (p.map VV.int), .fl (([] : List Int).map VV.int)])
    ⟨b1, _, [], none, rfl, rfl, List.Perm.refl _, rfl⟩ (by
      rintro pre y post ey ρ h ⟨b, rest, found, o, rfl, rfl, hp, hl⟩
      have ll := hp.length_eq
      have lm : pre.length + 1 + post.length = n.toNat := by
        have := congrArg List.length ey
        simpa [Nat.add_assoc, Nat.add_comm, Nat.add_left_comm] using this.symm
      rw [List.length_append] at ll
      obtain ⟨r, b', hk, t1, t2, t3⟩ := pop_turn b (rest := rest) (found := found) (fun e => by rw [e] at ll; simp at ll; omega) (by omega) (by omega)
      refine ⟨_, [some (.obj 0), some (.lst (p.map VV.int)), some (.int big), some (.obj 1), some (.obj 2), some (.int (0 + (y : Int)))], _, rfl, ?_, b', rest.eraseIdx r, found ++ [rest[r]], _, rfl, rfl, ?_, by simp [hl]⟩
      · walk_at "ev"
        simp only [len_obj]
        walk_at "ev"
        simp only [omap_some, List.length_map, lift_some]
        walk_at "ev"
        simp only [t1]
        walk_at "ev"
        simp only [t2]
        walk_at "ev"
        simp only [t3]
        walk_at "ev"
      · refine List.Perm.trans ?_ hp
        rw [List.append_assoc]
        exact (erase_perm hk).append_left found)
  simp only [List.map_nil] at e2
  rw [e2]
  walk_at "ev"
  simp only [tuple_lst]
  walk_at "ev"
  rw [fin_b rfl]
  rw [List.length_range] at hl
  have hnd : (found ++ rest).Nodup := hp.nodup_iff.mpr pn
  refine ⟨found, b2, rfl, (List.nodup_append.mp hnd).1, fun e => ?_, by omega, fun x hx => hp.mem_iff.mp (List.mem_append_left _ hx)⟩
  rw [e] at hl; simp at hl; omega
theorem drawn_tops_eq (b : Bx) {mp mt big : Int} (p0 : 0 < mp) (p1 : mp ≤ 16) (t0 : 0 ≤ mt) (t1 : mt ≤ 100) (h0 : 0 ≤ big) (h1 : big ≤ 3) : ∃ (p : List Int) (fs : List (List Int)) (b' : Bx),
    F_law_drawn_tops [.obj 0, .int mp, .int mt, .int big] [b.v] = .ok (.lst (fs.map tupI)) [b'.v] ∧ p.Nodup ∧ (p.length : Int) ≤ mp ∧ (∀ x ∈ p, 0 ≤ x ∧ x ≤ 15) ∧ (fs.length : Int) ≤ mt ∧ ∀ f ∈ fs, DF p big f := by
  unfold F_law_drawn_tops B_law_drawn_tops
  obtain ⟨r, b1, e1, r0, r1⟩ := take1 b (m := mp) p0 (by omega)
  walk_at "ev"
  simp only [e1]
  walk_at "ev"
  obtain ⟨p, b2, e2, l2, n2, g2⟩ := points_eq b1 (m := 1 + r) (by omega) (by omega)
  simp only [e2]
  walk_at "ev"
  obtain ⟨r3, b3, e3, r30, r31⟩ := take1 b2 (m := mt + 1) (by omega) (by omega)
  simp only [e3]
  walk_at "ev"
  rw [if_pos (by omega)]
  walk_at "ev"
  rw [rng_eq, if_neg (by rw [List.length_map, List.length_range]; show ¬ r3.toNat > 16777216; omega)]
  have pp : p ≠ [] := fun e => by rw [e] at l2; simp at l2; omega
  obtain ⟨fs, h', e4, ⟨b4, rfl⟩, l4, g4⟩ := lc_draw (b := bNm 5) (t := tTrue) (e := le_law_drawn_tops_1) (ρ := wp [some (.obj 0), some (.int mp), some (.int mt), some (.int big), some (.lst (p.map VV.int)), none] [5]) (fun (i : Nat) => VV.int (0 + (i : Int))) tupI (fun h => ∃ b : Bx, h = [b.v]) (DF p big) (ys := List.range r3.toNat) (h := [b3.v]) ⟨b3, rfl⟩ (by
    rintro y _ h ⟨b, rfl⟩
    obtain ⟨f, b', e, hf⟩ := drawn_face_eq b (p := p) (big := big) n2 pp (by omega) h0 h1
    refine ⟨_, f, [b'.v], rfl, rfl, ?_, rfl, ⟨b', rfl⟩, hf⟩
    simp only [wp]
    walk_at "ev"
    exact e)
  rw [e4, afterL_ok]
  walk_at "ev"
  rw [fin_b rfl]
  exact ⟨p, fs, b4, rfl, n2, by omega, g2, by rw [l4, List.length_range]; omega, g4⟩
/-! parts of faces -/
theorem allS_snoc (l : List Int) (y : Int) : allS (l ++ [y]) = allS l ++ (allS l).map (fun s => s ++ [y]) := by
  unfold allS; rw [List.foldl_append]; rfl
theorem add_snoc {s : List Int} {y : Int} {h : VH} (hl : s.length ≤ 1000) : opAdd h (tupI s) (.tup [.int y]) = some (tupI (s ++ [y])) := by
  unfold tupI
  rw [add_tup (by simp; omega), List.map_append]; rfl
theorem parts_step {e : EF} {x0 : Option VV} {y : Int} {pre : List Int} {h : VH} (hl : pre.length ≤ 16) (he : e = eBin opAdd (eVar 3) (eTup (aCons (eVar 2) aNil))) :
    sSet 1 (eBin opAdd (eVar 1) (eLc [3] (iSeq (eVar 1)) (bNm 3) tTrue e)) [x0, some (.lst ((allS pre).map tupI)), some (.int y), none] h = .nx [x0, some (.lst ((allS (pre ++ [y])).map tupI)), some (.int y), none] h := by
  have hz : (allS pre).length ≤ 65536 := by
    rw [allS_len]
    exact Nat.pow_le_pow_right (by decide) hl
  walk_at "ev"
  rw [if_neg (by rw [List.length_map]; show ¬ (allS pre).length > 16777216; omega)]
  simp only [wp, List.set_cons_zero, List.set_cons_succ]
  rw [lc_map tupI (fun s => tupI (s ++ [y])) (fun s hs => ?_), afterL_ok]
  · walk_at "ev"
    rw [add_lst (by rw [List.length_map, List.length_map]; omega)]
    walk_at "ev"
    rw [allS_snoc, List.map_append, List.map_map]; rfl
  · have hsl := (mem_allS.mp hs).length_le
    refine ⟨_, rfl, rfl, ?_, rfl⟩
    subst he
    walk_at "ev"
    simp only [List.any_cons, List.any_nil, VV.isObj, Bool.or_false, Bool.false_eq_true, false_or, List.length_cons, List.length_nil]
    rw [if_neg (by decide)]
    walk_at "ev"
    rw [add_snoc (by omega)]; rfl
theorem law_subs_eq {f : List Int} {v : VV} {h : VH} (hv : cSorted h [v] = some (.lst ((isort f).map VV.int))) (hl : f.length ≤ 16) : F_law_subs [v] h = .ok (.lst ((subs (isort f)).map tupI)) h := by
  unfold F_law_subs B_law_subs
  walk_at "eva"
  simp only [List.any_nil, List.any_cons, VV.isObj, Bool.or_false, Bool.false_eq_true, false_or]
  rw [if_neg (by decide)]
  walk_at "ev"
  simp only [List.any_nil, List.any_cons, VV.isObj, Bool.or_false, Bool.false_eq_true, false_or, List.length_cons, List.length_nil]
  rw [if_neg (by decide)]
  walk_at "ev"
  simp only [hv]
  walk_at "ev"
  obtain ⟨ρ2, h2, e2, rfl, o, rfl⟩ := for_pre (b := bNm 2) (body := lb_law_subs_1) VV.int
    (fun pre ρ h' => h' = h ∧ ∃ o, ρ = [some v, some (.lst ((allS pre).map tupI)), o, none])
    (isort f) (ρ := [some v, some (.lst ((allS []).map tupI)), none, none]) (h := h) ⟨rfl, none, rfl⟩ (by
      rintro pre y post ey ρ h' ⟨rfl, o, rfl⟩
      have lm : pre.length ≤ 16 := by
        have := congrArg List.length ey
        rw [isort_len, List.length_append] at this
        omega
      exact ⟨_, _, _, rfl, parts_step lm rfl, rfl, _, rfl⟩)
  have e0 : ((allS []).map tupI) = [VV.tup []] := rfl
  rw [e0] at e2
  rw [e2]
  walk_at "ev"
  obtain ⟨r, er, _⟩ := allS_head (isort f)
  simp only [sl_lst]
  walk_at "ev"
  rw [cut_tail (by rw [er]; simp), fin_ret rfl, ← List.map_drop]; rfl
theorem own_faces_eq {f : List Int} {h : VH} (hl : f.length ≤ 16) : F_own_faces [tupI f] h = .ok (.lst ((subs f).map tupI)) h := by
  unfold F_own_faces B_own_faces
  walk_at "eva"
  simp only [List.any_nil, List.any_cons, VV.isObj, Bool.or_false, Bool.false_eq_true, false_or]
  rw [if_neg (by decide)]
  walk_at "ev"
  simp only [List.any_nil, List.any_cons, VV.isObj, Bool.or_false, Bool.false_eq_true, false_or, List.length_cons, List.length_nil]
  rw [if_neg (by decide)]
  walk_at "ev"
  have es : seqItems (tupI f) h = .ok (f.map VV.int) h := rfl
  simp only [es]
  walk_at "ev"
  obtain ⟨ρ2, h2, e2, rfl, o, rfl⟩ := for_pre (b := bNm 2) (body := lb_own_faces_1) VV.int
    (fun pre ρ h' => h' = h ∧ ∃ o, ρ = [some (tupI f), some (.lst ((allS pre).map tupI)), o, none])
    f (ρ := [some (tupI f), some (.lst ((allS []).map tupI)), none, none]) (h := h) ⟨rfl, none, rfl⟩ (by
      rintro pre y post ey ρ h' ⟨rfl, o, rfl⟩
      have lm : pre.length ≤ 16 := by
        have := congrArg List.length ey
        rw [List.length_append] at this
        omega
      exact ⟨_, _, _, rfl, parts_step lm rfl, rfl, _, rfl⟩)
  have e0 : ((allS []).map tupI) = [VV.tup []] := rfl
  rw [e0] at e2
  rw [e2]
  walk_at "ev"
  obtain ⟨r, er, _⟩ := allS_head f
  simp only [sl_lst]
  walk_at "ev"
  rw [cut_tail (by rw [er]; simp), fin_ret rfl, ← List.map_drop]; rfl
theorem subs_le {f : List Int} (hl : f.length ≤ 4) : (subs f).length ≤ 15 := by
  have h := subs_len (l := f)
  have : 2 ^ f.length ≤ 2 ^ 4 := Nat.pow_le_pow_right (by decide) hl
  omega
theorem parts_snoc (fs : List (List Int)) (f : List Int) : parts (fs ++ [f]) = parts fs ++ subs (isort f) := by
  unfold parts; rw [List.flatMap_append]; simp
theorem parts_le {fs : List (List Int)} (h : ∀ f ∈ fs, f.length ≤ 4) : (parts fs).length ≤ 15 * fs.length := by
  induction fs with
  | nil => simp [parts]
  | cons f fs ih =>
    have e : parts (f :: fs) = subs (isort f) ++ parts fs := by unfold parts; simp
    have := ih fun g hg => h g (List.mem_cons_of_mem _ hg)
    have := subs_le (f := isort f) (by rw [isort_len]; exact h f List.mem_cons_self)
    rw [e, List.length_append, List.length_cons]; omega
theorem parts_pos {fs : List (List Int)} : ∀ s ∈ parts fs, s ≠ [] := fun s hs => by
  obtain ⟨_, _, _, h⟩ := mem_parts.mp hs
  exact h
theorem closed_eq {fs : List (List Int)} {h : VH} (hf : ∀ f ∈ fs, f.length ≤ 4) (hn : fs.length ≤ 1000) (few : (parts fs).eraseDups.length < 76) : F_law_closed [.lst (fs.map tupI)] h = .ok (.lst ((clo fs).map tupI)) h := by
  unfold F_law_closed B_law_closed
  walk_at "eva"
  simp only [List.any_nil, Bool.false_eq_true, false_or]
  rw [if_neg (by decide)]
  walk_at "ev"
  obtain ⟨ρ2, h2, e2, rfl, o, rfl⟩ := for_pre (b := bNm 2) (body := lb_law_closed_1) tupI
    (fun pre ρ h' => h' = h ∧ ∃ o, ρ = [some (.lst (fs.map tupI)), some (.lst ((parts pre).map tupI)), o])
    fs (ρ := [some (.lst (fs.map tupI)), some (.lst ((parts []).map tupI)), none]) (h := h) ⟨rfl, none, rfl⟩ (by
      rintro pre y post ey ρ h' ⟨rfl, o, rfl⟩
      have hy : y.length ≤ 4 := hf y (by rw [ey]; simp)
      have lm : pre.length ≤ 1000 := by
        have := congrArg List.length ey
        rw [List.length_append] at this
        omega
      have hp := parts_le (fs := pre) fun f hf' => hf f (by rw [ey]; exact List.mem_append_left _ hf')
      have hs := subs_le (f := isort y) (by rw [isort_len]; exact hy)
      refine ⟨_, [some (.lst (fs.map tupI)), some (.lst ((parts (pre ++ [y])).map tupI)), some (tupI y)], _, rfl, ?_, rfl, _, rfl⟩
      walk_at "ev"
      simp only [law_subs_eq (f := y) (v := tupI y) sorted_tup (by omega)]
      walk_at "ev"
      rw [add_lst (by rw [List.length_map, List.length_map]; omega)]
      walk_at "ev"
      rw [parts_snoc, List.map_append])
  have e0 : ((parts []).map tupI) = [] := rfl
  rw [e0] at e2
  rw [e2]
  walk_at "ev"
  simp only [sortSet_tups parts_pos few]
  walk_at "ev"
  rw [fin_ret rfl]; rfl
/-! walls, wound webs, tyres -/
theorem fourwall_eq {p : List Int} {big : Int} {b : Bx} (hl : p.length ≤ 4) : F_law_fourwall [.lst (p.map VV.int), .int big] [b.v] = .ok (.lst (((subs (isort p)).filter fun s => decide ((s.length : Int) = big + 1)).map tupI)) [b.v] := by
  unfold F_law_fourwall B_law_fourwall
  walk_at "ev"
  simp only [List.any_nil, Bool.false_eq_true, false_or]
  rw [if_neg (by decide)]
  walk_at "ev"
  simp only [law_subs_eq (f := p) (v := .lst (p.map VV.int)) sorted_lst (by omega)]
  walk_at "ev"
  have hs := subs_le (f := isort p) (by rw [isort_len]; exact hl)
  obtain ⟨ρ2, h2, e2, ⟨o, rfl⟩, rfl⟩ := for_pre (b := bNm 3) (body := lb_law_fourwall_1) tupI
    (fun pre ρ h => (∃ o, ρ = [some (.lst (p.map VV.int)), some (.int big), some (.obj 1), o]) ∧ h = [b.v, .fl ((pre.filter fun s => decide ((s.length : Int) = big + 1)).map tupI)])
    (subs (isort p)) (ρ := [some (.lst (p.map VV.int)), some (.int big), some (.obj 1), none]) (h := [b.v, .fl []]) ⟨⟨none, rfl⟩, rfl⟩ (by
      rintro pre y post ey ρ h ⟨⟨o, rfl⟩, rfl⟩
      refine ⟨_, [some (.lst (p.map VV.int)), some (.int big), some (.obj 1), some (tupI y)], _, rfl, ?_, ⟨_, rfl⟩, rfl⟩
      have lm : pre.length ≤ 15 := by
        have := congrArg List.length ey
        rw [List.length_append] at this
        omega
      have lf := List.length_filter_le (fun s : List Int => decide ((s.length : Int) = big + 1)) pre
      have el : cLen [b.v, .fl ((pre.filter fun s => decide ((s.length : Int) = big + 1)).map tupI)] [tupI y] = some (.int (y.length : Int)) := by
        show some (VV.int ((y.map VV.int).length : Int)) = _
        rw [List.length_map]
      walk_at "ev"
      simp only [el]
      walk_at "ev"
      rw [List.filter_append]
      by_cases c : (y.length : Int) = big + 1
      · simp only [decide_eq_true c, reduceIte]
        walk_at "ev"
        rw [appO_fl (by rw [List.length_map]; omega) rfl]
        walk_at "ev"
        simp only [List.filter_cons, decide_eq_true c, if_true, List.filter_nil, List.map_append, List.map_cons, List.map_nil]
      · simp only [decide_eq_false c, Bool.false_eq_true, reduceIte]
        walk_at "ev"
        simp only [List.filter_cons, decide_eq_false c, Bool.false_eq_true, if_false, List.filter_nil, List.append_nil])
  rw [e2]
  walk_at "ev"
  rw [fin_b rfl]
/-- what the drawn tops keep -/
structure Tops (fs : List (List Int)) : Prop where
  pts : ∀ f ∈ fs, Pts f
  few : Few fs
  len : fs.length ≤ 100
theorem tops_drawn {p : List Int} {fs : List (List Int)} {big : Int} (hb : big ≤ 3) (pn : p.Nodup) (pl : p.length ≤ 6) (pr : ∀ x ∈ p, 0 ≤ x ∧ x ≤ 15) (hl : fs.length ≤ 100) (h : ∀ f ∈ fs, DF p big f) : Tops fs :=
  ⟨fun f hf => ⟨(h f hf).nd, (h f hf).pos, by have := (h f hf).le; omega, fun x hx => pr x ((h f hf).sub x hx)⟩, few_six pn pl fun f hf => ⟨(h f hf).nd, by have := (h f hf).le; omega, (h f hf).sub⟩, hl⟩
theorem tops_wall {p : List Int} {big : Int} (pn : p.Nodup) (pl : p.length ≤ 4) (pr : ∀ x ∈ p, 0 ≤ x ∧ x ≤ 15) : Tops ((subs (isort p)).filter fun s => decide ((s.length : Int) = big + 1)) := by
  have hm : ∀ f ∈ (subs (isort p)).filter (fun s => decide ((s.length : Int) = big + 1)), f.Sublist (isort p) ∧ f ≠ [] := fun f hf => mem_subs.mp (List.mem_filter.mp hf).1
  have hle : ∀ f ∈ (subs (isort p)).filter (fun s => decide ((s.length : Int) = big + 1)), f.length ≤ 4 := fun f hf => by have := (hm f hf).1.length_le; rw [isort_len] at this; omega
  refine ⟨fun f hf => ⟨((inc_isort pn).sub (hm f hf).1).nodup, (hm f hf).2, hle f hf, fun x hx => pr x (isort_mem.mp ((hm f hf).1.subset hx))⟩, few_six pn (by omega) fun f hf => ⟨((inc_isort pn).sub (hm f hf).1).nodup, hle f hf, fun x hx => isort_mem.mp ((hm f hf).1.subset hx)⟩, ?_⟩
  have := List.length_filter_le (fun s : List Int => decide ((s.length : Int) = big + 1)) (subs (isort p))
  have := subs_le (f := isort p) (by rw [isort_len]; exact pl)
  omega
theorem small_tops_eq (b : Bx) : ∃ (fs : List (List Int)) (b' : Bx), F_law_small_tops [.obj 0] [b.v] = .ok (.lst (fs.map tupI)) [b'.v] ∧ Tops fs ∧ ∃ p : List Int, p.length ≤ 5 ∧ ∀ f ∈ fs, ∀ x ∈ f, x ∈ p := by
  unfold F_law_small_tops B_law_small_tops
  obtain ⟨way, b1, e1, w0, w1⟩ := take1 b (m := 6) (by decide) (by decide)
  walk_at "ev"
  simp only [e1]
  walk_at "ev"
  by_cases c1 : way < 4
  · simp only [decide_eq_true c1, reduceIte]
    walk_at "ev"
    obtain ⟨p, fs, b2, e2, pn, pl, pr, fl, hf⟩ := drawn_tops_eq b1 (mp := 5) (mt := 5) (big := 3) (by decide) (by decide) (by decide) (by decide) (by decide) (by decide)
    simp only [e2]
    walk_at "ev"
    rw [fin_b rfl]
    exact ⟨fs, b2, rfl, tops_drawn (by decide) pn (by omega) pr (by omega) hf, p, by omega, fun f hf' x hx => (hf f hf').sub x hx⟩
  simp only [decide_eq_false c1, Bool.false_eq_true, reduceIte]
  walk_at "ev"
  by_cases c2 : way = 4
  · simp only [decide_eq_true c2, reduceIte]
    walk_at "ev"
    obtain ⟨p, fs, b2, e2, pn, pl, pr, fl, hf⟩ := drawn_tops_eq b1 (mp := 5) (mt := 8) (big := 1) (by decide) (by decide) (by decide) (by decide) (by decide) (by decide)
    simp only [e2]
    walk_at "ev"
    rw [fin_b rfl]
    exact ⟨fs, b2, rfl, tops_drawn (by decide) pn (by omega) pr (by omega) hf, p, by omega, fun f hf' x hx => (hf f hf').sub x hx⟩
  simp only [decide_eq_false c2, Bool.false_eq_true, reduceIte]
  walk_at "ev"
  obtain ⟨r, b2, e2, r0, r1⟩ := take1 b1 (m := 2) (by decide) (by decide)
  simp only [e2]
  walk_at "ev"
  obtain ⟨p, b3, e3, pl, pn, pr⟩ := points_eq b2 (m := 3 + r) (by omega) (by omega)
  simp only [e3]
  walk_at "ev"
  obtain ⟨r', b4, e4, r0', r1'⟩ := take1 b3 (m := 2) (by decide) (by decide)
  simp only [e4]
  walk_at "ev"
  simp only [fourwall_eq (p := p) (big := 1 + r') (b := b4) (by omega)]
  walk_at "ev"
  rw [fin_b rfl]
  refine ⟨_, b4, rfl, tops_wall pn (by omega) pr, p, by omega, fun f hf x hx => ?_⟩
  exact isort_mem.mp ((mem_subs.mp (List.mem_filter.mp hf).1).1.subset hx)
/-! is_face -/
def isFaceB (f : List Int) : Bool := decide (1 ≤ f.length ∧ f.length ≤ 4) && decide f.Nodup && f.all fun p => decide (0 ≤ p ∧ p ≤ 15)
theorem isFaceB_pts {f : List Int} (h : Pts f) : isFaceB f = true := by
  unfold isFaceB
  rw [decide_eq_true ⟨List.length_pos_iff.mpr h.pos, h.le⟩, decide_eq_true h.nd, Bool.true_and, Bool.true_and, List.all_eq_true]
  exact fun p hp => decide_eq_true (h.rng p hp)
theorem len_tupI {h : VH} {f : List Int} : cLen h [tupI f] = some (.int (f.length : Int)) := by
  show some (VV.int ((f.map VV.int).length : Int)) = _
  rw [List.length_map]
theorem seq_tupI {h : VH} {f : List Int} : seqItems (tupI f) h = .ok (f.map VV.int) h := rfl
theorem is_face_eq {f : List Int} {h : VH} (hl : f.length ≤ 1000) : F_is_face [tupI f] h = .ok (.bl (isFaceB f)) h := by
  have acc : noX (accGo (bNm 1) (stSet (eVar 1)) [some (tupI f), none] (f.map VV.int) h []) = .ok (dd f) h := by
    rw [show ([] : List Int) = dd [] from rfl, acc_pre VV.int dd f (fun pre y post e => ?_), noX_ok]
    have lm : pre.length ≤ 1000 := by
      have := congrArg List.length e
      rw [List.length_append] at this; omega
    have := dd_le pre
    refine ⟨_, rfl, ?_⟩
    show (if (dd pre).length ≥ 4000 then Res.no else .ok (if y ∈ dd pre then dd pre else dd pre ++ [y]) h) = _
    rw [if_neg (by omega), dd_snoc]
  unfold F_is_face B_is_face
  walk_at "ev"
  simp only [len_tupI]
  walk_at "ev"
  by_cases c1 : 1 ≤ f.length ∧ f.length ≤ 4
  · simp only [decide_eq_true (show (1 : Int) ≤ f.length by omega), if_true]
    walk_at "ev"
    simp only [decide_eq_true (show (f.length : Int) ≤ 3 + 1 by omega), Bool.not_true]
    walk_at "ev"
    simp only [seq_tupI]
    walk_at "ev"
    simp only [wp, List.set_cons_zero, List.set_cons_succ, acc]
    walk_at "ev"
    simp only [len_tupI]
    walk_at "ev"
    have dl : decide (((dd f).length : Int) < (f.length : Int)) = !decide f.Nodup := by
      rw [← dd_lt f]; exact Bool.eq_iff_iff.mpr (by simp)
    rw [dl]
    by_cases c2 : f.Nodup
    · simp only [decide_eq_true c2, Bool.not_true, Bool.false_eq_true, if_false]
      walk_at "ev"
      simp only [seq_tupI]
      walk_at "ev"
      rw [if_neg (by rw [List.length_map]; show ¬ f.length > 16777216; omega)]
      simp only [wp, List.set_cons_zero, List.set_cons_succ]
      rw [lc_map VV.int (fun p => VV.bl (decide (0 ≤ p ∧ p ≤ 15))) (fun p hp => ?_), afterL_ok]
      · walk_at "ev"
        have em : f.map (fun p => VV.bl (decide (0 ≤ p ∧ p ≤ 15))) = (f.map fun p => decide (0 ≤ p ∧ p ≤ 15)).map VV.bl := by rw [List.map_map]; rfl
        rw [em]
        simp only [all_bls]
        walk_at "ev"
        rw [fin_ret rfl]
        unfold isFaceB
        rw [decide_eq_true c1, decide_eq_true c2, List.all_map]; rfl
      · refine ⟨_, rfl, rfl, ?_, rfl⟩
        walk_at "ev"
        by_cases c3 : 0 ≤ p
        · simp only [decide_eq_true c3, if_true]
          walk_at "ev"
          simp only [c3, true_and]
        · simp only [decide_eq_false c3, Bool.false_eq_true, if_false]
          walk_at "ev"
          simp only [c3, false_and, decide_false]
    · simp only [decide_eq_false c2, Bool.not_false, if_true]
      walk_at "ev"
      rw [fin_ret rfl]
      unfold isFaceB
      rw [decide_eq_false c2, Bool.and_false, Bool.false_and]
  · have ef : isFaceB f = false := by
      unfold isFaceB
      rw [decide_eq_false c1, Bool.false_and, Bool.false_and]
    by_cases c0 : 1 ≤ f.length
    · simp only [decide_eq_true (show (1 : Int) ≤ f.length by omega), if_true]
      walk_at "ev"
      simp only [decide_eq_false (show ¬ (f.length : Int) ≤ 3 + 1 by omega), Bool.not_false, if_true]
      walk_at "ev"
      rw [fin_ret rfl, ef]
    · simp only [decide_eq_false (show ¬ (1 : Int) ≤ f.length by omega), Bool.false_eq_true, if_false]
      walk_at "ev"
      rw [fin_ret rfl, ef]
/-! a web is made -/
theorem enum_map {α : Type} (f : α → VV) : ∀ (n : Nat) (l : List α), enum n (l.map f) = (l.zipIdx n).map fun p => VV.tup [.int (p.2 : Int), f p.1]
  | _, [] => rfl
  | n, x :: l => by rw [List.map_cons, enum, List.zipIdx_cons, List.map_cons, enum_map f (n + 1) l]
theorem pat_pair {i j : Nat} {a b : VV} {ρ : VSt} : bTup 2 (bCons (bNm i) (bCons (bNm j) bNil)) (.tup [a, b]) ρ = some ((ρ.set i (some a)).set j (some b)) := rfl
theorem setD_dd {o i : VO} {l : List (List Int)} {x : List Int} (hl : (dd l).length < 16777216) : setD [o, i, .dT ((dd l).map keyI) ((dd l).map fun _ => VV.bl true)] (.obj 2) (tupI x) (.bl true) = some [o, i, .dT ((dd (l ++ [x])).map keyI) ((dd (l ++ [x])).map fun _ => VV.bl true)] := by
  have : setD [o, i, .dT ((dd l).map keyI) ((dd l).map fun _ => VV.bl true)] (.obj 2) (tupI x) (.bl true) = (keyV (tupI x)).bind fun k => if (VV.bl true).isObj = true ∨ ((dd l).map keyI).length ≥ SZ then none else some [o, i, .dT (putKs ((dd l).map keyI) k) (putVs ((dd l).map keyI) ((dd l).map fun _ => VV.bl true) k (.bl true))] := rfl
  rw [this, keyV_tupI]
  show (if _ then _ else _) = _
  rw [if_neg (fun h => h.elim (fun z => by cases z) (fun z => by rw [List.length_map] at z; have : (dd l).length ≥ 16777216 := z; omega)), putKs_dd, putVs_dd]
theorem web_loop1 {o i : VO} {fs : List (List Int)} (hf : ∀ f ∈ fs, Pts f) (hn : fs.length ≤ 1000) :
    ∃ o3 o4 o5, forGo (bTup 2 (bCons (bNm 4) (bCons (bNm 3) bNil))) lb_Web_init_2 (enum 0 (fs.map tupI)) [some (.obj 1), some (.lst (fs.map tupI)), some (.obj 2), none, none, none, none, none] [o, i, .dT [] []]
      = .nx [some (.obj 1), some (.lst (fs.map tupI)), some (.obj 2), o3, o4, o5, none, none] [o, i, .dT ((dd (parts fs)).map keyI) ((dd (parts fs)).map fun _ => VV.bl true)] := by
  rw [enum_map]
  obtain ⟨ρ2, h2, e2, ⟨o3, o4, o5, rfl⟩, rfl⟩ := for_pre (b := bTup 2 (bCons (bNm 4) (bCons (bNm 3) bNil))) (body := lb_Web_init_2) (fun p : List Int × Nat => VV.tup [.int (p.2 : Int), tupI p.1])
    (fun pre ρ h => (∃ o3 o4 o5, ρ = [some (.obj 1), some (.lst (fs.map tupI)), some (.obj 2), o3, o4, o5, none, none]) ∧ h = [o, i, .dT ((dd (parts (pre.map (·.1)))).map keyI) ((dd (parts (pre.map (·.1)))).map fun _ => VV.bl true)])
    (fs.zipIdx 0) (ρ := [some (.obj 1), some (.lst (fs.map tupI)), some (.obj 2), none, none, none, none, none]) (h := [o, i, .dT [] []]) ⟨⟨none, none, none, rfl⟩, rfl⟩ (by
      rintro pre ⟨f, n⟩ post ey ρ h ⟨⟨o3, o4, o5, rfl⟩, rfl⟩
      have ef : fs = pre.map (·.1) ++ f :: post.map (·.1) := by
        have := congrArg (List.map (·.1)) ey
        rw [List.zipIdx_map_fst, List.map_append, List.map_cons] at this
        exact this
      have hfm : f ∈ fs := by rw [ef]; simp
      have pf := hf f hfm
      have hlen : (pre.map (·.1)).length ≤ 1000 := by
        have := congrArg List.length ef
        rw [List.length_append] at this; omega
      have hpl := parts_le (fs := pre.map (·.1)) fun g hg => (hf g (by rw [ef]; exact List.mem_append_left _ hg)).le
      have hsl := subs_le (f := isort f) (by rw [isort_len]; exact pf.le)
      obtain ⟨ρ3, h3, e3, ⟨o5', rfl⟩, rfl⟩ := for_pre (b := bNm 5) (body := lb_Web_init_1) tupI
        (fun q ρ h => (∃ o5, ρ = [some (.obj 1), some (.lst (fs.map tupI)), some (.obj 2), some (tupI f), some (.int (n : Int)), o5, none, none]) ∧ h = [o, i, .dT ((dd (parts (pre.map (·.1)) ++ q)).map keyI) ((dd (parts (pre.map (·.1)) ++ q)).map fun _ => VV.bl true)])
        (subs (isort f)) (ρ := [some (.obj 1), some (.lst (fs.map tupI)), some (.obj 2), some (tupI f), some (.int (n : Int)), o5, none, none]) (h := [o, i, .dT ((dd (parts (pre.map (·.1)))).map keyI) ((dd (parts (pre.map (·.1)))).map fun _ => VV.bl true)]) ⟨⟨o5, rfl⟩, by rw [List.append_nil]⟩ (by
          rintro q y q' eq ρ h ⟨⟨o5, rfl⟩, rfl⟩
          refine ⟨_, _, _, rfl, ?_, ⟨some (tupI y), rfl⟩, rfl⟩
          have hq : q.length ≤ 15 := by
            have := congrArg List.length eq
            rw [List.length_append] at this; omega
          have hdl := dd_le (parts (pre.map (·.1)) ++ q)
          rw [List.length_append] at hdl
          walk_at "ev"
          rw [setD_dd (by omega), List.append_assoc]
          walk_at "ev")
      refine ⟨_, [some (.obj 1), some (.lst (fs.map tupI)), some (.obj 2), some (tupI f), some (.int (n : Int)), o5', none, none], [o, i, .dT ((dd (parts (pre.map (·.1)) ++ subs (isort f))).map keyI) ((dd (parts (pre.map (·.1)) ++ subs (isort f))).map fun _ => VV.bl true)], pat_pair, ?_, ⟨_, _, _, rfl⟩, ?_⟩
      · walk_at "ev"
        simp only [is_face_eq (f := f) (by have := pf.le; omega), isFaceB_pts pf]
        walk_at "ev"
        simp only [sorted_tup]
        walk_at "ev"
        simp only [tuple_lst]
        walk_at "ev"
        have eo := own_faces_eq (f := isort f) (h := [o, i, .dT ((dd (parts (pre.map (·.1)))).map keyI) ((dd (parts (pre.map (·.1)))).map fun _ => VV.bl true)]) (by rw [isort_len]; have := pf.le; omega)
        unfold tupI at eo
        simp only [eo]
        walk_at "ev"
        exact e3
      · rw [List.map_append, List.map_cons, List.map_nil, parts_snoc])
  rw [List.zipIdx_map_fst] at e2
  exact ⟨o3, o4, o5, e2⟩
theorem len_dict {o i : VO} {ks vs} : cLenD [o, i, .dT ks vs] [.obj 2] = some (.int (ks.length : Int)) := rfl
theorem list_dict {o i : VO} {l : List (List Int)} {vs} {t : VH} : cListD (o :: i :: .dT (l.map keyI) vs :: t) [.obj 2] = some (.lst (l.map tupI)) := by
  have : cListD (o :: i :: .dT (l.map keyI) vs :: t) [.obj 2] = some (.lst ((l.map keyI).map fun k => .tup (k.map keyB))) := rfl
  rw [this, List.map_map]
  congr 2
  exact List.map_congr_left fun k _ => keyB_I k
theorem sz_snoc (E : List (List Int)) (f : List Int) (k : Nat) : sz (E ++ [f]) k = sz E k ++ (if f.length = k then [f] else []) := by
  unfold sz
  rw [List.filter_append, List.filter_cons, List.filter_nil]
  by_cases h : f.length = k
  · rw [decide_eq_true h, if_pos rfl, if_pos h]
  · rw [decide_eq_false h, if_neg (by decide), if_neg h]
/-- the heap while the table is filled -/
def heapT (o d : VO) (E : List (List Int)) : VH := [o, .ins "Web" ["table"] [.obj 7], d, .fl ((sz E 1).map tupI), .fl ((sz E 2).map tupI), .fl ((sz E 3).map tupI), .fl ((sz E 4).map tupI), .lo [.obj 3, .obj 4, .obj 5, .obj 6]]
theorem sz_le (E : List (List Int)) (k : Nat) : (sz E k).length ≤ E.length := List.length_filter_le _ _
theorem web_turn {o d : VO} {pre : List (List Int)} {f : List Int} {x1 x2 x4 x5 : Option VV} (hf : Face f) (hl : pre.length ≤ 10000) : lb_Web_init_3 [some (.obj 1), x1, x2, some (tupI f), x4, x5, none, none] (heapT o d pre) = .nx [some (.obj 1), x1, x2, some (tupI f), x4, x5, none, none] (heapT o d (pre ++ [f])) := by
  have h1 := hf.le
  have h2 : 0 < f.length := List.length_pos_iff.mpr hf.pos
  have z1 := sz_le pre 1
  have z2 := sz_le pre 2
  have z3 := sz_le pre 3
  have z4 := sz_le pre 4
  have key : ∀ (j : Nat) (xs : List VV), (heapT o d pre)[3 + j]? = some (.fl xs) → j < 4 → (f.length : Int) - 1 = j → xs.length < 16777216 → lb_Web_init_3 [some (.obj 1), x1, x2, some (tupI f), x4, x5, none, none] (heapT o d pre) = .nx [some (.obj 1), x1, x2, some (tupI f), x4, x5, none, none] ((heapT o d pre).set (3 + j) (.fl (xs ++ [tupI f]))) := by
    intro j xs hx hj ej hz
    have ef : fldR "Web" "table" (insOf (heapT o d pre) (.obj 1)) (heapT o d pre) = .ok (.obj 7) (heapT o d pre) := rfl
    have ei : opIx (heapT o d pre) (.obj 7) (.int (j : Int)) = some (.obj (3 + j)) := by
      match j, hj with
      | 0, _ => rfl
      | 1, _ => rfl
      | 2, _ => rfl
      | 3, _ => rfl
    simp only [s_expr, a_app, a_bin, a_fld, a_var, List.getElem?_cons_zero, getV_some, bnd_ok, ef, a_call, a_cons, a_nil, List.getElem?_cons_succ, len_tupI, lift_some, a_c, o_sub, ej, ei, lstR_obj, hx, lstRO_fl, chkL_some, appV_obj, appO_fl hz isObj_tupI, sbd_ok]
  have c : f.length = 1 ∨ f.length = 2 ∨ f.length = 3 ∨ f.length = 4 := by omega
  unfold heapT at key ⊢
  rcases c with c | c | c | c
  · rw [key 0 _ rfl (by decide) (by omega) (by rw [List.length_map]; omega)]
    simp only [sz_snoc, c, List.map_append, List.append_nil, Nat.reduceEqDiff, if_false, if_true]
    rfl
  · rw [key 1 _ rfl (by decide) (by omega) (by rw [List.length_map]; omega)]
    simp only [sz_snoc, c, List.map_append, List.append_nil, Nat.reduceEqDiff, if_false, if_true]
    rfl
  · rw [key 2 _ rfl (by decide) (by omega) (by rw [List.length_map]; omega)]
    simp only [sz_snoc, c, List.map_append, List.append_nil, Nat.reduceEqDiff, if_false, if_true]
    rfl
  · rw [key 3 _ rfl (by decide) (by omega) (by rw [List.length_map]; omega)]
    simp only [sz_snoc, c, List.map_append, List.append_nil, Nat.reduceEqDiff, if_false, if_true]
    rfl
theorem web_loop2 {o d : VO} {E : List (List Int)} {x1 x2 x3 x4 x5 : Option VV} (hE : ∀ f ∈ E, Face f) (hl : E.length ≤ 10000) : ∃ x3', forGo (bNm 3) lb_Web_init_3 (E.map tupI) [some (.obj 1), x1, x2, x3, x4, x5, none, none] (heapT o d []) = .nx [some (.obj 1), x1, x2, x3', x4, x5, none, none] (heapT o d E) := by
  obtain ⟨ρ2, h2, e2, ⟨x3', rfl⟩, rfl⟩ := for_pre (b := bNm 3) (body := lb_Web_init_3) tupI
    (fun pre ρ h => (∃ x3, ρ = [some (.obj 1), x1, x2, x3, x4, x5, none, none]) ∧ h = heapT o d pre)
    E (ρ := [some (.obj 1), x1, x2, x3, x4, x5, none, none]) (h := heapT o d []) ⟨⟨x3, rfl⟩, rfl⟩ (by
      rintro pre y post ey ρ h ⟨⟨x3, rfl⟩, rfl⟩
      refine ⟨_, _, _, rfl, web_turn (hE y (by rw [ey]; simp)) (by have := congrArg List.length ey; rw [List.length_append] at this; omega), ⟨_, rfl⟩, rfl⟩)
  exact ⟨x3', e2⟩
/-- the dict of places -/
theorem dict_line {K0 V0} {l : List (List Int)} {h : VH} {x0 x1 x2 x5 x6 x7 : Option VV} (hn : l.Nodup) (hk : ∀ f ∈ l, keyI f ∉ K0) (hz : K0.length + l.length ≤ 10000) (hKV : K0.length = V0.length) :
    accGo (bTup 2 (bCons (bNm 4) (bCons (bNm 3) bNil))) (stDict (eVar 3) (eVar 4)) [x0, x1, x2, none, none, x5, x6, x7] (enum 0 (l.map tupI)) h (K0, V0) = .ok (K0 ++ l.map keyI, V0 ++ idxs l) h := by
  rw [enum_map]
  have := acc_pre (b := bTup 2 (bCons (bNm 4) (bCons (bNm 3) bNil))) (stp := stDict (eVar 3) (eVar 4)) (ρ := [x0, x1, x2, none, none, x5, x6, x7]) (h := h) (fun p : List Int × Nat => VV.tup [.int (p.2 : Int), tupI p.1])
    (fun pre => (K0 ++ (pre.map (·.1)).map keyI, V0 ++ idxs (pre.map (·.1)))) (l.zipIdx 0) (by
      rintro pre ⟨f, n⟩ post ey
      have el : l = pre.map (·.1) ++ f :: post.map (·.1) := by
        have := congrArg (List.map (·.1)) ey
        rw [List.zipIdx_map_fst, List.map_append, List.map_cons] at this
        exact this
      have en : n = pre.length := by
        have h1 : (l.zipIdx 0)[pre.length]? = some (f, n) := by rw [ey]; simp
        rw [List.getElem?_zipIdx] at h1
        obtain ⟨a, _, h3⟩ := Option.map_eq_some_iff.mp h1
        have := congrArg Prod.snd h3
        simpa using this.symm
      refine ⟨_, pat_pair, ?_⟩
      have hl := congrArg List.length el
      rw [List.length_append, List.length_map] at hl
      have nk : keyI f ∉ K0 ++ (pre.map (·.1)).map keyI := by
        intro z
        rcases List.mem_append.mp z with z | z
        · exact hk f (by rw [el]; simp) z
        · have hd := hn
          rw [el, List.nodup_append] at hd
          obtain ⟨g, hg, e⟩ := List.mem_map.mp z
          exact hd.2.2 g hg f List.mem_cons_self (keyI_inj e)
      have hh : hasK (K0 ++ (pre.map (·.1)).map keyI) (keyI f) = false := by
        unfold hasK
        rw [List.any_eq_false]
        exact fun x hx => by rw [decide_eq_true_eq]; exact fun e => nk (e ▸ hx)
      have st : stDict (eVar 3) (eVar 4) [x0, x1, x2, some (tupI f), some (.int (n : Int)), x5, x6, x7] h (K0 ++ (pre.map (·.1)).map keyI, V0 ++ idxs (pre.map (·.1))) = (match keyV (tupI f) with
        | some k => if (VV.int (n : Int)).isObj = true ∨ (K0 ++ (pre.map (·.1)).map keyI).length ≥ SZ then .no else .ok (putKs (K0 ++ (pre.map (·.1)).map keyI) k, putVs (K0 ++ (pre.map (·.1)).map keyI) (V0 ++ idxs (pre.map (·.1))) k (.int (n : Int))) h
        | none => .no) := rfl
      have e1 : stDict (eVar 3) (eVar 4) [x0, x1, x2, some (tupI f), some (.int (n : Int)), x5, x6, x7] h (K0 ++ (pre.map (·.1)).map keyI, V0 ++ idxs (pre.map (·.1))) = .ok (K0 ++ ((pre ++ [(f, n)]).map (·.1)).map keyI, V0 ++ idxs ((pre ++ [(f, n)]).map (·.1))) h := by
        rw [st, keyV_tupI]
        simp only
        rw [if_neg (fun h => h.elim (fun z => by cases z) (fun z => by rw [List.length_append, List.length_map, List.length_map] at z; have : K0.length + pre.length ≥ 16777216 := z; omega))]
        unfold putKs putVs
        rw [hh]
        simp only [Bool.false_eq_true, if_false, List.map_append, List.map_cons, List.map_nil, List.append_assoc]
        congr 3
        unfold idxs
        rw [List.length_append, List.length_singleton, List.range_succ, List.map_append, List.length_map, en]
        rfl
      exact e1)
  have e0 : (K0 ++ (([] : List (List Int × Nat)).map (·.1)).map keyI, V0 ++ idxs (([] : List (List Int × Nat)).map (·.1))) = (K0, V0) := by simp [idxs]
  simp only [List.zipIdx_map_fst] at this
  rw [e0] at this
  exact this
abbrev stW : VSt → VH → DA → Res DA := stIn (iEnum (aCons (eVar 7) aNil)) (bTup 2 (bCons (bNm 4) (bCons (bNm 3) bNil))) [4, 3] (stDict (eVar 3) (eVar 4))
theorem stW_eq {K0 V0} {l : List (List Int)} {h : VH} {x0 x1 x2 x5 x6 : Option VV} (hn : l.Nodup) (hk : ∀ f ∈ l, keyI f ∉ K0) (hz : K0.length + l.length ≤ 10000) (hKV : K0.length = V0.length) :
    stW [x0, x1, x2, none, none, x5, x6, some (.lst (l.map tupI))] h (K0, V0) = .ok (K0 ++ l.map keyI, V0 ++ idxs l) h := by
  have : stW [x0, x1, x2, none, none, x5, x6, some (.lst (l.map tupI))] h (K0, V0) = accGo (bTup 2 (bCons (bNm 4) (bCons (bNm 3) bNil))) (stDict (eVar 3) (eVar 4)) [x0, x1, x2, none, none, x5, x6, some (.lst (l.map tupI))] (enum 0 (l.map tupI)) h (K0, V0) := rfl
  rw [this, dict_line hn hk hz hKV]
theorem dict_all {E : List (List Int)} {h : VH} {x0 x1 x2 x5 x6 : Option VV} (hE : E.Nodup) (hz : E.length ≤ 1000) :
    noX (accGo (bNm 7) stW [x0, x1, x2, none, none, x5, x6, none] [szL E 1, szL E 2, szL E 3, szL E 4] h ([], [])) = .ok ((ordE E).map keyI, ordV E) h := by
  have z1 := sz_le E 1
  have z2 := sz_le E 2
  have z3 := sz_le E 3
  have z4 := sz_le E 4
  have no : ∀ {i j : Nat}, i ≠ j → ∀ f ∈ sz E i, keyI f ∉ (sz E j).map keyI := fun hij f hf => not_key fun z => hij ((mem_sz.mp hf).2.symm.trans (mem_sz.mp z).2)
  have l1 : ((sz E 1).map keyI).length = (sz E 1).length := List.length_map _
  have i1 := idxs_len (sz E 1)
  have i2 := idxs_len (sz E 2)
  have i3 := idxs_len (sz E 3)
  simp only [accGo, bNm_ap, List.set_cons_zero, List.set_cons_succ, szL]
  rw [stW_eq (sz_nodup hE 1) (by simp) (by simp; omega) rfl, bind_ok, List.nil_append, List.nil_append]
  rw [stW_eq (sz_nodup hE 2) (no (by decide)) (by simp; omega) i1, bind_ok]
  rw [stW_eq (sz_nodup hE 3) (fun f hf z => (List.mem_append.mp z).elim (no (by decide) f hf) (no (by decide) f hf)) (by simp; omega) (by rw [List.length_append, List.length_append, i1, i2]), bind_ok]
  rw [stW_eq (sz_nodup hE 4) (fun f hf z => (List.mem_append.mp z).elim (fun z => (List.mem_append.mp z).elim (no (by decide) f hf) (no (by decide) f hf)) (no (by decide) f hf)) (by simp; omega) (by rw [List.length_append, List.length_append, List.length_append, List.length_append, i1, i2, i3]), bind_ok]
  unfold ordE ordV
  simp only [List.map_append, List.append_assoc]
  rfl
theorem table_new {x0 x1 x2 x3 x4 x5 : Option VV} {o i d : VO} : eLcR [6] (iRange1 (eBin opAdd (eC (.int 3)) (eC (.int 1)))) (bNm 6) tTrue (eLstO aNil) [x0, x1, x2, x3, x4, x5, none, none] [o, i, d] = .ok (.obj 7) [o, i, d, .fl [], .fl [], .fl [], .fl [], .lo [.obj 3, .obj 4, .obj 5, .obj 6]] := rfl
theorem web_init {fs : List (List Int)} {o : VO} (hf : ∀ f ∈ fs, Pts f) (hn : fs.length ≤ 1000) (few : (parts fs).eraseDups.length ≤ 120) :
    ∃ d, F_Web_init [.obj 1, .lst (fs.map tupI)] [o, .ins "Web" [] []] = .ok .non [o, .ins "Web" ["table", "places"] [.obj 7, .dT ((ordE (clo fs)).map keyI) (ordV (clo fs))], d, .fzn (szL (clo fs) 1), .fzn (szL (clo fs) 2), .fzn (szL (clo fs) 3), .fzn (szL (clo fs) 4), .fzn (.lst [szL (clo fs) 1, szL (clo fs) 2, szL (clo fs) 3, szL (clo fs) 4])] := by
  obtain ⟨o3, o4, o5, e1⟩ := web_loop1 (o := o) (i := .ins "Web" [] []) hf hn
  have wf := webf_clo hf
  have ecl : (clo fs).length = (parts fs).eraseDups.length := by unfold clo; exact (fsort_perm _).length_eq
  unfold F_Web_init B_Web_init
  walk_at "ev"
  rw [e1]
  walk_at "ev"
  simp only [len_dict, List.length_map, dd_len]
  walk_at "ev"
  simp only [decide_eq_false (show ¬ (120 : Int) < ((parts fs).eraseDups.length : Int) by omega), Bool.false_eq_true, if_false]
  simp only [s_seq, s_skip, thn_nx, s_fldS, table_new, sbd_ok, a_var, List.getElem?_cons_zero, getV_some]
  have es : ∀ d : VO, setF [o, .ins "Web" [] [], d, .fl [], .fl [], .fl [], .fl [], .lo [.obj 3, .obj 4, .obj 5, .obj 6]] "Web" "table" (.obj 1) (.obj 7) = some (heapT o d []) := fun _ => rfl
  simp only [es, onh_some, thn_nx, s_seq]
  have hd : ∀ k ∈ dd (parts fs), k ≠ [] := fun k hk => parts_pos k (mem_dd.mp hk)
  have el : cListD (heapT o (.dT ((dd (parts fs)).map keyI) ((dd (parts fs)).map fun _ => VV.bl true)) []) [.obj 2] = some (.lst ((dd (parts fs)).map tupI)) := list_dict
  have ec : fsort (dd (parts fs)) = clo fs := fsort_dd _
  simp only [s_for, a_seq, a_call, a_cons, a_nil, a_var, List.getElem?_cons_succ, List.getElem?_cons_zero, getV_some, bnd_ok, el, lift_some, sorted_tups hd, seqI_lst, sbd_ok, ec]
  obtain ⟨x3', e2⟩ := web_loop2 (o := o) (d := .dT ((dd (parts fs)).map keyI) ((dd (parts fs)).map fun _ => VV.bl true)) (E := clo fs) (x1 := some (.lst (fs.map tupI))) (x2 := some (.obj 2)) (x3 := o3) (x4 := o4) (x5 := o5) wf.face (by omega)
  rw [e2]
  simp only [thn_nx, s_fldS, a_dc2, a_seq, a_frzD, a_fld, a_var, List.getElem?_cons_zero, getV_some, bnd_ok]
  have e3 : fldR "Web" "table" (insOf (heapT o (.dT ((dd (parts fs)).map keyI) ((dd (parts fs)).map fun _ => VV.bl true)) (clo fs)) (.obj 1)) (heapT o (.dT ((dd (parts fs)).map keyI) ((dd (parts fs)).map fun _ => VV.bl true)) (clo fs)) = .ok (.obj 7) (heapT o (.dT ((dd (parts fs)).map keyI) ((dd (parts fs)).map fun _ => VV.bl true)) (clo fs)) := rfl
  simp only [e3, bnd_ok, frzR_obj]
  have e4 : ∀ d : VO, frzO ((heapT o d (clo fs))[7]?) 7 (heapT o d (clo fs)) = .ok (.lst [szL (clo fs) 1, szL (clo fs) 2, szL (clo fs) 3, szL (clo fs) 4]) [o, .ins "Web" ["table"] [.obj 7], d, .fzn (szL (clo fs) 1), .fzn (szL (clo fs) 2), .fzn (szL (clo fs) 3), .fzn (szL (clo fs) 4), .fzn (.lst [szL (clo fs) 1, szL (clo fs) 2, szL (clo fs) 3, szL (clo fs) 4])] := fun _ => rfl
  simp only [e4, bnd_ok, seqI_lst, wp, List.set_cons_zero, List.set_cons_succ]
  rw [dict_all wf.nd (by omega)]
  simp only [bnd_ok, sbd_ok, a_var, List.getElem?_cons_zero, getV_some]
  have e5 : ∀ (d v : VV) (D a b c e f : VO), setF [o, .ins "Web" ["table"] [.obj 7], D, a, b, c, e, f] "Web" "places" (.obj 1) v = some [o, .ins "Web" ["table", "places"] [.obj 7, v], D, a, b, c, e, f] := fun _ _ _ _ _ _ _ _ => rfl
  simp only [e5 .non, onh_some]
  refine ⟨.dT ((dd (parts fs)).map keyI) ((dd (parts fs)).map fun _ => VV.bl true), ?_⟩
  show Res.ok VV.non (trim 2 .non _) = _
  unfold trim
  rw [if_neg (by simp), if_neg (fun h => by
    have h2 := h.2
    simp [lowO, lowV] at h2)]
theorem web_make {fs : List (List Int)} {o : VO} (ho : lowO 1 o = true) (hf : ∀ f ∈ fs, Pts f) (hn : fs.length ≤ 1000) (few : (parts fs).eraseDups.length ≤ 120) :
    mkZ 1 (F_Web_init [.obj 1, .lst (fs.map tupI)] [o, .ins "Web" [] []]) = .ok (webV (clo fs)) [o] := by
  obtain ⟨d, e⟩ := web_init (o := o) hf hn few
  rw [e]
  unfold mkZ
  simp only
  rw [if_pos ⟨by simp, by simp [ho]⟩]
  rfl
theorem web_make' {E : List (List Int)} (w : WebF E) (hE : E.length ≤ 120) {o : VO} (ho : lowO 1 o = true) : mkZ 1 (F_Web_init [.obj 1, .lst (E.map tupI)] [o, .ins "Web" [] []]) = .ok (webV E) [o] := by
  have em := web_make (fs := E) ho (fun f hf => (w.face f hf).pts) (by omega) (by
    have e : (clo E).length = (parts E).eraseDups.length := (fsort_perm _).length_eq
    rw [← e, w.clo]; omega)
  rw [w.clo] at em
  exact em
theorem take0 (b : Bx) {m : Int} (hm : 0 < m) (hl : m.natAbs.log2 < 9000) : ∃ r b', F_law_take [.obj 0, .int m] [b.v] = .ok (.int r) [Bx.v b'] ∧ 0 ≤ r ∧ r < m := by
  obtain ⟨r, b', e, h1, h2⟩ := take_eq (n := 0) (h := [b.v]) (b := b) rfl hm hl
  exact ⟨r, b', e, h1, h2⟩
def restOk (r : Int) : Prop := r = 0 ∨ 2 ≤ r ∧ r ≤ 60
theorem drests_ok (b : Bx) : ∃ (r : Int) (b' : Bx), F_law_drawn_rests [.obj 0] [b.v] = .ok (.int r) [b'.v] ∧ restOk r := by
  unfold F_law_drawn_rests B_law_drawn_rests
  obtain ⟨way, b1, e1, h1, h2⟩ := take0 b (m := 5) (by decide) (by decide)
  walk_at "ev"
  simp only [e1]
  walk_at "ev"
  by_cases c1 : way < 2
  · simp only [decide_eq_true c1, reduceIte]
    walk_at "ev"
    rw [fin_b rfl]
    exact ⟨_, b1, rfl, .inl rfl⟩
  · simp only [decide_eq_false c1, Bool.false_eq_true, reduceIte]
    obtain ⟨r, b2, e2, h3, h4⟩ := take0 b1 (m := 59) (by decide) (by decide)
    walk_at "ev"
    simp only [e2]
    walk_at "ev"
    simp only [List.any_cons, List.any_nil, VV.isObj, Bool.or_false, Bool.false_eq_true, false_or, List.length_cons, List.length_nil]
    rw [if_neg (by decide)]
    walk_at "eva"
    have : way = 2 ∨ way = 3 ∨ way = 4 := by omega
    rcases this with rfl | rfl | rfl
    · exact ⟨2, b2, rfl, .inr (by omega)⟩
    · exact ⟨3, b2, rfl, .inr (by omega)⟩
    · exact ⟨2 + r, b2, rfl, .inr (by omega)⟩
def restI (r i : Int) : Int := if r = 0 then i else i.fmod r
theorem rest_eq {a b : Int} {h : VH} : F_rest [.int a, .int b] h = .ok (.int (restI b a)) h := by
  unfold F_rest B_rest restI
  by_cases e : b = 0
  · subst e
    walk_at "ev"
    (first | rw [fin1] | rw [fin_ret rfl])
  · walk_at "ev"
    simp only [decide_eq_false e, Bool.false_eq_true, if_neg e, reduceIte, o_mod e]
    walk_at "ev"
    (first | rw [fin1] | rw [fin_ret rfl])
def onI (f : Int → Int) : VV → VV
  | .int i => .int (f i)
  | v => v
theorem map_onI (f : Int → Int) (l : List Int) : (l.map VV.int).map (onI f) = (l.map f).map VV.int := by
  rw [List.map_map, List.map_map]; rfl
theorem mem_int {l : List Int} {x : VV} (h : x ∈ l.map VV.int) : ∃ i ∈ l, x = .int i := by
  obtain ⟨i, hi, rfl⟩ := List.mem_map.mp h
  exact ⟨i, hi, rfl⟩
theorem rested_eq {l : List Int} {r : Int} {h : VH} (hl : l.length ≤ SZ) : F_rested [.lst (l.map VV.int), .int r] h = .ok (.lst ((l.map (restI r)).map VV.int)) h := by
  unfold F_rested B_rested
  walk_at "ev"
  rw [if_neg (by rw [List.length_map]; omega), lc_pure (onI (restI r)) (fun x hx => ?_), afterL_ok, map_onI]
  · walk_at "ev"
    (first | rw [fin1] | rw [fin_ret rfl])
  · obtain ⟨i, _, rfl⟩ := mem_int hx
    refine ⟨_, rfl, rfl, ?_, rfl⟩
    simp only [wp]
    walk_at "ev"
    exact rest_eq
theorem mulOk_big {i j : Int} (hi : i.natAbs < 2 ^ 400) (hj : j.natAbs < 2 ^ 400) : mulOk i j = true := by
  have l : ∀ n : Nat, n < 2 ^ 400 → n.log2 < 400 := fun n hn => by
    by_cases h0 : n = 0
    · subst h0; decide
    · exact (Nat.log2_lt h0).mpr hn
  unfold mulOk
  have h1 := l _ hi
  have h2 := l _ hj
  rw [decide_eq_true (p := i.natAbs.log2 + j.natAbs.log2 < 1000000) (by omega)]
  simp
def dot (l m : List Int) : Int := ((l.zip m).map fun p => p.1 * p.2).sum
def onP : VV → VV
  | .tup [.int i, .int j] => .int (i * j)
  | v => v
theorem lc_dot {l m : List Int} {h : VH} {ρ : VSt} {x0 x1 : Option VV} (hl : ∀ i ∈ l, i.natAbs < 2 ^ 300) (hm : ∀ i ∈ m, i.natAbs < 2 ^ 300) :
    lcGo (bTup 2 (bCons (bNm 2) (bCons (bNm 3) bNil))) tTrue (eBin opMul (eVar 2) (eVar 3)) [x0, x1, none, none] (prs (l.map VV.int) (m.map VV.int)) h = .ok (((l.zip m).map fun p => p.1 * p.2).map VV.int) h := by
  rw [prs_ints, lc_pure onP (fun x hx => ?_)]
  · rw [List.map_map, List.map_map]; rfl
  · obtain ⟨⟨i, j⟩, hp, rfl⟩ := List.mem_map.mp hx
    have h1 := hl i (List.of_mem_zip hp).1
    have h2 := hm j (List.of_mem_zip hp).2
    refine ⟨[x0, x1, some (.int i), some (.int j)], rfl, rfl, ?_, rfl⟩
    walk_at "ev"
    simp only [o_mul (mulOk_big (Nat.lt_trans h1 (by decide)) (Nat.lt_trans h2 (by decide)))]
    rfl
/-! a web's own answers -/
def szI (E : List (List Int)) (s : Int) : List (List Int) := if 0 ≤ s ∧ s ≤ 3 then sz E (s.toNat + 1) else []
section
variable {E : List (List Int)} {h : VH}
theorem fld_table : fldR "Web" "table" (insOf h (webV E)) h = .ok (.lst [szL E 1, szL E 2, szL E 3, szL E 4]) h := rfl
theorem fld_places : fldR "Web" "places" (insOf h (webV E)) h = .ok (.dT ((ordE E).map keyI) (ordV E)) h := rfl
theorem meth_faces {r : Res VV} : methC "Web" "faces" (insOf h (webV E)) r = r := rfl
theorem meth_many {r : Res VV} : methC "Web" "many" (insOf h (webV E)) r = r := rfl
theorem meth_has {r : Res VV} : methC "Web" "has" (insOf h (webV E)) r = r := rfl
theorem meth_place {r : Res VV} : methC "Web" "place" (insOf h (webV E)) r = r := rfl
theorem at_table {s : Int} (h0 : 0 ≤ s) (h1 : s ≤ 3) : opIx h (.lst [szL E 1, szL E 2, szL E 3, szL E 4]) (.int s) = some (.lst ((sz E (s.toNat + 1)).map tupI)) := by
  have : s = 0 ∨ s = 1 ∨ s = 2 ∨ s = 3 := by omega
  rcases this with rfl | rfl | rfl | rfl <;> rfl
theorem faces_eq {s : Int} : F_Web_faces [webV E, .int s] h = .ok (.lst ((szI E s).map tupI)) h := by
  unfold F_Web_faces B_Web_faces szI
  walk_at "ev"
  by_cases c0 : 0 ≤ s
  · simp only [decide_eq_true c0, if_true]
    walk_at "ev"
    by_cases c1 : s ≤ 3
    · simp only [decide_eq_true c1, if_true, fld_table]
      walk_at "ev"
      simp only [at_table c0 c1]
      walk_at "ev"
      simp only [list_lst]
      walk_at "ev"
      rw [fin_ret rfl, if_pos ⟨c0, c1⟩]
    · simp only [decide_eq_false c1, Bool.false_eq_true, if_false]
      walk_at "ev"
      simp only [List.any_nil, Bool.false_eq_true, false_or]
      rw [if_neg (by decide)]
      walk_at "ev"
      rw [fin_ret rfl, if_neg (fun z => c1 z.2)]; rfl
  · simp only [decide_eq_false c0, Bool.false_eq_true, if_false]
    walk_at "ev"
    simp only [List.any_nil, Bool.false_eq_true, false_or]
    rw [if_neg (by decide)]
    walk_at "ev"
    rw [fin_ret rfl, if_neg (fun z => c0 z.1)]; rfl
theorem many_eq {s : Int} : F_Web_many [webV E, .int s] h = .ok (.int ((szI E s).length : Int)) h := by
  unfold F_Web_many B_Web_many szI
  walk_at "ev"
  by_cases c0 : 0 ≤ s
  · simp only [decide_eq_true c0, if_true]
    walk_at "ev"
    by_cases c1 : s ≤ 3
    · simp only [decide_eq_true c1, if_true, fld_table]
      walk_at "ev"
      simp only [at_table c0 c1]
      walk_at "ev"
      simp only [len_lst]
      walk_at "ev"
      rw [fin_ret rfl, if_pos ⟨c0, c1⟩, List.length_map]
    · simp only [decide_eq_false c1, Bool.false_eq_true, if_false]
      walk_at "ev"
      rw [fin_ret rfl, if_neg (fun z => c1 z.2)]; rfl
  · simp only [decide_eq_false c0, Bool.false_eq_true, if_false]
    walk_at "ev"
    rw [fin_ret rfl, if_neg (fun z => c0 z.1)]; rfl
theorem in_places (hE : ∀ f ∈ E, Face f) {f : List Int} : opIn h (.tup (f.map VV.int)) (.dT ((ordE E).map keyI) (ordV E)) = some (.bl (decide (f ∈ E))) := by
  have : opIn h (.tup (f.map VV.int)) (.dT ((ordE E).map keyI) (ordV E)) = ((keyV (tupI f)).map fun k => hasK ((ordE E).map keyI) k).map .bl := rfl
  rw [this, keyV_tupI]
  show some (VV.bl (hasK ((ordE E).map keyI) (keyI f))) = _
  rw [hasK_web hE]
theorem at_places (hE : ∀ f ∈ E, Face f) (hn : E.Nodup) {f : List Int} (hf : f ∈ E) : opDGet h (.dT ((ordE E).map keyI) (ordV E)) (.tup (f.map VV.int)) = some (.int (plc E f : Int)) := by
  have : opDGet h (.dT ((ordE E).map keyI) (ordV E)) (.tup (f.map VV.int)) = (keyV (tupI f)).bind fun k => getD ((ordE E).map keyI) (ordV E) k := rfl
  rw [this, keyV_tupI]
  exact getD_web hE hn hf
theorem has_eq (hE : ∀ f ∈ E, Face f) {f : List Int} : F_Web_has [webV E, tupI f] h = .ok (.bl (decide (isort f ∈ E))) h := by
  unfold F_Web_has B_Web_has
  walk_at "ev"
  simp only [sorted_tup]
  walk_at "ev"
  simp only [tuple_lst]
  walk_at "ev"
  simp only [fld_places]
  walk_at "ev"
  simp only [in_places hE]
  walk_at "ev"
  rw [fin_ret rfl]
theorem place_eq (hE : ∀ f ∈ E, Face f) (hn : E.Nodup) {f : List Int} (hf : isort f ∈ E) : F_Web_place [webV E, tupI f] h = .ok (.int (plc E (isort f) : Int)) h := by
  unfold F_Web_place B_Web_place
  walk_at "ev"
  simp only [meth_has]
  walk_at "ev"
  simp only [has_eq hE, decide_eq_true hf]
  walk_at "ev"
  simp only [fld_places]
  walk_at "ev"
  simp only [sorted_tup]
  walk_at "ev"
  simp only [tuple_lst]
  walk_at "ev"
  simp only [at_places hE hn hf]
  walk_at "ev"
  rw [fin_ret rfl]
end
/-! sides -/
def sgn (i : Nat) : Int := 1 - 2 * ((i : Int) % 2)
theorem sgn_abs (i : Nat) : (sgn i).natAbs < 18446744073709551616 := by unfold sgn; omega
def sidesL (f : List Int) : List (Int × List Int) := if 1 < f.length then (List.range f.length).map fun i => (sgn i, f.eraseIdx i) else []
def sideV (p : Int × List Int) : VV := .tup [.int p.1, tupI p.2]
theorem cut_fore {xs : List VV} {k : Nat} (hk : k ≤ xs.length) : cut xs none (some (k : Int)) = xs.take k := by
  unfold cut
  have e1 : HT.sIx xs.length 0 none = 0 := rfl
  have e2 : HT.sIx xs.length xs.length (some (k : Int)) = k := by
    unfold HT.sIx
    simp only [Int.toNat_natCast]
    rw [if_neg (by omega)]
    omega
  rw [e1, e2, List.drop_zero, Nat.sub_zero]
theorem cut_back {xs : List VV} {k : Nat} (hk : k ≤ xs.length) : cut xs (some (k : Int)) none = xs.drop k := by
  unfold cut
  have e1 : HT.sIx xs.length 0 (some (k : Int)) = k := by
    unfold HT.sIx
    simp only [Int.toNat_natCast]
    rw [if_neg (by omega)]
    omega
  have e2 : HT.sIx xs.length xs.length none = xs.length := rfl
  rw [e1, e2]
  exact List.take_of_length_le (by rw [List.length_drop]; omega)
/-! borders and rises -/
theorem look_rests_eq {r : Int} {h : VH} (hr : restOk r) : F_look_rests [.int r] h = .ok .non h := by
  unfold F_look_rests B_look_rests
  walk_at "ev"
  by_cases c : r = 0
  · simp only [decide_eq_true c]
    walk_at "ev"
    rw [fin_nx rfl]
  · have hr' : 2 ≤ r ∧ r ≤ 60 := hr.resolve_left c
    simp only [decide_eq_false c]
    walk_at "ev"
    simp only [decide_eq_true hr'.1, if_true]
    walk_at "ev"
    simp only [decide_eq_true hr'.2]
    walk_at "ev"
    rw [fin_nx rfl]
theorem look_row_eq {E : List (List Int)} {s r : Int} {row : List Int} {h : VH} (h0 : 0 ≤ s) (h1 : s ≤ 3) (hr : restOk r) (hl : row.length = (szI E s).length) : F_look_row [webV E, .int s, .lst (row.map VV.int), .int r] h = .ok .non h := by
  unfold F_look_row B_look_row
  walk_at "ev"
  simp only [decide_eq_true h0, if_true]
  walk_at "ev"
  simp only [decide_eq_true h1]
  walk_at "ev"
  simp only [look_rests_eq hr]
  walk_at "ev"
  simp only [len_lst, List.length_map, hl]
  walk_at "ev"
  simp only [meth_many]
  walk_at "ev"
  simp only [many_eq]
  walk_at "ev"
  rw [fin_nx rfl]
def addAt (v : List Int) (j : Nat) (x : Int) : List Int := v.set j (v.getD j 0 + x)
theorem addAt_len {v : List Int} {j : Nat} {x : Int} : (addAt v j x).length = v.length := by unfold addAt; rw [List.length_set]
/-- sides of a web's face are there -/
theorem side_mem {E : List (List Int)} (w : WebF E) {f : List Int} (hf : f ∈ E) {p : Int × List Int} (hp : p ∈ sidesL f) : p.2 ∈ E ∧ p.2.length + 1 = f.length ∧ p.1.natAbs < 18446744073709551616 := by
  unfold sidesL at hp
  split at hp
  · rename_i c
    obtain ⟨i, hi, rfl⟩ := List.mem_map.mp hp
    rw [List.mem_range] at hi
    have hl : (f.eraseIdx i).length + 1 = f.length := by rw [List.length_eraseIdx_of_lt hi]; omega
    refine ⟨w.down f hf _ (List.eraseIdx_sublist f i) (fun e => ?_), hl, sgn_abs i⟩
    have e' : f.eraseIdx i = [] := e
    rw [e', List.length_nil] at hl; omega
  · simp at hp
theorem isort_in {E : List (List Int)} (w : WebF E) {f : List Int} (hf : f ∈ E) : isort f = f := (w.face f hf).srt
theorem szI_mem {E : List (List Int)} {s : Int} {f : List Int} (h0 : 0 ≤ s) (h1 : s ≤ 3) : f ∈ szI E s ↔ f ∈ E ∧ (f.length : Int) = s + 1 := by
  unfold szI
  rw [if_pos ⟨h0, h1⟩, mem_sz]
  exact and_congr_right fun _ => by omega
theorem szI_len {E : List (List Int)} {f : List Int} {s : Int} (hl : 0 < f.length) (h4 : f.length ≤ 4) (hs : (f.length : Int) = s + 1) : szI E s = sz E f.length := by
  unfold szI
  rw [if_pos ⟨by omega, by omega⟩]
  congr 1; omega
def bstep (E : List (List Int)) (x : Int) (v : List Int) (p : Int × List Int) : List Int := addAt v (plc E p.2) (p.1 * x)
def borderF (E : List (List Int)) (s : Int) (row : List Int) : List Int := ((szI E s).zip row).foldl (fun v p => (sidesL p.1).foldl (bstep E p.2) v) (List.replicate (szI E (s - 1)).length 0)
theorem fold_len {E : List (List Int)} {x : Int} {l : List (Int × List Int)} {v : List Int} : (l.foldl (bstep E x) v).length = v.length := by
  induction l generalizing v with
  | nil => rfl
  | cons p l ih => rw [List.foldl_cons, ih]; exact addAt_len
theorem fold2_len {E : List (List Int)} {l : List (List Int × Int)} {v : List Int} : (l.foldl (fun v p => (sidesL p.1).foldl (bstep E p.2) v) v).length = v.length := by
  induction l generalizing v with
  | nil => rfl
  | cons p l ih => rw [List.foldl_cons, ih]; exact fold_len
theorem prs_fr {fs : List (List Int)} {row : List Int} : prs (fs.map tupI) (row.map VV.int) = (fs.zip row).map fun p => VV.tup [tupI p.1, .int p.2] := by
  induction fs generalizing row with
  | nil => cases row <;> rfl
  | cons f fs ih =>
    cases row with
    | nil => rfl
    | cons x row => rw [List.map_cons, List.map_cons, prs, ih, List.zip_cons_cons, List.map_cons]
def riseF (E : List (List Int)) (s : Int) (row : List Int) : List Int := (szI E (s + 1)).map fun g => ((sidesL g).map fun p => p.1 * row.getD (plc E p.2) 0).sum
theorem szI_le {E : List (List Int)} (s : Int) (hE : E.length ≤ 120) : (szI E s).length ≤ 120 := by
  unfold szI
  split
  · exact Nat.le_trans (sz_le E _) hE
  · simp
theorem szI_out {E : List (List Int)} {s : Int} (h : ¬ (0 ≤ s ∧ s ≤ 3)) : szI E s = [] := by unfold szI; rw [if_neg h]
theorem szI_face {E : List (List Int)} {s : Int} {f : List Int} (h : f ∈ szI E s) : f ∈ E ∧ (f.length : Int) = s + 1 ∧ 0 ≤ s ∧ s ≤ 3 := by
  by_cases c : 0 ≤ s ∧ s ≤ 3
  · exact ⟨((szI_mem c.1 c.2).mp h).1, ((szI_mem c.1 c.2).mp h).2, c⟩
  · rw [szI_out c] at h; simp at h
theorem riseF_len {E : List (List Int)} {s : Int} {row : List Int} : (riseF E s row).length = (szI E (s + 1)).length := by unfold riseF; rw [List.length_map]
theorem borderF_len {E : List (List Int)} {s : Int} {row : List Int} : (borderF E s row).length = (szI E (s - 1)).length := by unfold borderF; rw [fold2_len, List.length_replicate]
theorem aug_eq {v : List Int} {j : Nat} {x : Int} {e : EF} {ρ : VSt} {o : VO} (hj : j < v.length) (he : e ρ [o, .fl (v.map VV.int)] = .ok (.int x) [o, .fl (v.map VV.int)]) : augV e ρ (.obj 1) (.int (j : Int)) [o, .fl (v.map VV.int)] = .nx ρ [o, .fl ((addAt v j x).map VV.int)] := by
  have hm : (v.map VV.int)[j]? = some (.int (v.getD j 0)) := by
    rw [List.getElem?_map, List.getElem?_eq_getElem hj, List.getD_eq_getElem?_getD, List.getElem?_eq_getElem hj]; rfl
  have e1 : opIx [o, .fl (v.map VV.int)] (.obj 1) (.int (j : Int)) = some (.int (v.getD j 0)) := by
    rw [ix_root (xs := v.map VV.int) rfl]
    exact atI_in hm
  have ej : ixN (v.map VV.int).length (j : Int) = some j := by
    unfold ixN
    rw [List.length_map, if_pos (by omega), if_pos (by omega), Int.toNat_natCast]
  have e2 : setI [o, .fl (v.map VV.int)] (.obj 1) (.int (j : Int)) (.int (v.getD j 0 + x)) = some [o, .fl ((addAt v j x).map VV.int)] := by
    rw [set_root (xs := v.map VV.int) rfl ej rfl]
    unfold addAt
    rw [List.map_set]; rfl
  rw [augV_obj, e1, augO_int, he, sbd_ok]
  simp only [e2, onh_some]
theorem rep0 {n : Int} {k : Nat} {h : VH} (hn : (k : Int) = n) (hk : k ≤ 1000) : newO (repO (.lst [.int 0]) (.int n)) h = .ok (.obj h.length) (h ++ [.fl ((List.replicate k (0 : Int)).map VV.int)]) := by
  rw [repO_lst, if_pos ⟨by omega, by omega, by show 1 * n.toNat ≤ 16777216; omega⟩, newO_some]
  have : n.toNat = k := by omega
  rw [this]
  have ef : ∀ k : Nat, (List.replicate k [VV.int 0]).flatten = (List.replicate k (0 : Int)).map VV.int := fun k => by
    induction k with
    | zero => rfl
    | succ k ih => rw [List.replicate_succ, List.flatten_cons, ih, List.replicate_succ, List.map_cons]; rfl
  rw [ef]
/-! sums -/
theorem sum_add {α : Type} (f g : α → Int) : ∀ l : List α, (l.map fun a => f a + g a).sum = (l.map f).sum + (l.map g).sum
  | [] => rfl
  | a :: l => by simp only [List.map_cons, List.sum_cons, sum_add f g l]; omega
theorem sum_zero {α : Type} (f : α → Int) : ∀ l : List α, (∀ a ∈ l, f a = 0) → (l.map f).sum = 0
  | [], _ => rfl
  | a :: l, h => by rw [List.map_cons, List.sum_cons, h a List.mem_cons_self, sum_zero f l fun b hb => h b (List.mem_cons_of_mem _ hb)]; rfl
theorem sum_mul {α : Type} (f : α → Int) (x : Int) : ∀ l : List α, (l.map f).sum * x = (l.map fun a => f a * x).sum
  | [] => by simp
  | a :: l => by simp only [List.map_cons, List.sum_cons, Int.add_mul, sum_mul f x l]
theorem mul_sum {α : Type} (f : α → Int) (x : Int) : ∀ l : List α, x * (l.map f).sum = (l.map fun a => x * f a).sum
  | [] => by simp
  | a :: l => by simp only [List.map_cons, List.sum_cons, Int.mul_add, mul_sum f x l]
theorem sum_swap {α β : Type} (f : α → β → Int) : ∀ (l : List α) (m : List β), (l.map fun a => (m.map fun b => f a b).sum).sum = (m.map fun b => (l.map fun a => f a b).sum).sum
  | [], m => by
    rw [List.map_nil, List.sum_nil]
    exact (sum_zero _ m fun _ _ => rfl).symm
  | a :: l, m => by
    simp only [List.map_cons, List.sum_cons]
    rw [sum_swap f l m, sum_add]
theorem sum_congr {α : Type} {f g : α → Int} {l : List α} (h : ∀ a ∈ l, f a = g a) : (l.map f).sum = (l.map g).sum := by rw [List.map_congr_left h]
/-- a sum that one place alone gives -/
theorem sum_pick {α : Type} [DecidableEq α] (h : α → Int) (t : α) : ∀ {l : List α}, l.Nodup → t ∈ l → (l.map fun a => if a = t then h a else 0).sum = h t
  | [], _, ht => by simp at ht
  | a :: l, nd, ht => by
    rw [List.nodup_cons] at nd
    rw [List.map_cons, List.sum_cons]
    by_cases e : a = t
    · subst e
      rw [if_pos rfl, sum_zero _ l (fun b hb => if_neg (fun (z : b = a) => nd.1 (z ▸ hb)))]
      omega
    · rw [if_neg e, sum_pick h t nd.2 ((List.mem_cons.mp ht).resolve_left (Ne.symm e))]
      omega
/-- a side's number in a face -/
def co (f t : List Int) : Int := ((sidesL f).map fun p => if p.2 = t then p.1 else 0).sum
theorem co_sum {f : List Int} {T : List (List Int)} (h : List Int → Int) (nd : T.Nodup) (hs : ∀ p ∈ sidesL f, p.2 ∈ T) : (T.map fun t => co f t * h t).sum = ((sidesL f).map fun p => p.1 * h p.2).sum := by
  unfold co
  simp only [sum_mul]
  rw [sum_swap (fun t p => (if p.2 = t then p.1 else 0) * h t) T (sidesL f)]
  refine sum_congr fun p hp => ?_
  have := sum_pick (fun t => p.1 * h t) p.2 nd (hs p hp)
  rw [← this]
  refine sum_congr fun t _ => ?_
  by_cases e : p.2 = t
  · rw [if_pos e, if_pos e.symm]
  · rw [if_neg e, if_neg (Ne.symm e)]; omega
theorem sides2 (a b : Int) : sidesL [a, b] = [(1, [b]), (-1, [a])] := rfl
theorem sides3 (a b c : Int) : sidesL [a, b, c] = [(1, [b, c]), (-1, [a, c]), (1, [a, b])] := by kernel_rfl
theorem sides4 (a b c d : Int) : sidesL [a, b, c, d] = [(1, [b, c, d]), (-1, [a, c, d]), (1, [a, b, d]), (-1, [a, b, c])] := by kernel_rfl
theorem sides1 (a : Int) : sidesL [a] = [] := rfl
theorem co_co (f u : List Int) (hl : f.length ≤ 4) : ((sidesL f).map fun p => p.1 * co p.2 u).sum = 0 := by
  match f, hl with
  | [], _ => rfl
  | [a], _ => rfl
  | [a, b], _ => simp only [sides2, co, sides1, List.map_cons, List.map_nil, List.sum_cons, List.sum_nil]; omega
  | [a, b, c], _ =>
    simp only [sides3, co, sides2, List.map_cons, List.map_nil, List.sum_cons, List.sum_nil]
    have hx : ∀ (v : List Int), (if v = u then (-1 : Int) else 0) = - (if v = u then 1 else 0) := fun v => by split <;> rfl
    simp only [hx]
    generalize (if [a] = u then (1 : Int) else 0) = x1
    generalize (if [b] = u then (1 : Int) else 0) = x2
    generalize (if [c] = u then (1 : Int) else 0) = x3
    omega
  | [a, b, c, d], _ =>
    simp only [sides4, co, sides3, List.map_cons, List.map_nil, List.sum_cons, List.sum_nil]
    have hx : ∀ (v : List Int), (if v = u then (-1 : Int) else 0) = - (if v = u then 1 else 0) := fun v => by split <;> rfl
    simp only [hx]
    generalize (if [a, b] = u then (1 : Int) else 0) = x1
    generalize (if [a, c] = u then (1 : Int) else 0) = x2
    generalize (if [a, d] = u then (1 : Int) else 0) = x3
    generalize (if [b, c] = u then (1 : Int) else 0) = x4
    generalize (if [b, d] = u then (1 : Int) else 0) = x5
    generalize (if [c, d] = u then (1 : Int) else 0) = x6
    omega
/-! borders and rises by the sides' numbers -/
theorem getD_addAt {v : List Int} {j k : Nat} {x : Int} (hk : k < v.length) : (addAt v j x).getD k 0 = v.getD k 0 + if j = k then x else 0 := by
  unfold addAt
  rw [List.getD_eq_getElem?_getD, List.getD_eq_getElem?_getD, List.getD_eq_getElem?_getD, List.getElem?_set]
  by_cases e : j = k
  · subst e
    rw [if_pos rfl, if_pos hk, if_pos rfl, List.getElem?_eq_getElem hk]; rfl
  · rw [if_neg e, if_neg e, Int.add_zero]
theorem getD_fold {E : List (List Int)} {x : Int} {k : Nat} : ∀ {l : List (Int × List Int)} {v : List Int}, k < v.length → (l.foldl (bstep E x) v).getD k 0 = v.getD k 0 + (l.map fun p => if plc E p.2 = k then p.1 * x else 0).sum
  | [], v, _ => by simp
  | p :: l, v, hk => by
    rw [List.foldl_cons, getD_fold (l := l) (by unfold bstep; rw [addAt_len]; exact hk)]
    unfold bstep
    rw [getD_addAt hk, List.map_cons, List.sum_cons]; omega
theorem getD_fold2 {E : List (List Int)} {k : Nat} : ∀ {l : List (List Int × Int)} {v : List Int}, k < v.length → (l.foldl (fun v p => (sidesL p.1).foldl (bstep E p.2) v) v).getD k 0 = v.getD k 0 + (l.map fun q => ((sidesL q.1).map fun p => if plc E p.2 = k then p.1 * q.2 else 0).sum).sum
  | [], v, _ => by simp
  | q :: l, v, hk => by
    rw [List.foldl_cons, getD_fold2 (l := l) (by rw [fold_len]; exact hk), getD_fold hk, List.map_cons, List.sum_cons]; omega
theorem plc_iff {E : List (List Int)} (w : WebF E) {t u : List Int} {k : Nat} (ht : t ∈ E) (hk : (sz E t.length)[k]? = some u) : plc E t = k ↔ t = u := by
  constructor
  · rintro rfl
    rw [plc_at ht] at hk
    exact Option.some.inj hk
  · rintro rfl
    have h1 := plc_lt ht
    have h2 := (List.getElem?_eq_some_iff.mp hk).1
    exact (List.getElem?_inj h1 (sz_nodup w.nd _)).mp ((plc_at ht).trans hk.symm)
theorem szI_nodup {E : List (List Int)} (w : WebF E) (s : Int) : (szI E s).Nodup := by
  unfold szI
  split
  · exact sz_nodup w.nd _
  · exact List.nodup_nil
theorem side_szI {E : List (List Int)} (w : WebF E) {s : Int} {f : List Int} (hf : f ∈ szI E s) {p : Int × List Int} (hp : p ∈ sidesL f) : p.2 ∈ szI E (s - 1) ∧ szI E (s - 1) = sz E p.2.length ∧ p.2 ∈ E := by
  obtain ⟨fE, fl, f0, f3⟩ := szI_face hf
  obtain ⟨m1, m2, m3⟩ := side_mem w fE hp
  have hl : 0 < p.2.length := List.length_pos_iff.mpr (w.face p.2 m1).pos
  have e := szI_len (E := E) (f := p.2) (s := s - 1) hl (w.face p.2 m1).le (by omega)
  exact ⟨by rw [e]; exact mem_sz.mpr ⟨m1, rfl⟩, e, m1⟩
theorem list_ext {l m : List Int} (hl : l.length = m.length) (h : ∀ k, k < l.length → l.getD k 0 = m.getD k 0) : l = m := by
  refine List.ext_getElem hl fun k h1 h2 => ?_
  have := h k h1
  rw [List.getD_eq_getElem?_getD, List.getD_eq_getElem?_getD, List.getElem?_eq_getElem h1, List.getElem?_eq_getElem h2] at this
  exact this
theorem getD_map {α : Type} {l : List α} {f : α → Int} {k : Nat} (hk : k < l.length) : (l.map f).getD k 0 = f l[k] := by
  rw [List.getD_eq_getElem?_getD, List.getElem?_map, List.getElem?_eq_getElem hk]; rfl
theorem border_by {E : List (List Int)} (w : WebF E) {s : Int} {row : List Int} : borderF E s row = (szI E (s - 1)).map fun t => (((szI E s).zip row).map fun q => co q.1 t * q.2).sum := by
  refine list_ext (by rw [borderF_len, List.length_map]) fun k hk => ?_
  rw [borderF_len] at hk
  rw [getD_map hk]
  unfold borderF
  rw [getD_fold2 (by rw [List.length_replicate]; exact hk)]
  have e0 : (List.replicate (szI E (s - 1)).length (0 : Int)).getD k 0 = 0 := by
    rw [List.getD_eq_getElem?_getD, List.getElem?_replicate]; split <;> rfl
  rw [e0, Int.zero_add]
  refine sum_congr fun q hq => ?_
  have hf : q.1 ∈ szI E s := (List.of_mem_zip hq).1
  unfold co
  rw [sum_mul]
  refine sum_congr fun p hp => ?_
  obtain ⟨h1, h2, h3⟩ := side_szI w hf hp
  have hk' : (sz E p.2.length)[k]? = some (szI E (s - 1))[k] := by rw [← h2, List.getElem?_eq_getElem hk]
  have := plc_iff w h3 hk'
  by_cases e : plc E p.2 = k
  · rw [if_pos e, if_pos (this.mp e)]
  · rw [if_neg e, if_neg (fun z => e (this.mpr z))]; omega
theorem sum_zip_pick {T : List (List Int)} {row : List Int} {t : List Int} {j : Nat} (nd : T.Nodup) (hl : row.length = T.length) (hj : T[j]? = some t) : ((T.zip row).map fun q => if q.1 = t then q.2 else 0).sum = row.getD j 0 := by
  induction T generalizing row j with
  | nil => simp at hj
  | cons a T ih =>
    cases row with
    | nil => simp at hl
    | cons x row =>
      rw [List.nodup_cons] at nd
      rw [List.zip_cons_cons, List.map_cons, List.sum_cons]
      cases j with
      | zero =>
        have e : a = t := by simpa using hj
        subst e
        have hz : ((T.zip row).map fun q => if q.1 = a then q.2 else 0).sum = 0 := sum_zero _ _ fun q hq => if_neg (fun (z : q.1 = a) => nd.1 (z ▸ (List.of_mem_zip hq).1))
        rw [hz]
        show (if a = a then x else 0) + 0 = x
        rw [if_pos rfl]; omega
      | succ j =>
        have hj' : T[j]? = some t := by simpa using hj
        have na : a ≠ t := fun e => nd.1 (e ▸ List.mem_of_getElem? hj')
        rw [ih nd.2 (by simpa using hl) hj']
        show (if a = t then x else 0) + _ = (x :: row).getD (j + 1) 0
        rw [if_neg na]; simp
theorem rise_by {E : List (List Int)} (w : WebF E) {s : Int} {row : List Int} (hl : row.length = (szI E s).length) : riseF E s row = (szI E (s + 1)).map fun g => (((szI E s).zip row).map fun q => co g q.1 * q.2).sum := by
  unfold riseF
  refine List.map_congr_left fun g hg => ?_
  unfold co
  simp only [sum_mul]
  rw [sum_swap (fun (q : List Int × Int) (p : Int × List Int) => (if p.2 = q.1 then p.1 else 0) * q.2)]
  refine sum_congr fun p hp => ?_
  obtain ⟨h1, h2, h3⟩ := side_szI w hg hp
  rw [show s + 1 - 1 = s by omega] at h1 h2
  have hat : (szI E s)[plc E p.2]? = some p.2 := by rw [h2]; exact plc_at h3
  have := sum_zip_pick (szI_nodup w s) hl hat
  rw [← this, mul_sum]
  refine sum_congr fun q _ => ?_
  by_cases e : q.1 = p.2
  · rw [if_pos e, if_pos e.symm]
  · rw [if_neg e, if_neg (Ne.symm e)]; omega
theorem zip_map_self {α : Type} (T : List α) (f : α → Int) : T.zip (T.map f) = T.map fun t => (t, f t) := by
  induction T with
  | nil => rfl
  | cons a T ih => rw [List.map_cons, List.zip_cons_cons, ih, List.map_cons]
theorem dot_map {T : List (List Int)} {f : List Int → Int} {m : List Int} : dot (T.map f) m = ((T.zip m).map fun q => f q.1 * q.2).sum := by
  unfold dot
  rw [List.zip_map_left, List.map_map]; rfl
theorem dot_comm (l m : List Int) : dot l m = dot m l := by
  unfold dot
  induction l generalizing m with
  | nil => cases m <;> rfl
  | cons a l ih =>
    cases m with
    | nil => rfl
    | cons b m => simp only [List.zip_cons_cons, List.map_cons, List.sum_cons, ih m, Int.mul_comm a b]
/-! bounds and rests -/
theorem sum_abs {α : Type} {f : α → Int} {B : Nat} : ∀ {l : List α}, (∀ a ∈ l, (f a).natAbs ≤ B) → ((l.map f).sum).natAbs ≤ l.length * B
  | [], _ => by simp
  | a :: l, h => by
    have h1 := h a List.mem_cons_self
    have h2 := sum_abs (l := l) fun b hb => h b (List.mem_cons_of_mem _ hb)
    rw [List.map_cons, List.sum_cons, List.length_cons, Nat.add_mul]
    have := Int.natAbs_add_le (f a) (l.map f).sum
    omega
theorem side_one {f : List Int} {p : Int × List Int} (hp : p ∈ sidesL f) : p.1.natAbs ≤ 1 := by
  unfold sidesL at hp
  split at hp
  · obtain ⟨i, _, rfl⟩ := List.mem_map.mp hp
    show (sgn i).natAbs ≤ 1
    unfold sgn; omega
  · simp at hp
theorem sides_len {f : List Int} (hl : f.length ≤ 4) : (sidesL f).length ≤ 4 := by
  unfold sidesL
  split
  · rw [List.length_map, List.length_range]; exact hl
  · simp
theorem zip_le {T : List (List Int)} {row : List Int} : (T.zip row).length ≤ T.length := by rw [List.length_zip]; omega
theorem comb_abs {T : List (List Int)} {row : List Int} {g : List Int → Int} {B : Nat} (hg : ∀ t ∈ T, (g t).natAbs ≤ 4) (hT : T.length ≤ 120) (hr : ∀ i ∈ row, i.natAbs < B) : (((T.zip row).map fun q => g q.1 * q.2).sum).natAbs ≤ 480 * B := by
  have h1 := sum_abs (l := T.zip row) (f := fun q => g q.1 * q.2) (B := 4 * B) fun q hq => by
    rw [Int.natAbs_mul]
    exact Nat.mul_le_mul (hg _ (List.of_mem_zip hq).1) (Nat.le_of_lt (hr _ (List.of_mem_zip hq).2))
  have h2 := zip_le (T := T) (row := row)
  refine Nat.le_trans h1 (Nat.le_trans (Nat.mul_le_mul_right _ (Nat.le_trans h2 hT)) ?_)
  omega
theorem restI0 (i : Int) : restI 0 i = i := by unfold restI; rw [if_pos rfl]
theorem map_restI0 (l : List Int) : l.map (restI 0) = l := by
  have : restI 0 = id := funext restI0
  rw [this, List.map_id]
theorem sign_eq {i : Nat} {h : VH} : F_sign [.int (i : Int)] h = .ok (.int (sgn i)) h := by
  unfold F_sign B_sign
  have e2 : ((i : Int)).fmod 2 = (i : Int) % 2 := Int.fmod_eq_emod_of_nonneg _ (by decide)
  have h1 := Int.emod_nonneg (i : Int) (b := 2) (by decide)
  have h2 := Int.emod_lt_of_pos (i : Int) (b := 2) (by decide)
  walk_at "evd"
  rw [fin_ret rfl, e2]; rfl
theorem side_el {f : List Int} {i : Nat} {h : VH} (hl : f.length ≤ 1000) (hi' : i < f.length) : le_sides_1 [some (tupI f), some (.int (i : Int))] h = .ok (sideV (sgn i, f.eraseIdx i)) h := by
  have es1 : opSl h (tupI f) none (some (i : Int)) = some (.tup ((f.take i).map VV.int)) := by
    unfold tupI
    rw [J.sl_tup, cut_fore (by rw [List.length_map]; omega), List.map_take]
  have es2 : opSl h (tupI f) (some ((i : Int) + 1)) none = some (.tup ((f.drop (i + 1)).map VV.int)) := by
    unfold tupI
    rw [J.sl_tup, show ((i : Int) + 1) = ((i + 1 : Nat) : Int) from rfl, cut_back (by rw [List.length_map]; omega), List.map_drop]
  walk_at "ev"
  simp only [sign_eq]
  walk_at "ev"
  simp only [es1]
  walk_at "ev"
  simp only [es2]
  walk_at "ev"
  rw [add_tup (by rw [List.length_map, List.length_map, List.length_take, List.length_drop]; omega), ← List.map_append, ← List.eraseIdx_eq_take_drop_succ]
  walk_at "ev"
  simp only [List.any_cons, List.any_nil, VV.isObj, Bool.or_false, Bool.false_eq_true, false_or, List.length_cons, List.length_nil]
  rw [if_neg (by decide)]
  unfold sideV tupI
  rfl
theorem sides_eq {f : List Int} {h : VH} (hl : f.length ≤ 1000) : F_sides [tupI f] h = .ok (.lst ((sidesL f).map sideV)) h := by
  obtain ⟨n, hn⟩ : ∃ n : Int, (f.length : Int) = n := ⟨_, rfl⟩
  have hlen : cLen h [tupI f] = some (.int n) := by rw [len_tupI, hn]
  unfold F_sides B_sides
  walk_at "ev"
  simp only [hlen]
  walk_at "ev"
  unfold sidesL
  by_cases c : 1 < f.length
  · simp only [decide_eq_true (show (1 : Int) < n by omega), if_true]
    walk_at "ev"
    simp only [hlen]
    walk_at "ev"
    rw [if_pos (rngB (by omega) (by omega))]
    walk_at "ev"
    rw [rng_eq, ← hn, Int.toNat_natCast, if_neg (by rw [List.length_map, List.length_range]; show ¬ f.length > 16777216; omega)]
    simp only [wp, List.set_cons_zero, List.set_cons_succ]
    rw [lc_map (fun (i : Nat) => VV.int (0 + (i : Int))) (fun i => sideV (sgn i, f.eraseIdx i)) (fun i hi => ?_), afterL_ok]
    · walk_at "ev"
      rw [fin_ret rfl, if_pos c, List.map_map]
      simp only [Function.comp_def]
    · rw [List.mem_range] at hi
      refine ⟨[some (tupI f), some (.int (i : Int))], ?_, rfl, side_el hl hi, rfl⟩
      rw [Int.zero_add]
      rfl
  · simp only [decide_eq_false (show ¬ (1 : Int) < n by omega), Bool.false_eq_true, if_false]
    walk_at "ev"
    rw [if_pos (by omega)]
    walk_at "ev"
    have r0 : rngV 0 (Int.toNat 0) = [] := rfl
    have l0 : ∀ ρ : VSt, lcGo (bNm 1) tTrue le_sides_1 ρ [] h = .ok [] h := fun _ => rfl
    simp only [r0, List.length_nil]
    rw [if_neg (show ¬ 0 > SZ from by decide), l0, afterL_ok, if_neg c]
    walk_at "ev"
    rw [fin_ret rfl]
/-! the law's own sums -/
theorem law_sized_eq {E : List (List Int)} {s : Int} {h : VH} (hE : E.length ≤ 1000) (h0 : 0 ≤ s) (h1 : s ≤ 3) : F_law_sized [.lst (E.map tupI), .int s] h = .ok (.lst ((szI E s).map tupI)) h := by
  unfold F_law_sized B_law_sized
  walk_at "ev"
  rw [if_neg (by rw [List.length_map]; show ¬ E.length > 16777216; omega)]
  simp only [wp, List.set_cons_zero, List.set_cons_succ]
  rw [lc_mapF tupI (fun f => decide ((f.length : Int) = s + 1)) tupI (fun f hf => ?_), afterL_ok]
  · walk_at "ev"
    rw [fin_ret rfl]
    unfold szI sz
    rw [if_pos ⟨h0, h1⟩]
    congr 3
    exact List.filter_congr fun f _ => Bool.eq_iff_iff.mpr (by simp only [decide_eq_true_eq]; omega)
  · refine ⟨_, rfl, ?_, fun _ => ⟨rfl, rfl⟩⟩
    walk_at "ev"
    simp only [len_tupI]
    walk_at "ev"
theorem alike_refl : ∀ (d : Nat) (v : VV) (h : VH), isD v = true → dep v < d → wide v ≤ SZ → F_law_alike d [v, v] h = .ok (.bl true) h
  | 0, v, h, _, hd, _ => by omega
  | d + 1, v, h, hv, hd, hw => by
    unfold F_law_alike B_law_alike
    have seq : ∀ xs : List VV, (∀ x ∈ xs, F_law_alike d [x, x] h = .ok (.bl true) h) → ∀ (ρ : VSt) (v : VV), lcGo (bTup 2 (bCons (bNm 2) (bCons (bNm 3) bNil))) tTrue (eFn 2 (F_law_alike d) [] (aCons (eVar 2) (aCons (eVar 3) aNil))) [some v, some v, none, none] (prs xs xs) h = .ok (List.replicate xs.length (.bl true)) h := by
      intro xs hx ρ v
      rw [prs_same]
      have := lc_const (b := bTup 2 (bCons (bNm 2) (bCons (bNm 3) bNil))) (t := tTrue) (e := eFn 2 (F_law_alike d) [] (aCons (eVar 2) (aCons (eVar 3) aNil))) (ρ := [some v, some v, none, none]) (h := h) (v := .bl true) rfl (xs := xs.map fun x => .tup [x, x]) ?_
      · rw [List.length_map] at this; exact this
      · intro x hx'
        obtain ⟨y, hy, rfl⟩ := List.mem_map.mp hx'
        refine ⟨[some v, some v, some y, some y], rfl, rfl, ?_⟩
        walk_at "ev"
        exact hx y hy
    cases v with
    | non => walk_at "eva"; rw [fin_ret rfl]
    | bl b => walk_at "eva"; rw [fin_ret rfl]
    | int b => walk_at "eva"; rw [fin_ret rfl]
    | str b => walk_at "eva"; rw [fin_ret rfl]
    | tup xs =>
      rw [isD] at hv
      rw [dep] at hd
      rw [wide] at hw
      have hx : ∀ x ∈ xs, F_law_alike d [x, x] h = .ok (.bl true) h := fun x hx => alike_refl d x h (mem_isDs hv hx) (by have := mem_deps hx; omega) (by have := mem_deps hx; omega)
      walk_at "eva"
      simp only [prs_len, if_neg (show ¬ min xs.length xs.length > SZ by omega)]
      simp only [wp, List.set_cons_zero, List.set_cons_succ, seq xs hx [] (.tup xs), afterL_ok]
      walk_at "ev"
      simp only [all_true]
      walk_at "ev"
      rw [fin_ret rfl]
    | lst xs =>
      rw [isD] at hv
      rw [dep] at hd
      rw [wide] at hw
      have hx : ∀ x ∈ xs, F_law_alike d [x, x] h = .ok (.bl true) h := fun x hx => alike_refl d x h (mem_isDs hv hx) (by have := mem_deps hx; omega) (by have := mem_deps hx; omega)
      walk_at "eva"
      simp only [prs_len, if_neg (show ¬ min xs.length xs.length > SZ by omega)]
      simp only [wp, List.set_cons_zero, List.set_cons_succ, seq xs hx [] (.lst xs), afterL_ok]
      walk_at "ev"
      simp only [all_true]
      walk_at "ev"
      rw [fin_ret rfl]
    | _ => simp [isD] at hv
theorem few_eq (b : Bx) {m q : Int} (h0 : 0 ≤ m) (h1 : m < 1000) (q0 : 0 ≤ q) (q1 : q ≤ 1000000) : ∃ (l : List Int) (b' : Bx), F_law_few [.obj 0, .int m, .int q] [b.v] = .ok (.lst (l.map VV.int)) [b'.v] ∧ (l.length : Int) = m ∧ ∀ i ∈ l, i.natAbs ≤ q.toNat := by
  unfold F_law_few B_law_few
  walk_at "ev"
  rw [if_pos (rngB h0 (by omega))]
  walk_at "ev"
  rw [rng_eq, if_neg (by rw [List.length_map, List.length_range]; show ¬ m.toNat > 16777216; omega)]
  obtain ⟨l, h', e4, ⟨b4, rfl⟩, l4, g4⟩ := lc_draw (b := bNm 3) (t := tTrue) (e := le_law_few_1) (ρ := wp [some (.obj 0), some (.int m), some (.int q), none] [3]) (fun (i : Nat) => VV.int (0 + (i : Int))) VV.int (fun h => ∃ b : Bx, h = [b.v]) (fun i => i.natAbs ≤ q.toNat) (ys := List.range m.toNat) (h := [b.v]) ⟨b, rfl⟩ (by
    rintro y _ h ⟨b, rfl⟩
    obtain ⟨r, b', e, r0, r1⟩ := take1 b (m := 2 * q + 1) (by omega) (by omega)
    refine ⟨_, r - q, [b'.v], rfl, rfl, ?_, rfl, ⟨b', rfl⟩, by omega⟩
    simp only [wp]
    walk_at "ev"
    rw [o_mul_l (by decide)]
    walk_at "ev"
    simp only [e]
    walk_at "ev")
  rw [e4, afterL_ok]
  walk_at "ev"
  rw [fin_b rfl]
  exact ⟨l, b4, rfl, by rw [l4, List.length_range]; omega, g4⟩
theorem law_rest_eq {a b : Int} {h : VH} : F_law_rest [.int a, .int b] h = .ok (.int (restI b a)) h := by
  unfold F_law_rest B_law_rest restI
  by_cases e : b = 0
  · subst e
    walk_at "ev"
    (first | rw [fin1] | rw [fin_ret rfl])
  · walk_at "ev"
    simp only [decide_eq_false e, Bool.false_eq_true, if_neg e, reduceIte, o_mod e]
    walk_at "ev"
    (first | rw [fin1] | rw [fin_ret rfl])
theorem law_rested_eq {l : List Int} {r : Int} {h : VH} (hl : l.length ≤ SZ) : F_law_rested [.lst (l.map VV.int), .int r] h = .ok (.lst ((l.map (restI r)).map VV.int)) h := by
  unfold F_law_rested B_law_rested
  walk_at "ev"
  rw [if_neg (by rw [List.length_map]; omega), lc_pure (onI (restI r)) (fun x hx => ?_), afterL_ok, map_onI]
  · walk_at "ev"
    (first | rw [fin1] | rw [fin_ret rfl])
  · obtain ⟨i, _, rfl⟩ := mem_int hx
    refine ⟨_, rfl, rfl, ?_, rfl⟩
    simp only [wp]
    walk_at "ev"
    exact law_rest_eq
theorem law_sum_eq {l m : List Int} {h : VH} (hl : ∀ i ∈ l, i.natAbs < 2 ^ 300) (hm : ∀ i ∈ m, i.natAbs < 2 ^ 300) (hz : l.length ≤ SZ) : F_law_sum [.lst (l.map VV.int), .lst (m.map VV.int)] h = .ok (.int (dot l m)) h := by
  unfold F_law_sum B_law_sum
  walk_at "ev"
  rw [if_neg (by rw [prs_len, List.length_map]; omega)]
  simp only [wp, List.set_cons_zero, List.set_cons_succ]
  rw [lc_dot (ρ := []) hl hm, afterL_ok]
  walk_at "ev"
  simp only [sum_ints]
  walk_at "ev"
  (first | rw [fin1] | rw [fin_ret rfl]); rfl
theorem whole_list_eq {l : List Int} {n : Int} {h : VH} (hn : (l.length : Int) = n) (hz : l.length ≤ SZ) : F_law_whole_list [.lst (l.map VV.int), .int n] h = .ok (.bl true) h := by
  unfold F_law_whole_list B_law_whole_list
  walk_at "eva"
  simp only [List.length_map, hn, decide_true, Bool.not_true, Bool.false_eq_true, reduceIte]
  walk_at "eva"
  rw [if_neg (by rw [List.length_map]; omega), lc_const (v := .bl true) rfl (fun x hx => ?_), afterL_ok]
  · walk_at "ev"
    simp only [all_true]
    walk_at "ev"
    (first | rw [fin1] | rw [fin_ret rfl])
  · obtain ⟨i, _, rfl⟩ := mem_int hx
    refine ⟨_, rfl, rfl, ?_⟩
    simp only [wp]
    walk_at "eva"
/-! products -/
theorem at_szI {E : List (List Int)} {s : Int} {t : List Int} (ht : t ∈ szI E s) : (szI E s)[plc E t]? = some t := by
  obtain ⟨tE, tl, s0, s3⟩ := szI_face ht
  rw [szI_len (E := E) (f := t) (s := s) (by omega) (by omega) tl]
  exact plc_at tE
/-! the law's own sides, borders, rises -/
theorem get_last {h : VH} {x : VO} : (h ++ [x])[h.length]? = some x := by rw [List.getElem?_append_right (Nat.le_refl _), Nat.sub_self]; rfl
theorem set_last {h : VH} {x y : VO} : (h ++ [x]).set h.length y = h ++ [y] := by rw [List.set_append_right _ _ (Nat.le_refl _), Nat.sub_self]; rfl
theorem int_bl {b : Bool} {h : VH} : cInt h [.bl b] = some (.int (if b then 1 else 0)) := rfl
theorem law_sides_eq {f : List Int} {h : VH} (hl : f.length ≤ 1000) (hh : h.all (lowO h.length) = true) : F_law_sides [tupI f] h = .ok (.lst ((sidesL f).map sideV)) h := by
  obtain ⟨n, hn⟩ : ∃ n : Int, (f.length : Int) = n := ⟨_, rfl⟩
  have hlen : ∀ h : VH, cLen h [tupI f] = some (.int n) := fun h => by rw [len_tupI, hn]
  obtain ⟨m, hm⟩ : ∃ m : Int, n * (if decide (1 < n) = true then 1 else 0) = m := ⟨_, rfl⟩
  have m0 : 0 ≤ m ∧ m ≤ 1000 := by rw [← hm]; by_cases c : 1 < n <;> simp [c] <;> omega
  have m1 : (sidesL f).map sideV = (List.range m.toNat).map fun i => sideV (sgn i, f.eraseIdx i) := by
    unfold sidesL
    by_cases c : 1 < f.length
    · have : m.toNat = f.length := by rw [← hm, decide_eq_true (show 1 < n by omega)]; simp; omega
      rw [if_pos c, List.map_map, this]; rfl
    · have : m.toNat = 0 := by rw [← hm, decide_eq_false (show ¬ 1 < n by omega)]; simp
      rw [if_neg c, this]; rfl
  have m2 : ∀ i, i < m.toNat → i < f.length := by
    intro i hi
    by_cases c : 1 < n
    · rw [← hm, decide_eq_true c] at hi; simp at hi; omega
    · rw [← hm, decide_eq_false c] at hi; simp at hi
  unfold F_law_sides B_law_sides
  walk_at "ev"
  simp only [List.any_nil, Bool.false_eq_true, false_or]
  rw [if_neg (by decide)]
  walk_at "ev"
  simp only [hlen]
  walk_at "ev"
  simp only [hlen]
  walk_at "ev"
  simp only [int_bl]
  walk_at "ev"
  rw [o_mul_r (by split <;> decide), hm]
  walk_at "ev"
  rw [if_pos (rngB m0.1 (by omega))]
  walk_at "ev"
  rw [rng_eq]
  obtain ⟨ρ2, h2, e2, ⟨o2, rfl⟩, rfl⟩ := for_pre (b := bNm 2) (body := lb_law_sides_1) (fun (i : Nat) => VV.int (0 + (i : Int)))
    (fun pre ρ h' => (∃ o2, ρ = [some (tupI f), some (.obj h.length), o2]) ∧ h' = h ++ [.fl (pre.map fun i => sideV (sgn i, f.eraseIdx i))])
    (List.range m.toNat) (ρ := [some (tupI f), some (.obj h.length), none]) (h := h ++ [.fl []]) ⟨⟨none, rfl⟩, rfl⟩ (by
      rintro pre i post ey ρ h' ⟨⟨o2, rfl⟩, rfl⟩
      have hi : i < f.length := m2 i (List.mem_range.mp (by rw [ey]; simp))
      have hp : pre.length ≤ 1000 := by
        have := congrArg List.length ey
        rw [List.length_range, List.length_append] at this; omega
      refine ⟨[some (tupI f), some (.obj h.length), some (.int (i : Int))], _, _, by rw [Int.zero_add]; rfl, ?_, ⟨some (.int (i : Int)), rfl⟩, rfl⟩
      have em : (i : Int).fmod 2 = (i : Int) % 2 := Int.fmod_eq_emod_of_nonneg _ (by decide)
      have es1 : ∀ h : VH, opSl h (tupI f) none (some (i : Int)) = some (.tup ((f.take i).map VV.int)) := fun h => by
        unfold tupI
        rw [J.sl_tup, cut_fore (by rw [List.length_map]; omega), List.map_take]
      have es2 : ∀ h : VH, opSl h (tupI f) (some ((i : Int) + 1)) none = some (.tup ((f.drop (i + 1)).map VV.int)) := fun h => by
        unfold tupI
        rw [J.sl_tup, show ((i : Int) + 1) = ((i + 1 : Nat) : Int) from rfl, cut_back (by rw [List.length_map]; omega), List.map_drop]
      walk_at "ev"
      simp only [get_last, lstRO_fl, chkL_some]
      walk_at "ev"
      simp only [o_mod (i := (i : Int)) (j := 2) (by decide), em]
      walk_at "ev"
      simp only [o_mul_l (i := 2) (j := (i : Int) % 2) (by decide)]
      walk_at "ev"
      simp only [es1]
      walk_at "ev"
      simp only [es2]
      walk_at "ev"
      rw [add_tup (by rw [List.length_map, List.length_map, List.length_take, List.length_drop]; omega), ← List.map_append, ← List.eraseIdx_eq_take_drop_succ]
      walk_at "ev"
      simp only [List.any_cons, List.any_nil, VV.isObj, Bool.or_false, Bool.false_eq_true, false_or, List.length_cons, List.length_nil]
      rw [if_neg (by decide)]
      walk_at "ev"
      simp only [get_last]
      rw [appO_fl (by rw [List.length_map]; omega) rfl, set_last, List.map_append]
      walk_at "ev"
      rfl)
  rw [e2]
  walk_at "ev"
  simp only [get_last]
  walk_at "ev"
  rw [set_last, fin_low rfl rfl hh, m1]
theorem idx_lst {T : List (List Int)} {t : List Int} {h : VH} {j : Nat} (nd : T.Nodup) (hj : T[j]? = some t) : idxT h (.lst (T.map tupI)) (tupI t) = some (.int (j : Int)) := by
  have hj' := (List.getElem?_eq_some_iff.mp hj)
  have : T.findIdx? (fun z => decide (z = t)) = some j := by
    rw [List.findIdx?_eq_some_iff_getElem]
    refine ⟨hj'.1, by rw [decide_eq_true_eq]; exact hj'.2, fun k hk => ?_⟩
    rw [Bool.not_eq_true, decide_eq_false_iff_not]
    intro e
    have hjl := hj'.1
    have := (List.getElem?_inj (i := k) (j := j) (by omega) nd).mp (by rw [List.getElem?_eq_getElem (by omega), e, hj])
    omega
  unfold idxT
  simp only
  rw [tupsOf_map, intsV_tupI]
  show (T.findIdx? fun z => decide (z = t)).map _ = _
  rw [this]; rfl
theorem law_sized_any {E : List (List Int)} {s : Int} {h : VH} (w : WebF E) (hE : E.length ≤ 1000) : F_law_sized [.lst (E.map tupI), .int s] h = .ok (.lst ((szI E s).map tupI)) h := by
  by_cases c : 0 ≤ s ∧ s ≤ 3
  · exact law_sized_eq hE c.1 c.2
  · unfold F_law_sized B_law_sized
    walk_at "ev"
    rw [if_neg (by rw [List.length_map]; show ¬ E.length > 16777216; omega)]
    simp only [wp, List.set_cons_zero, List.set_cons_succ]
    rw [lc_mapF tupI (fun f => decide ((f.length : Int) = s + 1)) tupI (fun f hf => ?_), afterL_ok]
    · walk_at "ev"
      rw [fin_ret rfl, szI_out c]
      have : (E.filter fun f => decide ((f.length : Int) = s + 1)) = [] := by
        rw [List.filter_eq_nil_iff]
        intro f hf
        rw [decide_eq_true_eq]
        have h1 := (w.face f hf).le
        have h2 : 0 < f.length := List.length_pos_iff.mpr (w.face f hf).pos
        omega
      rw [this]
    · refine ⟨_, rfl, ?_, fun _ => ⟨rfl, rfl⟩⟩
      walk_at "ev"
      simp only [len_tupI]
      walk_at "ev"
/-! .. -/
theorem a_idxL {fo fe : EF} {ρ : VSt} {h h1 h2 : VH} {T : List (List Int)} {t : List Int} {j : Nat} (e1 : fo ρ h = .ok (.lst (T.map tupI)) h1) (e2 : fe ρ h1 = .ok (tupI t) h2) (nd : T.Nodup) (hj : T[j]? = some t) : eIdx fo fe ρ h = .ok (.int (j : Int)) h2 := by
  rw [a_idx, e1, bnd_ok]
  simp only
  rw [e2, bnd_ok, idx_lst nd hj]; rfl
theorem low2 {o : VO} {xs : List VV} (h : lowO 2 o = true) : ([o, VO.fl xs] : VH).all (lowO ([o, VO.fl xs] : VH).length) = true := by
  show (lowO 2 o && _) = true
  rw [h]; rfl
theorem law_border_eq {E : List (List Int)} (w : WebF E) (hE : E.length ≤ 120) {s : Int} {row : List Int} {o : VO} (ho : lowO 1 o = true) (ho2 : lowO 2 o = true) (h0 : 0 ≤ s) (h1 : s ≤ 3) :
    F_law_border [.lst (E.map tupI), .int s, .lst (row.map VV.int)] [o] = .ok (.lst ((borderF E s row).map VV.int)) [o] := by
  have hsz := szI_le (E := E) (s - 1) hE
  obtain ⟨n, hn⟩ : ∃ n : Int, ((szI E (s - 1)).length : Int) = n := ⟨_, rfl⟩
  unfold F_law_border B_law_border
  walk_at "ev"
  simp only [law_sized_any w (by omega)]
  walk_at "ev"
  simp only [List.any_cons, List.any_nil, VV.isObj, Bool.or_false, Bool.false_eq_true, false_or]
  rw [if_neg (by decide)]
  walk_at "ev"
  simp only [len_lst, List.length_map, hn, lift_some, bnd_ok]
  rw [rep0 hn (by omega)]
  walk_at "ev"
  simp only [law_sized_any w (show E.length ≤ 1000 by omega)]
  walk_at "ev"
  rw [prs_fr]
  obtain ⟨ρ2, h2, e2, ⟨o5, o6, o7, o8, rfl⟩, rfl⟩ := for_pre (b := bTup 2 (bCons (bNm 5) (bCons (bNm 6) bNil))) (body := lb_law_border_2) (fun p : List Int × Int => VV.tup [tupI p.1, .int p.2])
    (fun pre ρ h => (∃ o5 o6 o7 o8, ρ = [some (.lst (E.map tupI)), some (.int s), some (.lst (row.map VV.int)), some (.lst ((szI E (s - 1)).map tupI)), some (.obj 1), o5, o6, o7, o8]) ∧ h = [o, .fl ((pre.foldl (fun v p => (sidesL p.1).foldl (bstep E p.2) v) (List.replicate (szI E (s - 1)).length 0)).map VV.int)])
    ((szI E s).zip row) (ρ := [some (.lst (E.map tupI)), some (.int s), some (.lst (row.map VV.int)), some (.lst ((szI E (s - 1)).map tupI)), some (.obj 1), none, none, none, none]) (h := [o, .fl ((List.replicate (szI E (s - 1)).length (0 : Int)).map VV.int)]) ⟨⟨none, none, none, none, rfl⟩, rfl⟩ (by
      rintro pre ⟨f, x⟩ post ey ρ h ⟨⟨o5, o6, o7, o8, rfl⟩, rfl⟩
      have hfm : f ∈ szI E s := (List.of_mem_zip (show (f, x) ∈ (szI E s).zip row by rw [ey]; simp)).1
      obtain ⟨hfE, hfl⟩ := (szI_mem h0 h1).mp hfm
      have hv := fold2_len (E := E) (l := pre) (v := List.replicate (szI E (s - 1)).length 0)
      rw [List.length_replicate] at hv
      generalize ev0 : pre.foldl (fun v p => (sidesL p.1).foldl (bstep E p.2) v) (List.replicate (szI E (s - 1)).length 0) = v0 at hv
      obtain ⟨ρ3, h3, e3, ⟨o7', o8', rfl⟩, rfl⟩ := for_pre (b := bTup 2 (bCons (bNm 7) (bCons (bNm 8) bNil))) (body := lb_law_border_1) sideV
        (fun q ρ h => (∃ o7 o8, ρ = [some (.lst (E.map tupI)), some (.int s), some (.lst (row.map VV.int)), some (.lst ((szI E (s - 1)).map tupI)), some (.obj 1), some (tupI f), some (.int x), o7, o8]) ∧ h = [o, .fl ((q.foldl (bstep E x) v0).map VV.int)])
        (sidesL f) (ρ := [some (.lst (E.map tupI)), some (.int s), some (.lst (row.map VV.int)), some (.lst ((szI E (s - 1)).map tupI)), some (.obj 1), some (tupI f), some (.int x), o7, o8]) (h := [o, .fl (v0.map VV.int)]) ⟨⟨o7, o8, rfl⟩, rfl⟩ (by
          rintro q ⟨by_, side⟩ q' eq ρ h ⟨⟨o7, o8, rfl⟩, rfl⟩
          have hp : (by_, side) ∈ sidesL f := by rw [eq]; simp
          obtain ⟨m1, m2, m3⟩ := side_mem w hfE hp
          have hat := at_szI (side_szI w hfm hp).1
          have hj : plc E side < (q.foldl (bstep E x) v0).length := by
            rw [fold_len, hv]; exact (List.getElem?_eq_some_iff.mp hat).1
          refine ⟨_, _, _, pat_pair, ?_, ⟨some (.int by_), some (tupI side), rfl⟩, rfl⟩
          simp only [s_augI, a_var, List.set_cons_zero, List.set_cons_succ, List.getElem?_cons_succ, List.getElem?_cons_zero, getV_some, sbd_ok]
          rw [a_idxL (T := szI E (s - 1)) (t := side) (j := plc E side) rfl rfl (szI_nodup w _) hat, sbd_ok]
          rw [aug_eq hj (x := by_ * x) (by
            simp only [a_bin, a_var, List.getElem?_cons_succ, List.getElem?_cons_zero, getV_some, bnd_ok, o_mul_l m3, lift_some]), List.foldl_append]
          rfl)
      refine ⟨_, _, _, pat_pair, ?_, ⟨some (tupI f), some (.int x), o7', o8', rfl⟩, rfl⟩
      simp only [s_for, a_seq, a_fn, a_cons, a_nil, a_var, List.set_cons_zero, List.set_cons_succ, List.getElem?_cons_succ, List.getElem?_cons_zero, getV_some, bnd_ok, List.append_nil, List.length_cons, List.length_nil, Nat.reduceAdd, if_true]
      rw [law_sides_eq (f := f) (by omega) (low2 ho2)]
      simp only [bnd_ok, seqI_lst, sbd_ok]
      rw [List.foldl_append, ev0]
      exact e3)
  rw [e2]
  walk_at "ev"
  rw [fin_o rfl ho]; rfl
theorem law_rise_eq {E : List (List Int)} (w : WebF E) (hE : E.length ≤ 120) {s : Int} {row : List Int} {o : VO} (ho : lowO 1 o = true) (ho2 : lowO 2 o = true) (h0 : 0 ≤ s) (h1 : s ≤ 3) (hl : row.length = (szI E s).length) :
    F_law_rise [.lst (E.map tupI), .int s, .lst (row.map VV.int)] [o] = .ok (.lst ((riseF E s row).map VV.int)) [o] := by
  have hsz := szI_le (E := E) (s + 1) hE
  unfold F_law_rise B_law_rise
  walk_at "ev"
  simp only [law_sized_any w (show E.length ≤ 1000 by omega)]
  walk_at "ev"
  simp only [List.any_nil, Bool.false_eq_true, false_or]
  rw [if_neg (by decide)]
  walk_at "ev"
  simp only [law_sized_any w (show E.length ≤ 1000 by omega)]
  walk_at "ev"
  obtain ⟨ρ2, h2, e2, ⟨o5, rfl⟩, rfl⟩ := for_pre (b := bNm 5) (body := lb_law_rise_1) tupI
    (fun pre ρ h => (∃ o5, ρ = [some (.lst (E.map tupI)), some (.int s), some (.lst (row.map VV.int)), some (.lst ((szI E s).map tupI)), some (.obj 1), o5, none, none]) ∧ h = [o, .fl ((pre.map fun g => ((sidesL g).map fun p => p.1 * row.getD (plc E p.2) 0).sum).map VV.int)])
    (szI E (s + 1)) (ρ := [some (.lst (E.map tupI)), some (.int s), some (.lst (row.map VV.int)), some (.lst ((szI E s).map tupI)), some (.obj 1), none, none, none]) (h := [o, .fl []]) ⟨⟨none, rfl⟩, rfl⟩ (by
      rintro pre g post ey ρ h ⟨⟨o5, rfl⟩, rfl⟩
      have hg : g ∈ szI E (s + 1) := by rw [ey]; simp
      obtain ⟨gE, gl, g0, g3⟩ := szI_face hg
      have hpl : pre.length ≤ 120 := by
        have := congrArg List.length ey
        rw [List.length_append] at this; omega
      have hsl := sides_len (w.face g gE).le
      refine ⟨_, _, _, rfl, ?_, ⟨some (tupI g), rfl⟩, rfl⟩
      have hlow : ([o, VO.fl ((pre.map fun g => ((sidesL g).map fun p => p.1 * row.getD (plc E p.2) 0).sum).map VV.int)] : VH).all (lowO ([o, VO.fl ((pre.map fun g => ((sidesL g).map fun p => p.1 * row.getD (plc E p.2) 0).sum).map VV.int)] : VH).length) = true := low2 ho2
      generalize eh : ([o, VO.fl ((pre.map fun g => ((sidesL g).map fun p => p.1 * row.getD (plc E p.2) 0).sum).map VV.int)] : VH) = hh at hlow
      have el : lcGo (bTup 2 (bCons (bNm 6) (bCons (bNm 7) bNil))) tTrue le_law_rise_1 [some (.lst (E.map tupI)), some (.int s), some (.lst (row.map VV.int)), some (.lst ((szI E s).map tupI)), some (.obj 1), some (tupI g), none, none] ((sidesL g).map sideV) hh = .ok ((sidesL g).map fun p => VV.int (p.1 * row.getD (plc E p.2) 0)) hh := by
        refine lc_map sideV (fun p => VV.int (p.1 * row.getD (plc E p.2) 0)) fun p hp => ?_
        obtain ⟨m1, m2, m3⟩ := side_mem w gE hp
        have hsi := (side_szI w hg hp).1
        rw [show s + 1 - 1 = s by omega] at hsi
        have hat := at_szI hsi
        have hj : plc E p.2 < row.length := by rw [hl]; exact (List.getElem?_eq_some_iff.mp hat).1
        have ex : opIx hh (.lst (row.map VV.int)) (.int (plc E p.2 : Int)) = some (.int (row.getD (plc E p.2) 0)) := by
          rw [x_lst]
          refine atI_in ?_
          rw [List.getElem?_map, List.getElem?_eq_getElem hj, List.getD_eq_getElem?_getD, List.getElem?_eq_getElem hj]; rfl
        refine ⟨_, pat_pair, rfl, ?_, rfl⟩
        simp only [a_bin, a_var, List.set_cons_zero, List.set_cons_succ, List.getElem?_cons_succ, List.getElem?_cons_zero, getV_some, bnd_ok]
        rw [a_idxL (T := szI E s) (t := p.2) (j := plc E p.2) rfl rfl (szI_nodup w _) hat]
        simp only [bnd_ok, ex, lift_some, o_mul_l m3]
      simp only [s_expr, a_app, a_var, List.set_cons_zero, List.set_cons_succ, List.getElem?_cons_succ, List.getElem?_cons_zero, getV_some, bnd_ok, lstR_obj, ← eh, lstRO_fl, chkL_some]
      rw [eh]
      simp only [a_call, a_cons, a_nil, a_lc', a_seq, a_fn, a_var, List.getElem?_cons_succ, List.getElem?_cons_zero, getV_some, bnd_ok, List.append_nil, List.length_cons, List.length_nil, Nat.reduceAdd, if_true, law_sides_eq (f := g) (h := hh) (by have := (w.face g gE).le; omega) hlow, seqI_lst, wp, List.set_cons_zero, List.set_cons_succ, List.length_map]
      rw [if_neg (show ¬ (sidesL g).length > 16777216 by omega), el, afterL_ok]
      have es : cSum hh [.lst ((sidesL g).map fun p => VV.int (p.1 * row.getD (plc E p.2) 0))] = some (.int ((sidesL g).map fun p => p.1 * row.getD (plc E p.2) 0).sum) := by
        have : ((sidesL g).map fun p => VV.int (p.1 * row.getD (plc E p.2) 0)) = ((sidesL g).map fun p => p.1 * row.getD (plc E p.2) 0).map VV.int := by rw [List.map_map]; rfl
        rw [this, sum_ints]
      simp only [bnd_ok, a_nil, a_cons, es, lift_some, appV_obj]
      rw [← eh]
      simp only [List.getElem?_cons_succ, List.getElem?_cons_zero]
      rw [appO_fl (by rw [List.length_map, List.length_map]; omega) rfl, sbd_ok, List.map_append, List.map_append]
      rfl)
  rw [e2]
  walk_at "ev"
  rw [fin_o rfl ho]; rfl
/-! faces around a face, tops -/
def subB (f g : List Int) : Bool := f.all fun k => decide (k ∈ g)
theorem subB_iff {f g : List Int} : subB f g = true ↔ ∀ x ∈ f, x ∈ g := by
  unfold subB
  rw [List.all_eq_true]
  exact ⟨fun h x hx => of_decide_eq_true (h x hx), fun h x hx => decide_eq_true (h x hx)⟩
theorem in_tupI {i : Int} {g : List Int} {h : VH} : opIn h (.int i) (tupI g) = some (.bl (decide (i ∈ g))) := by
  show ((intsOf (g.map VV.int)).map fun ns => decide (i ∈ ns)).map VV.bl = _
  rw [intsOf_map]; rfl
theorem all_sub {f g : List Int} {h : VH} : cAll h [.lst (f.map fun k => VV.bl (decide (k ∈ g)))] = some (.bl (subB f g)) := by
  have := all_bls (h := h) (l := f.map fun k => decide (k ∈ g))
  rw [List.map_map] at this
  rw [show (f.map fun k => VV.bl (decide (k ∈ g))) = f.map (VV.bl ∘ fun k => decide (k ∈ g)) from rfl, this, List.all_map]
  rfl
theorem within_eq {f g : List Int} {h : VH} (hl : f.length ≤ 1000) : F_within [tupI f, tupI g] h = .ok (.bl (subB f g)) h := by
  unfold F_within B_within
  walk_at "ev"
  simp only [seq_tupI]
  walk_at "ev"
  rw [if_neg (by rw [List.length_map]; show ¬ f.length > 16777216; omega)]
  simp only [wp, List.set_cons_zero, List.set_cons_succ]
  rw [lc_map (b := bNm 2) (t := tTrue) (e := le_within_1) VV.int (fun k => VV.bl (decide (k ∈ g))) (ys := f) (fun k _ => ⟨_, rfl, rfl, by walk_at "ev"; simp only [in_tupI]; walk_at "ev", rfl⟩), afterL_ok]
  walk_at "ev"
  simp only [all_sub]
  walk_at "ev"
  rw [fin_ret rfl]
/-- a filter over the table -/
theorem lc2_table {E : List (List Int)} {i j : Nat} {p : List Int → Bool} {t1 : TF} {ρ : VSt} {h : VH} (hE : E.length ≤ 1000) (hij : i ≠ j) (hi : i < ρ.length) (hj : j < ρ.length)
    (ht : ∀ (s : VV), ∀ f ∈ E, t1 ((wp (ρ.set i (some s)) [j]).set j (some (tupI f))) h = .ok (p f) h) :
    lc2Go (bNm i) tTrue (iSeq (eVar i)) (bNm j) [j] t1 (eVar j) ρ [szL E 1, szL E 2, szL E 3, szL E 4] h [] = .ok (((ordE E).filter p).map tupI) h := by
  have one : ∀ (k : Nat) (xs acc : List VV), acc.length ≤ 100000 → lc2Go (bNm i) tTrue (iSeq (eVar i)) (bNm j) [j] t1 (eVar j) ρ (szL E k :: xs) h acc = lc2Go (bNm i) tTrue (iSeq (eVar i)) (bNm j) [j] t1 (eVar j) ρ xs h (acc ++ ((sz E k).filter p).map tupI) := by
    intro k xs acc hacc
    have hsz : (sz E k).length ≤ 1000 := Nat.le_trans (sz_le E k) hE
    rw [lc2Go]
    have ei : iSeq (eVar i) (ρ.set i (some (szL E k))) h = .ok ((sz E k).map tupI) h := by
      rw [a_seq, a_var, List.getElem?_set_self hi]
      rfl
    simp only [bNm_ap, tTrue, bind_ok, if_true, ei]
    rw [if_neg (by rw [List.length_map]; show ¬ acc.length + (sz E k).length > 16777216; omega)]
    rw [lc_mapF (b := bNm j) tupI p tupI (ys := sz E k) (fun f hf => ⟨_, rfl, ht _ f (mem_sz.mp hf).1, fun _ => ⟨by rw [a_var, List.getElem?_set_self (by rw [wp_length, List.length_set]; exact hj)]; rfl, rfl⟩⟩), bind_ok]
  have hsz : ∀ k, (((sz E k).filter p).map tupI).length ≤ 1000 := fun k => by
    rw [List.length_map]
    exact Nat.le_trans (List.length_filter_le _ _) (Nat.le_trans (sz_le E k) hE)
  have s1 := hsz 1
  have s2 := hsz 2
  have s3 := hsz 3
  rw [one 1 _ _ (by simp), one 2 _ _ (by simp only [List.nil_append]; omega), one 3 _ _ (by simp only [List.nil_append, List.length_append]; omega), one 4 _ _ (by simp only [List.nil_append, List.length_append]; omega), lc2Go]
  unfold ordE
  simp only [List.nil_append, List.filter_append, List.map_append, List.append_assoc]
theorem ordE_perm {E : List (List Int)} (w : WebF E) : (ordE E).Perm E := by
  refine nodup_perm ?_ w.nd fun x => mem_ordE w.face
  unfold ordE
  have dj : ∀ a b, a ≠ b → ∀ x ∈ sz E a, ∀ y ∈ sz E b, x ≠ y := fun a b hab x hx y hy e => hab (by rw [← (mem_sz.mp hx).2, ← (mem_sz.mp hy).2, e])
  have n := fun k => sz_nodup w.nd k
  refine List.nodup_append.mpr ⟨n 1, List.nodup_append.mpr ⟨n 2, List.nodup_append.mpr ⟨n 3, n 4, dj 3 4 (by decide)⟩, fun x hx y hy => ?_⟩, fun x hx y hy => ?_⟩
  · rcases List.mem_append.mp hy with z | z
    · exact dj 2 3 (by decide) x hx y z
    · exact dj 2 4 (by decide) x hx y z
  · rcases List.mem_append.mp hy with z | z
    · exact dj 1 2 (by decide) x hx y z
    · rcases List.mem_append.mp z with z | z
      · exact dj 1 3 (by decide) x hx y z
      · exact dj 1 4 (by decide) x hx y z
theorem sort_filter {E : List (List Int)} (w : WebF E) (p : List Int → Bool) : fsort ((ordE E).filter p) = E.filter p :=
  fsort_uniq (fsort_pw _) (w.pw.sublist List.filter_sublist) ((fsort_perm _).trans ((ordE_perm w).filter p))
def arnd (E : List (List Int)) (f : List Int) : List (List Int) := E.filter (subB f)
section
variable {E : List (List Int)} {h : VH}
theorem mth_around {r : Res VV} : methC "Web" "around" (insOf h (webV E)) r = r := rfl
theorem around_eq (w : WebF E) (hE : E.length ≤ 1000) {f : List Int} (hf : f.length ≤ 1000) : F_Web_around [webV E, tupI f] h = .ok (.lst ((arnd E f).map tupI)) h := by
  unfold F_Web_around B_Web_around
  walk_at "ev"
  simp only [fld_table]
  walk_at "ev"
  simp only [wp, List.set_cons_zero, List.set_cons_succ]
  rw [lc2_table (E := E) (i := 2) (j := 3) (p := subB f) hE (by decide) (by simp) (by simp) (fun s g _ => by
    simp only [wp, List.set_cons_zero, List.set_cons_succ]
    walk_at "ev"
    simp only [within_eq hf]
    walk_at "ev"), afterL_ok]
  walk_at "ev"
  simp only [sorted_tups (ks := (ordE E).filter (subB f)) (fun k hk => (w.face k ((mem_ordE w.face).mp (List.mem_filter.mp hk).1)).pos), sort_filter w]
  walk_at "ev"
  rw [fin_ret rfl]; rfl
end
/-! tops: each face lies in one -/
theorem sub_face {E : List (List Int)} (w : WebF E) {f g : List Int} (hf : f ∈ E) (hg : g ∈ E) : subB f g = true ↔ f.Sublist g := by
  rw [subB_iff]
  exact ⟨fun h => inc_sublist (w.face f hf).inc (w.face g hg).inc h, fun h x hx => h.subset hx⟩
theorem mem_arnd {E : List (List Int)} {f g : List Int} : g ∈ arnd E f ↔ g ∈ E ∧ subB f g = true := by
  unfold arnd
  rw [List.mem_filter]
theorem len_one {α : Type} {x : α} : ∀ {l : List α}, l.Nodup → x ∈ l → (∀ y ∈ l, y = x) → l.length = 1
  | [], _, h, _ => by simp at h
  | [a], _, _, _ => rfl
  | a :: b :: l, nd, _, h => by
    have h1 := h a (by simp)
    have h2 := h b (by simp)
    rw [List.nodup_cons] at nd
    exact absurd (by rw [h1, h2]; simp) nd.1
theorem clo_ext {A B : List (List Int)} (h : ∀ s, s ∈ clo A ↔ s ∈ clo B) : clo A = clo B := fsort_uniq (clo_pw A) (clo_pw B) (nodup_perm (clo_nodup A) (clo_nodup B) h)
/-- the faces that have not all of a face's points -/
def fewer (E : List (List Int)) (f : List Int) : List (List Int) := E.filter fun g => !subB f g
theorem webf_fewer {E : List (List Int)} (w : WebF E) (f : List Int) : WebF (fewer E f) where
  face := fun g hg => w.face g (List.mem_filter.mp hg).1
  nd := w.nd.sublist List.filter_sublist
  pw := w.pw.sublist List.filter_sublist
  down := fun g hg s hs n => by
    obtain ⟨h1, h2⟩ := List.mem_filter.mp hg
    refine List.mem_filter.mpr ⟨w.down g h1 s hs n, ?_⟩
    rw [Bool.not_eq_true'] at h2 ⊢
    rw [← Bool.not_eq_true, subB_iff] at h2 ⊢
    exact fun z => h2 fun x hx => hs.subset (z x hx)
theorem clo_perm {A B : List (List Int)} (p : A.Perm B) : clo A = clo B := clo_ext fun s => by
  rw [mem_clo, mem_clo]
  exact ⟨fun ⟨f, hf, r⟩ => ⟨f, p.mem_iff.mp hf, r⟩, fun ⟨f, hf, r⟩ => ⟨f, p.mem_iff.mpr hf, r⟩⟩
theorem parts_clo {fs : List (List Int)} : (parts fs).eraseDups.length = (clo fs).length := by
  unfold clo
  rw [(fsort_perm _).length_eq]
/-! what the web does -/
theorem subs_op {f g : List Int} {ne : Bool} {h : VH} (hf : f.length ≤ 7) (hg : g ≠ []) (hl : g.length ≤ 60) : opSubs ne h (tupI f) (tupI g) = some (.bl (if ne = true then !subB f g else subB f g)) := by
  have e1 : tupN (tupI f) = some f := intsV_tupI
  have e2 : tupN (tupI g) = some g := intsV_tupI
  unfold opSubs
  rw [e1, e2]
  simp only
  have h1 := eraseDups_le f
  have h2 : 0 < g.eraseDups.length := by
    cases g with
    | nil => exact absurd rfl hg
    | cons a l => rw [List.eraseDups_cons, List.length_cons]; omega
  rw [if_pos ⟨by omega, by omega, by omega⟩]
  rfl
section
variable {E : List (List Int)} {h : VH}
theorem mth_without {r : Res VV} : methC "Web" "without" (insOf h (webV E)) r = r := rfl
end
/-! maps drawn -/
def pnts (E : List (List Int)) : List Int := (sz E 1).map fun f => f.headD 0
theorem sz1_pnts (E : List (List Int)) : sz E 1 = (pnts E).map fun p => [p] := by
  unfold pnts
  rw [List.map_map]
  conv => lhs; rw [← List.map_id (sz E 1)]
  refine List.map_congr_left fun f hf => ?_
  have hl := (mem_sz.mp hf).2
  match f, hl with
  | [a], _ => rfl
theorem mem_pnts {E : List (List Int)} {p : Int} : p ∈ pnts E ↔ [p] ∈ E := by
  have : p ∈ pnts E ↔ [p] ∈ sz E 1 := by
    rw [sz1_pnts]
    simp
  rw [this, mem_sz]
  simp
theorem pnts_nodup {E : List (List Int)} (h : E.Nodup) : (pnts E).Nodup := by
  have := sz_nodup h 1
  rw [sz1_pnts] at this
  exact (List.pairwise_map.mp this).imp fun h e => h (by rw [e])
theorem pnts_of {E : List (List Int)} (w : WebF E) {f : List Int} (hf : f ∈ E) {p : Int} (hp : p ∈ f) : p ∈ pnts E := mem_pnts.mpr (w.down f hf [p] (List.singleton_sublist.mpr hp) (by simp))
theorem szI0 (E : List (List Int)) : (szI E 0).map tupI = (pnts E).map fun p => tupI [p] := by
  show (sz E 1).map tupI = _
  rw [sz1_pnts, List.map_map]; rfl
def img (φ : Int → Int) (f : List Int) : List Int := srtI (f.map φ)
theorem inc_srtI (l : List Int) : Inc (srtI l) := by rw [srtI_eq]; exact inc_isort (nodup_eraseDupsI l)
theorem srtI_mem {l : List Int} {x : Int} : x ∈ srtI l ↔ x ∈ l := by rw [srtI_eq, isort_mem, List.mem_eraseDups]
theorem ix_tups {l : List (List Int)} {r : Int} {h : VH} (h0 : 0 ≤ r) (h1 : r < l.length) : ∃ v, opIx h (.lst (l.map tupI)) (.int r) = some (tupI v) ∧ v ∈ l := by
  obtain ⟨k, rfl⟩ := Int.eq_ofNat_of_zero_le h0
  have hk : k < l.length := by omega
  refine ⟨l[k], ?_, List.getElem_mem hk⟩
  rw [x_lst]
  exact atI_in (by rw [List.getElem?_map, List.getElem?_eq_getElem hk]; rfl)
/-- one face more -/
def prV (φ : Int → Int) (p : Int) : VV := .tup [.int p, .int (φ p)]
structure MapOk (E1 E2 : List (List Int)) (φ : Int → Int) : Prop where
  w1 : WebF E1
  w2 : WebF E2
  l1 : E1.length < 63
  l2 : E2.length < 63
  im : ∀ f ∈ E1, img φ f ∈ E2
/-! the map made -/
def mapV (E1 E2 : List (List Int)) (Q : List Int) (φ : Int → Int) : VV := .ins "Map" ["one", "other", "lead"] [webV E1, webV E2, ldV Q φ]
def mapO (E1 E2 : List (List Int)) (Q : List Int) (φ : Int → Int) : VO := .ins "Map" ["one", "other", "lead"] [webV E1, webV E2, ldV Q φ]
abbrev mapT (E1 E2 : List (List Int)) (Q : List Int) (φ : Int → Int) : Str × List Str × List VV := ("Map", ["one", "other", "lead"], [webV E1, webV E2, ldV Q φ])
section
variable {E1 E2 : List (List Int)} {Q : List Int} {φ : Int → Int} {h : VH}
theorem fld_one : fldR "Map" "one" (some (mapT E1 E2 Q φ)) h = .ok (webV E1) h := rfl
theorem fld_other : fldR "Map" "other" (some (mapT E1 E2 Q φ)) h = .ok (webV E2) h := rfl
theorem fld_lead : fldR "Map" "lead" (some (mapT E1 E2 Q φ)) h = .ok (ldV Q φ) h := rfl
theorem mth_image {r : Res VV} : methC "Map" "image" (some (mapT E1 E2 Q φ)) r = r := rfl
theorem mth_led {r : Res VV} : methC "Map" "led" (some (mapT E1 E2 Q φ)) r = r := rfl
theorem mth_forth {r : Res VV} : methC "Map" "forth" (some (mapT E1 E2 Q φ)) r = r := rfl
theorem ins_map : insOf h (mapV E1 E2 Q φ) = some (mapT E1 E2 Q φ) := rfl
theorem srtI_dd (l : List Int) : srtI (dd l) = srtI l := by
  refine srtI_uniq (inc_srtI _) fun k => ?_
  rw [srtI_mem, mem_dd]
theorem image_eq {self : VV} {f : List Int} (hs : insOf h self = some (mapT E1 E2 Q φ)) (hf : ∀ p ∈ f, p ∈ Q) (hl : f.length ≤ 60) : F_Map_image [self, tupI f] h = .ok (tupI (img φ f)) h := by
  have acc : noX (accGo (bNm 2) (stSet (eBin opKGet (eFld "Map" "lead" (eVar 0)) (eVar 2))) [some self, some (tupI f), none] (f.map VV.int) h []) = .ok (dd (f.map φ)) h := by
    rw [show ([] : List Int) = dd (([] : List Int).map φ) from rfl, acc_pre VV.int (fun l : List Int => dd (l.map φ)) f (fun pre y post e => ?_), noX_ok]
    have lm : pre.length ≤ 60 := by
      have := congrArg List.length e
      rw [List.length_append] at this; omega
    have := dd_le (pre.map φ)
    rw [List.length_map] at this
    refine ⟨_, rfl, ?_⟩
    have ev : (eBin opKGet (eFld "Map" "lead" (eVar 0)) (eVar 2)) [some self, some (tupI f), some (.int y)] h = .ok (.int (φ y)) h := by
      simp only [a_bin, a_fld, a_var, List.getElem?_cons_zero, List.getElem?_cons_succ, getV_some, bnd_ok, hs, fld_lead]
      rw [kget_ld (hf y (by rw [e]; simp))]; rfl
    show (Res.bind _ _) = _
    simp only [bNm_ap, List.set_cons_zero, List.set_cons_succ, ev, bind_ok]
    show (if (dd (pre.map φ)).length ≥ 4000 then Res.no else .ok (if φ y ∈ dd (pre.map φ) then dd (pre.map φ) else dd (pre.map φ) ++ [φ y]) h) = _
    rw [if_neg (by omega), List.map_append, List.map_cons, List.map_nil, dd_snoc]
  unfold F_Map_image B_Map_image
  walk_at "ev"
  simp only [seq_tupI]
  walk_at "ev"
  simp only [wp, List.set_cons_zero, List.set_cons_succ, acc]
  walk_at "ev"
  have hd := dd_le (f.map φ)
  rw [List.length_map] at hd
  rw [if_pos (by omega)]
  walk_at "ev"
  simp only [tuple_lst]
  walk_at "ev"
  rw [fin_ret rfl, srtI_dd]; rfl
end
theorem ne_ints {h : VH} {l : List Int} : opNe h (.lst (l.map VV.int)) (.lst (l.map VV.int)) = some (.bl false) := by
  have he := eq_ints (h := h) (l := l) (m := l)
  unfold opEq at he
  unfold opNe
  obtain ⟨v, h1, h2⟩ := Option.map_eq_some_iff.mp he
  rw [h1]
  simp at h2
  rw [h2]; rfl
theorem inc_pnts {E : List (List Int)} (w : WebF E) : Inc (pnts E) := by
  refine inc_of ?_ (pnts_nodup w.nd)
  have h1 : (sz E 1).Pairwise (fun a b => leL a b = true) := w.pw.sublist List.filter_sublist
  rw [sz1_pnts] at h1
  refine (List.pairwise_map.mp h1).imp fun {a b} h => ?_
  unfold leL at h
  have h := of_decide_eq_true h
  rcases Int.lt_or_le b a with c | c
  · exact absurd (List.cons_lt_cons_iff.mpr (.inl c)) (List.not_lt.mpr h)
  · exact c
theorem dc_pairs {φ : Int → Int} {h : VH} {x0 x1 x2 x3 x4 x5 x6 x7 x8 : Option VV} : ∀ (post pre : List Int), (pre ++ post).Nodup →
    dcGo (bTup 2 (bCons (bNm 9) (bCons (bNm 10) bNil))) (eVar 9) (eVar 10) [x0, x1, x2, x3, x4, x5, x6, x7, x8, none, none] (post.map (prV φ)) h (pre.map Sum.inl, pre.map fun p => VV.int (φ p)) = .ok ((pre ++ post).map Sum.inl, (pre ++ post).map fun p => VV.int (φ p)) h
  | [], pre, _ => by rw [List.append_nil]; rfl
  | y :: post, pre, hn => by
    have hy : y ∉ pre := fun z => (List.nodup_append.mp hn).2.2 y z y (by simp) rfl
    have ih := dc_pairs (φ := φ) (h := h) (x0 := x0) (x1 := x1) (x2 := x2) (x3 := x3) (x4 := x4) (x5 := x5) (x6 := x6) (x7 := x7) (x8 := x8) post (pre ++ [y]) (by rw [List.append_assoc]; exact hn)
    rw [List.map_cons, dcGo]
    have eb : bTup 2 (bCons (bNm 9) (bCons (bNm 10) bNil)) (prV φ y) [x0, x1, x2, x3, x4, x5, x6, x7, x8, none, none] = some [x0, x1, x2, x3, x4, x5, x6, x7, x8, some (.int y), some (.int (φ y))] := rfl
    rw [eb]
    simp only [a_var, List.getElem?_cons_zero, List.getElem?_cons_succ, getV_some, bind_ok, keyA]
    rw [if_neg (by simp [VV.isObj])]
    obtain ⟨p1, p2⟩ := put_new (P := pre) (vs := pre.map fun p => VV.int (φ p)) (v := .int (φ y)) hy
    rw [p1, p2]
    have e2 : pre.map (fun p => VV.int (φ p)) ++ [.int (φ y)] = (pre ++ [y]).map fun p => VV.int (φ p) := by rw [List.map_append]; rfl
    rw [e2, ih, List.append_assoc]; rfl
section
variable {E1 E2 : List (List Int)} {Q : List Int} {φ : Int → Int}
def everyL (E : List (List Int)) : List (List Int) := szI E 0 ++ szI E 1 ++ szI E 2 ++ szI E 3
theorem mem_every {E : List (List Int)} {f : List Int} (h : f ∈ everyL E) : f ∈ E := by
  unfold everyL at h
  simp only [List.mem_append] at h
  rcases h with ((h | h) | h) | h <;> exact (szI_face h).1
theorem lc_id {i : Nat} {fs : List (List Int)} {ρ : VSt} {h : VH} (hi : i < ρ.length) : lcGo (bNm i) tTrue (eVar i) ρ (fs.map tupI) h = .ok (fs.map tupI) h := by
  refine lc_map tupI tupI fun f _ => ⟨_, rfl, rfl, ?_, rfl⟩
  rw [a_var, List.getElem?_set_self hi]; rfl
theorem every_eq {h : VH} {ρ : VSt} {E : List (List Int)} (hρ : ρ.length = 11) (h1 : ρ[1]? = some (some (webV E))) (hE : E.length ≤ 1000) :
    lc2Go (bNm 8) tTrue (iSeq (eMeth "Web" "faces" 2 F_Web_faces [] (eVar 1) (aCons (eVar 8) aNil))) (bNm 7) [7] tTrue (eVar 7) ρ ([0, 1, 2, 3].map VV.int) h [] = .ok ((everyL E).map tupI) h := by
  have one : ∀ (s : Int) (xs acc : List VV) , acc.length ≤ 100000 → lc2Go (bNm 8) tTrue (iSeq (eMeth "Web" "faces" 2 F_Web_faces [] (eVar 1) (aCons (eVar 8) aNil))) (bNm 7) [7] tTrue (eVar 7) ρ (.int s :: xs) h acc = lc2Go (bNm 8) tTrue (iSeq (eMeth "Web" "faces" 2 F_Web_faces [] (eVar 1) (aCons (eVar 8) aNil))) (bNm 7) [7] tTrue (eVar 7) ρ xs h (acc ++ (szI E s).map tupI) := by
    intro s xs acc hacc
    have hsz : (szI E s).length ≤ 1000 := by
      unfold szI
      split
      · exact Nat.le_trans (sz_le E _) hE
      · simp
    rw [lc2Go]
    have g1 : (ρ.set 8 (some (.int s)))[1]? = some (some (webV E)) := by rw [List.getElem?_set_ne (by decide)]; exact h1
    have g2 : (ρ.set 8 (some (.int s)))[8]? = some (some (.int s)) := List.getElem?_set_self (by rw [hρ]; decide)
    have ei : iSeq (eMeth "Web" "faces" 2 F_Web_faces [] (eVar 1) (aCons (eVar 8) aNil)) (ρ.set 8 (some (.int s))) h = .ok ((szI E s).map tupI) h := by
      simp only [a_seq, a_meth, a_var, g1, getV_some, bnd_ok, meth_faces, a_cons, g2, a_nil, List.append_nil, List.length_cons, List.length_nil, Nat.reduceAdd, if_true, faces_eq, noX_ok, seqI_lst]
    simp only [bNm_ap, tTrue, bind_ok, if_true, ei]
    rw [if_neg (by rw [List.length_map]; show ¬ acc.length + (szI E s).length > 16777216; omega)]
    have := lc_id (i := 7) (fs := szI E s) (ρ := wp (ρ.set 8 (some (.int s))) [7]) (h := h) (by rw [wp_length, List.length_set, hρ]; decide)
    rw [this, bind_ok]
  have hsz : ∀ s, (szI E s).length ≤ 1000 := fun s => by
    unfold szI
    split
    · exact Nat.le_trans (sz_le E _) hE
    · simp
  have s0 := hsz 0
  have s1 := hsz 1
  have s2 := hsz 2
  show lc2Go _ _ _ _ _ _ _ _ [.int 0, .int 1, .int 2, .int 3] _ _ = _
  rw [one 0 _ _ (by simp), one 1 _ _ (by simp; omega), one 2 _ _ (by simp; omega), one 3 _ _ (by simp; omega), lc2Go]
  unfold everyL
  simp only [List.nil_append, List.map_append]
theorem img1 (φ : Int → Int) (p : Int) : img φ [p] = [φ p] := by
  unfold img
  exact (srtI_uniq (by simp) (by simp)).symm
end
/-! points in order -/
def turnsL : List Int → Nat
  | [] => 0
  | x :: xs => (xs.filter fun y => decide (y < x)).length + turnsL xs
def ledV (l : List Int) : VV := if l.Nodup then .tup [.int (sgn (turnsL l)), tupI (isort l)] else .tup [.int 0, .tup []]
theorem turns_lc {l : List Int} {h : VH} {x1 x3 : Option VV} (hl : l.length ≤ 60) : ∀ (post pre : List Int) (acc : List VV), l = pre ++ post → acc.length ≤ 60 * pre.length →
    lc2Go (bTup 2 (bCons (bNm 4) (bCons (bNm 5) bNil))) tTrue (iSeq (eSl opSl (eVar 0) (oSome (eBin opAdd (eVar 4) (eC (.int 1)))) oNone)) (bNm 2) [2] (tVal (eBin opLt (eVar 2) (eVar 5))) le_in_order_1 [some (.lst (l.map VV.int)), x1, none, x3, none, none] ((post.zipIdx pre.length).map fun p => VV.tup [.int (p.2 : Int), .int p.1]) h acc
      = .ok (acc ++ List.replicate (turnsL post) (.int 1)) h
  | [], pre, acc, _, _ => by simp [lc2Go, turnsL]
  | y :: post, pre, acc, el, ha => by
    have lm : pre.length + 1 + post.length = l.length := by
      have := congrArg List.length el
      simpa [Nat.add_assoc, Nat.add_comm, Nat.add_left_comm] using this.symm
    have ed : (l.map VV.int).drop (pre.length + 1) = post.map VV.int := by
      rw [el, ← List.map_drop, List.drop_append]
      simp
    rw [List.zipIdx_cons, List.map_cons, lc2Go]
    have eb : bTup 2 (bCons (bNm 4) (bCons (bNm 5) bNil)) (.tup [.int (pre.length : Int), .int y]) [some (.lst (l.map VV.int)), x1, none, x3, none, none] = some [some (.lst (l.map VV.int)), x1, none, x3, some (.int (pre.length : Int)), some (.int y)] := rfl
    rw [eb]
    have ei : iSeq (eSl opSl (eVar 0) (oSome (eBin opAdd (eVar 4) (eC (.int 1)))) oNone) [some (.lst (l.map VV.int)), x1, none, x3, some (.int (pre.length : Int)), some (.int y)] h = .ok (post.map VV.int) h := by
      walk_at "ev"
      simp only [sl_lst]
      walk_at "ev"
      rw [show ((pre.length : Int) + 1) = ((pre.length + 1 : Nat) : Int) by omega, cut_back (by rw [List.length_map]; omega), ed]
    have ein : lcGo (bNm 2) (tVal (eBin opLt (eVar 2) (eVar 5))) le_in_order_1 (wp [some (.lst (l.map VV.int)), x1, none, x3, some (.int (pre.length : Int)), some (.int y)] [2]) (post.map VV.int) h = .ok (List.replicate (post.filter fun z => decide (z < y)).length (.int 1)) h := by
      simp only [wp, List.set_cons_zero, List.set_cons_succ]
      rw [lc_mapF (b := bNm 2) VV.int (fun z => decide (z < y)) (fun _ => VV.int 1) (ys := post) (fun z _ => ⟨_, rfl, by walk_at "ev", fun _ => ⟨rfl, rfl⟩⟩)]
      congr 1
      exact List.map_const' ..
    simp only [tTrue, bind_ok, if_true, ei]
    have hf := List.length_filter_le (fun z => decide (z < y)) post
    rw [if_neg (by rw [List.length_map]; show ¬ acc.length + post.length > 16777216; omega)]
    rw [ein, bind_ok]
    have ih := turns_lc (h := h) (x1 := x1) (x3 := x3) hl post (pre ++ [y]) (acc ++ List.replicate (post.filter fun z => decide (z < y)).length (.int 1)) (by rw [el, List.append_assoc]; rfl) (by simp only [List.length_append, List.length_replicate, List.length_singleton]; omega)
    rw [List.length_append, List.length_singleton] at ih
    rw [ih, turnsL, List.append_assoc, List.replicate_append_replicate]
theorem sum_ones : ∀ n : Nat, (List.replicate n (1 : Int)).sum = (n : Int)
  | 0 => rfl
  | n + 1 => by rw [List.replicate_succ, List.sum_cons, sum_ones n]; omega
theorem in_order_eq {l : List Int} {h : VH} (hl : l.length ≤ 60) : F_in_order [.lst (l.map VV.int)] h = .ok (ledV l) h := by
  have acc : noX (accGo (bNm 3) (stSet (eVar 3)) [some (.lst (l.map VV.int)), none, none, none, none, none] (l.map VV.int) h []) = .ok (dd l) h := by
    rw [show ([] : List Int) = dd [] from rfl, acc_pre VV.int dd l (fun pre y post e => ?_), noX_ok]
    have lm : pre.length ≤ 1000 := by
      have := congrArg List.length e
      rw [List.length_append] at this; omega
    have := dd_le pre
    refine ⟨_, rfl, ?_⟩
    show (if (dd pre).length ≥ 4000 then Res.no else .ok (if y ∈ dd pre then dd pre else dd pre ++ [y]) h) = _
    rw [if_neg (by omega), dd_snoc]
  have dl : decide (((dd l).length : Int) < (l.length : Int)) = !decide l.Nodup := by
    rw [← dd_lt l]; exact Bool.eq_iff_iff.mpr (by simp)
  unfold F_in_order B_in_order
  walk_at "ev"
  simp only [wp, List.set_cons_zero, List.set_cons_succ, acc]
  walk_at "ev"
  simp only [len_lst, List.length_map]
  walk_at "ev"
  rw [dl]
  by_cases c : l.Nodup
  · simp only [decide_eq_true c, Bool.not_true, Bool.false_eq_true, if_false]
    walk_at "ev"
    rw [enum_map]
    simp only [wp, List.set_cons_zero, List.set_cons_succ]
    have tl := turns_lc (l := l) (h := h) (x1 := none) (x3 := none) hl l [] [] rfl (by simp)
    rw [List.length_nil] at tl
    rw [tl, afterL_ok, List.nil_append]
    walk_at "ev"
    have es : cSum h [.lst (List.replicate (turnsL l) (.int 1))] = some (.int (turnsL l : Int)) := by
      have := sum_ints (h := h) (l := List.replicate (turnsL l) 1)
      rw [List.map_replicate, sum_ones] at this
      exact this
    simp only [es]
    walk_at "ev"
    simp only [sign_eq]
    walk_at "ev"
    simp only [sorted_lst]
    walk_at "ev"
    simp only [tuple_lst]
    walk_at "ev"
    simp only [List.any_cons, List.any_nil, VV.isObj, Bool.or_false, Bool.false_eq_true, false_or]
    rw [if_neg (by decide)]
    walk_at "ev"
    rw [fin_ret rfl]
    unfold ledV
    rw [if_pos c]; rfl
  · simp only [decide_eq_false c, Bool.not_false, if_true]
    walk_at "ev"
    simp only [List.any_cons, List.any_nil, VV.isObj, Bool.or_false, Bool.false_eq_true, false_or]
    rw [if_neg (by decide)]
    walk_at "ev"
    simp only [List.any_cons, List.any_nil, VV.isObj, Bool.or_false, Bool.false_eq_true, false_or]
    rw [if_neg (by decide)]
    walk_at "ev"
    rw [fin_ret rfl]
    unfold ledV
    rw [if_neg c]
section
variable {E1 E2 : List (List Int)} {Q : List Int} {φ : Int → Int} {h : VH}
theorem led_eq {self : VV} {f : List Int} (hs : insOf h self = some (mapT E1 E2 Q φ)) (hf : ∀ p ∈ f, p ∈ Q) (hl : f.length ≤ 60) : F_Map_led [self, tupI f] h = .ok (ledV (f.map φ)) h := by
  unfold F_Map_led B_Map_led
  walk_at "ev"
  simp only [seq_tupI]
  walk_at "ev"
  rw [if_neg (by rw [List.length_map]; show ¬ f.length > 16777216; omega)]
  simp only [wp, List.set_cons_zero, List.set_cons_succ]
  rw [lc_map (b := bNm 2) (t := tTrue) (e := le_Map_led_1) VV.int (fun p => VV.int (φ p)) (ys := f) (fun p hp => ⟨_, rfl, rfl, by
    simp only [a_bin, a_fld, a_var, List.set_cons_zero, List.set_cons_succ, List.getElem?_cons_zero, List.getElem?_cons_succ, getV_some, bnd_ok, hs, fld_lead]
    rw [kget_ld (hf p hp)]; rfl, rfl⟩), afterL_ok]
  walk_at "ev"
  have : f.map (fun p => VV.int (φ p)) = (f.map φ).map VV.int := by rw [List.map_map]; rfl
  simp only [this, in_order_eq (l := f.map φ) (by rw [List.length_map]; exact hl)]
  walk_at "ev"
  rw [fin_ret rfl]
def sg (φ : Int → Int) (f : List Int) : Int := sgn (turnsL (f.map φ))
def tg' (φ : Int → Int) (f : List Int) : List Int := isort (f.map φ)
def fstep (E2 : List (List Int)) (φ : Int → Int) (v : List Int) (p : List Int × Int) : List Int := if (p.1.map φ).Nodup then addAt v (plc E2 (tg' φ p.1)) (sg φ p.1 * p.2) else v
def forthF (E1 E2 : List (List Int)) (φ : Int → Int) (s : Int) (row : List Int) : List Int := ((szI E1 s).zip row).foldl (fstep E2 φ) (List.replicate (szI E2 s).length 0)
theorem fstep_len {l : List (List Int × Int)} {v : List Int} : (l.foldl (fstep E2 φ) v).length = v.length := by
  induction l generalizing v with
  | nil => rfl
  | cons p l ih =>
    rw [List.foldl_cons, ih]
    unfold fstep
    split
    · rw [addAt_len]
    · rfl
theorem forthF_len {s : Int} {row : List Int} : (forthF E1 E2 φ s row).length = (szI E2 s).length := by unfold forthF; rw [fstep_len, List.length_replicate]
theorem srtI_nd {l : List Int} (h : l.Nodup) : srtI l = isort l := (srtI_uniq (inc_isort h) fun k => isort_mem).symm
theorem tg_in (M : MapOk E1 E2 φ) {f : List Int} (hf : f ∈ E1) (nd : (f.map φ).Nodup) : tg' φ f ∈ E2 ∧ (tg' φ f).length = f.length := by
  refine ⟨?_, by unfold tg'; rw [isort_len, List.length_map]⟩
  unfold tg'
  rw [← srtI_nd nd]
  exact M.im f hf
theorem tg_szI (M : MapOk E1 E2 φ) {s : Int} {f : List Int} (hf : f ∈ szI E1 s) (nd : (f.map φ).Nodup) : tg' φ f ∈ szI E2 s ∧ szI E2 s = sz E2 (tg' φ f).length := by
  obtain ⟨hfE, hfl, h0, h1⟩ := szI_face hf
  obtain ⟨m, l⟩ := tg_in M hfE nd
  refine ⟨(szI_mem h0 h1).mpr ⟨m, by rw [l]; exact hfl⟩, szI_len ?_ ?_ (by rw [l]; exact hfl)⟩
  · rw [l]; exact List.length_pos_iff.mpr (M.w1.face f hfE).pos
  · rw [l]; exact (M.w1.face f hfE).le
theorem sgn_ne (n : Nat) : sgn n ≠ 0 := by unfold sgn; omega
end
section
variable {E1 E2 : List (List Int)} {Q : List Int} {φ : Int → Int} {h : VH}
theorem forth_eq (M : MapOk E1 E2 φ) (hQ : Q.Perm (pnts E1)) {s r : Int} {row : List Int} {o : VO} (ho : lowO 1 o = true) (h0 : 0 ≤ s) (h1 : s ≤ 3) (hr : restOk r) (hl : row.length = (szI E1 s).length) :
    F_Map_forth [mapV E1 E2 Q φ, .int s, .lst (row.map VV.int), .int r] [o] = .ok (.lst (((forthF E1 E2 φ s row).map (restI r)).map VV.int)) [o] := by
  have hsz : (szI E2 s).length ≤ 120 := szI_le s (by have := M.l2; omega)
  obtain ⟨n, hn⟩ : ∃ n : Int, ((szI E2 s).length : Int) = n := ⟨_, rfl⟩
  have hmQ : ∀ f ∈ E1, ∀ p ∈ f, p ∈ Q := fun f hf p hp => hQ.mem_iff.mpr (pnts_of M.w1 hf hp)
  unfold F_Map_forth B_Map_forth
  walk_at "ev"
  simp only [ins_map, fld_one]
  walk_at "ev"
  simp only [look_row_eq h0 h1 hr hl]
  walk_at "ev"
  simp only [List.any_cons, List.any_nil, VV.isObj, Bool.or_false, Bool.false_eq_true, false_or]
  rw [if_neg (by decide)]
  simp only [bnd_ok, a_meth, a_fld, meth_many, a_cons, a_bin, a_var, a_c, a_nil, List.getElem?_cons_zero, List.getElem?_cons_succ, getV_some, lift_some, List.append_nil, List.length_cons, List.length_nil, Nat.reduceAdd, if_true, ins_map, fld_other, many_eq, noX_ok, hn]
  rw [rep0 hn (by omega)]
  walk_at "ev"
  simp only [ins_map, fld_one]
  walk_at "ev"
  simp only [meth_faces]
  walk_at "ev"
  simp only [faces_eq]
  walk_at "ev"
  rw [prs_fr]
  obtain ⟨ρ2, h2, e2, ⟨o5, o6, o7, o8, rfl⟩, rfl⟩ := for_pre (b := bTup 2 (bCons (bNm 5) (bCons (bNm 6) bNil))) (body := lb_Map_forth_1) (fun p : List Int × Int => VV.tup [tupI p.1, .int p.2])
    (fun pre ρ h => (∃ o5 o6 o7 o8, ρ = [some (mapV E1 E2 Q φ), some (.int s), some (.lst (row.map VV.int)), some (.int r), some (.obj 1), o5, o6, o7, o8]) ∧ h = [o, .fl ((pre.foldl (fstep E2 φ) (List.replicate (szI E2 s).length 0)).map VV.int)])
    ((szI E1 s).zip row) (ρ := [some (mapV E1 E2 Q φ), some (.int s), some (.lst (row.map VV.int)), some (.int r), some (.obj 1), none, none, none, none]) (h := [o, .fl ((List.replicate (szI E2 s).length (0 : Int)).map VV.int)]) ⟨⟨none, none, none, none, rfl⟩, rfl⟩ (by
      rintro pre ⟨f, x⟩ post ey ρ h ⟨⟨o5, o6, o7, o8, rfl⟩, rfl⟩
      have hfm : f ∈ szI E1 s := (List.of_mem_zip (show (f, x) ∈ (szI E1 s).zip row by rw [ey]; simp)).1
      obtain ⟨hfE, hfl⟩ := (szI_mem h0 h1).mp hfm
      have hv := fstep_len (E2 := E2) (φ := φ) (l := pre) (v := List.replicate (szI E2 s).length 0)
      rw [List.length_replicate] at hv
      rw [List.foldl_append]
      generalize pre.foldl (fstep E2 φ) (List.replicate (szI E2 s).length 0) = v0 at hv
      have hle := led_eq (E1 := E1) (E2 := E2) (Q := Q) (φ := φ) (h := [o, .fl (v0.map VV.int)]) (self := mapV E1 E2 Q φ) (f := f) rfl (hmQ f hfE) (by omega)
      by_cases c : (f.map φ).Nodup
      · obtain ⟨m1, m2⟩ := tg_szI M hfm c
        have hj : plc E2 (tg' φ f) < v0.length := by
          rw [hv, m2]
          exact plc_lt (tg_in M hfE c).1
        have eled : ledV (f.map φ) = .tup [.int (sg φ f), tupI (tg' φ f)] := by unfold ledV; rw [if_pos c]; rfl
        rw [eled] at hle
        refine ⟨_, _, _, pat_pair, ?_, ⟨some (tupI f), some (.int x), some (.int (sg φ f)), some (tupI (tg' φ f)), rfl⟩, rfl⟩
        simp only [s_seq, s_asg, a_meth, a_var, List.set_cons_zero, List.set_cons_succ, List.getElem?_cons_succ, List.getElem?_cons_zero, getV_some, bnd_ok, ins_map, mth_led, a_cons, a_nil, List.append_nil, List.length_cons, List.length_nil, Nat.reduceAdd, if_true, hle, noX_ok, sbd_ok, pat_pair, onx_some, thn_nx, s_if, a_val, a_bin, a_c, o_neI, lift_some, toB_bl, decide_eq_false (show ¬ sg φ f = 0 from sgn_ne _), Bool.not_false]
        have hp := place_eq (E := E2) (h := [o, .fl (v0.map VV.int)]) M.w2.face M.w2.nd (f := tg' φ f) (by rw [isort_in M.w2 (tg_in M hfE c).1]; exact (tg_in M hfE c).1)
        rw [isort_in M.w2 (tg_in M hfE c).1] at hp
        simp only [s_augI, a_var, List.getElem?_cons_succ, List.getElem?_cons_zero, getV_some, sbd_ok, a_meth, a_fld, bnd_ok, ins_map, fld_other, meth_place, a_cons, a_nil, List.append_nil, List.length_cons, List.length_nil, Nat.reduceAdd, if_true, hp, noX_ok]
        rw [aug_eq hj (x := sg φ f * x) (by
          simp only [a_bin, a_var, List.getElem?_cons_succ, List.getElem?_cons_zero, getV_some, bnd_ok, o_mul_l (show (sg φ f).natAbs < 18446744073709551616 from sgn_abs _), lift_some])]
        show _ = SR.nx _ [o, .fl ((fstep E2 φ v0 (f, x)).map VV.int)]
        unfold fstep
        rw [if_pos c]
      · have eled : ledV (f.map φ) = .tup [.int 0, .tup []] := by unfold ledV; rw [if_neg c]
        rw [eled] at hle
        refine ⟨_, _, _, pat_pair, ?_, ⟨some (tupI f), some (.int x), some (.int 0), some (.tup []), rfl⟩, rfl⟩
        simp only [s_seq, s_asg, a_meth, a_var, List.set_cons_zero, List.set_cons_succ, List.getElem?_cons_succ, List.getElem?_cons_zero, getV_some, bnd_ok, ins_map, mth_led, a_cons, a_nil, List.append_nil, List.length_cons, List.length_nil, Nat.reduceAdd, if_true, hle, noX_ok, sbd_ok, pat_pair, onx_some, thn_nx, s_if, a_val, a_bin, a_c, o_neI, lift_some, toB_bl, decide_true, Bool.not_true, Bool.false_eq_true, if_false, s_skip]
        show _ = SR.nx _ [o, .fl ((fstep E2 φ v0 (f, x)).map VV.int)]
        unfold fstep
        rw [if_neg c])
  rw [e2]
  walk_at "ev"
  have hb : (forthF E1 E2 φ s row).length ≤ 16777216 := by rw [forthF_len]; omega
  have er := rested_eq (l := forthF E1 E2 φ s row) (r := r) (h := [o, .fzn (.lst ((forthF E1 E2 φ s row).map VV.int))]) hb
  unfold forthF at er ⊢
  simp only [er]
  walk_at "ev"
  rw [fin_o rfl ho]
end
/-! maps and borders: the points' order -/
/-! ranks -/
def cl (L t : List Int) : Int := if L.Nodup ∧ isort L = t then sgn (turnsL L) else 0
/-! rows led forth and back, by coefficients -/
def ck (φ : Int → Int) (f t : List Int) : Int := cl (f.map φ) t
section
variable {E1 E2 : List (List Int)} {φ : Int → Int}
theorem getD_ffold {k : Nat} : ∀ {l : List (List Int × Int)} {v : List Int}, k < v.length → (l.foldl (fstep E2 φ) v).getD k 0 = v.getD k 0 + (l.map fun q => if (q.1.map φ).Nodup ∧ plc E2 (tg' φ q.1) = k then sg φ q.1 * q.2 else 0).sum
  | [], v, _ => by simp
  | q :: l, v, hk => by
    have hk' : k < (fstep E2 φ v q).length := by
      unfold fstep
      split
      · rw [addAt_len]; exact hk
      · exact hk
    rw [List.foldl_cons, getD_ffold (l := l) hk', List.map_cons, List.sum_cons]
    unfold fstep
    by_cases c : (q.1.map φ).Nodup
    · rw [if_pos c, getD_addAt hk]
      simp only [c, true_and]
      omega
    · rw [if_neg c, if_neg (fun z => c z.1)]; omega
theorem forth_by (M : MapOk E1 E2 φ) {s : Int} {row : List Int} : forthF E1 E2 φ s row = (szI E2 s).map fun t => (((szI E1 s).zip row).map fun q => ck φ q.1 t * q.2).sum := by
  refine list_ext (by rw [forthF_len, List.length_map]) fun k hk => ?_
  rw [forthF_len] at hk
  rw [getD_map hk]
  unfold forthF
  rw [getD_ffold (by rw [List.length_replicate]; exact hk)]
  have e0 : (List.replicate (szI E2 s).length (0 : Int)).getD k 0 = 0 := by
    rw [List.getD_eq_getElem?_getD, List.getElem?_replicate]; split <;> rfl
  rw [e0, Int.zero_add]
  refine sum_congr fun q hq => ?_
  have hf : q.1 ∈ szI E1 s := (List.of_mem_zip hq).1
  unfold ck cl
  by_cases c : (q.1.map φ).Nodup
  · obtain ⟨m1, m2⟩ := tg_szI M hf c
    have hk' : (sz E2 (tg' φ q.1).length)[k]? = some (szI E2 s)[k] := by rw [← m2, List.getElem?_eq_getElem hk]
    have := plc_iff M.w2 (tg_in M (szI_face hf).1 c).1 hk'
    simp only [c, true_and]
    by_cases e : plc E2 (tg' φ q.1) = k
    · rw [if_pos e, if_pos (show isort (q.1.map φ) = (szI E2 s)[k] from this.mp e)]; rfl
    · rw [if_neg e, if_neg (fun z => e (this.mpr (show tg' φ q.1 = (szI E2 s)[k] from z))), Int.zero_mul]
  · rw [if_neg (fun z => c z.1), if_neg (fun z => c z.1), Int.zero_mul]
end
/-! the law's own leading -/
def idxR (ov : VV) (r : Res VV) (h1 : VH) : Res VV := match ov with
  | .lst xs => r.bind fun v h2 => lift (idxT h2 (.lst xs) v) h2
  | _ => .no
theorem a_idx {fo fe : EF} {ρ : VSt} {h : VH} : eIdx fo fe ρ h = bnd (fo ρ h) (fun ov h1 => idxR ov (fe ρ h1) h1) (tg _) := nr rfl
theorem idxR_lst {xs : List VV} {v : VV} {h1 h2 : VH} : idxR (.lst xs) (.ok v h2) h1 = lift (idxT h2 (.lst xs) v) h2 := nr rfl
theorem idx_plc {E : List (List Int)} {s : Int} {t : List Int} {h : VH} (ht : t ∈ szI E s) (e : szI E s = sz E t.length) : idxT h (.lst ((szI E s).map tupI)) (tupI t) = some (.int (plc E t : Int)) := by
  show ((tupsOf ((szI E s).map tupI)).bind fun ks => (intsV (tupI t)).bind fun k => (ks.findIdx? fun z => decide (z = k)).map fun (j : Nat) => VV.int (j : Int)) = _
  rw [tupsOf_map, intsV_tupI, Option.bind_some, Option.bind_some]
  have : (szI E s).findIdx? (fun z => decide (z = t)) = some (plc E t) := by
    rw [List.findIdx?_eq_some_iff_findIdx_eq]
    rw [e] at ht ⊢
    exact ⟨plc_lt (mem_sz.mp ht).1, rfl⟩
  rw [this]; rfl
/-! the map that leaves all -/
theorem turns_inc : ∀ {f : List Int}, Inc f → turnsL f = 0
  | [], _ => rfl
  | x :: f, h => by
    have hc := List.pairwise_cons.mp h
    rw [turnsL, turns_inc hc.2]
    have : f.filter (fun y => decide (y < x)) = [] := List.filter_eq_nil_iff.mpr fun y hy => by
      have := hc.1 y hy
      simp; omega
    rw [this]; rfl
theorem ck_id {E : List (List Int)} (w : WebF E) {f t : List Int} (hf : f ∈ E) : ck (fun p => p) f t = if f = t then 1 else 0 := by
  have hF := w.face f hf
  unfold ck cl
  rw [show f.map (fun p : Int => p) = f from List.map_id f, hF.srt, turns_inc hF.inc]
  simp only [hF.inc.nodup, true_and]
  rfl
/-! tables -/
theorem sides_nodup {f : List Int} (hf : Inc f) : ((sidesL f).map (·.2)).Nodup := by
  unfold sidesL
  split
  · rw [List.map_map]
    show ((List.range f.length).map fun i => f.eraseIdx i).Nodup
    rw [List.nodup_iff_pairwise_ne, List.pairwise_map]
    refine List.Pairwise.imp_of_mem (fun {i j} hi hj hne e => ?_) (List.nodup_iff_pairwise_ne.mp List.nodup_range)
    rw [List.mem_range] at hi hj
    have key : ∀ {i j : Nat}, i < f.length → j < f.length → i < j → f.eraseIdx i = f.eraseIdx j → False := by
      intro i j hi hj hij e
      have h1 : (f.eraseIdx i)[i]? = f[i + 1]? := by rw [List.getElem?_eraseIdx, if_neg (by omega)]
      have h2 : (f.eraseIdx j)[i]? = f[i]? := by rw [List.getElem?_eraseIdx, if_pos hij]
      rw [e, h2] at h1
      have := (List.getElem?_inj (i := i) (j := i + 1) hi hf.nodup).mp h1
      omega
    rcases Nat.lt_or_gt_of_ne hne with h | h
    · exact key hi hj h e
    · exact key hj hi h e.symm
  · exact List.nodup_nil
/-! a free face and the one above it: the plain law -/
structure FreeF (E : List (List Int)) (F A : List Int) : Prop where
  w : WebF E
  l : E.length < 63
  f : F ∈ E
  a : A ∈ E
  ne : A ≠ F
  sub : F.Sublist A
  only : ∀ g ∈ E, subB F g = true → g = F ∨ g = A
def cf (l : List (Int × List Int)) (t : List Int) : Int := (l.map fun p => if p.2 = t then p.1 else 0).sum
theorem co_cf (f t : List Int) : co f t = cf (sidesL f) t := rfl
theorem cf_sum {l : List (Int × List Int)} {T : List (List Int)} (h : List Int → Int) (nd : T.Nodup) (hs : ∀ p ∈ l, p.2 ∈ T) : (T.map fun t => cf l t * h t).sum = (l.map fun p => p.1 * h p.2).sum := by
  unfold cf
  simp only [sum_mul]
  rw [sum_swap (fun t (p : Int × List Int) => (if p.2 = t then p.1 else 0) * h t) T l]
  refine sum_congr fun p hp => ?_
  have := sum_pick (fun t => p.1 * h t) p.2 nd (hs p hp)
  rw [← this]
  refine sum_congr fun t _ => ?_
  by_cases e : p.2 = t
  · rw [if_pos e, if_pos e.symm]
  · rw [if_neg e, if_neg (Ne.symm e)]; omega
theorem cf_pick {p : Int × List Int} : ∀ {l : List (Int × List Int)}, (l.map (·.2)).Nodup → p ∈ l → cf l p.2 = p.1
  | [], _, h => by simp at h
  | q :: l, nd, h => by
    rw [List.map_cons, List.nodup_cons] at nd
    unfold cf
    rw [List.map_cons, List.sum_cons]
    rcases List.mem_cons.mp h with rfl | h
    · rw [if_pos rfl, sum_zero _ l (fun b hb => if_neg (fun (z : b.2 = p.2) => nd.1 (by rw [← z]; exact List.mem_map_of_mem hb)))]
      omega
    · have := cf_pick nd.2 h
      unfold cf at this
      rw [this, if_neg (fun z => nd.1 (by rw [z]; exact List.mem_map_of_mem h))]
      omega
theorem sub_erase {F A : List Int} (h : F.Sublist A) : F ≠ A → ∃ i, i < A.length ∧ F.Sublist (A.eraseIdx i) := by
  induction h with
  | slnil => intro n; exact absurd rfl n
  | @cons l1 l2 x h ih => intro _; exact ⟨0, by simp, h⟩
  | @cons_cons l1 l2 x h ih =>
    intro n
    obtain ⟨i, hi, hs⟩ := ih (fun e => n (by rw [e]))
    exact ⟨i + 1, by simpa using hi, by rw [List.eraseIdx_cons_succ]; exact hs.cons_cons x⟩
section
variable {E : List (List Int)} {F A : List Int}
theorem FreeF.idx (R : FreeF E F A) : ∃ i, i < A.length ∧ F = A.eraseIdx i := by
  obtain ⟨i, hi, hs⟩ := sub_erase R.sub (Ne.symm R.ne)
  have hp := (R.w.face F R.f).pos
  have hg : A.eraseIdx i ∈ E := R.w.down A R.a _ (List.eraseIdx_sublist _ _) (fun e => hp (by rw [e] at hs; exact List.sublist_nil.mp hs))
  have hb : subB F (A.eraseIdx i) = true := subB_iff.mpr fun x hx => hs.subset hx
  rcases R.only _ hg hb with e | e
  · exact ⟨i, hi, e.symm⟩
  · have := congrArg List.length e
    rw [List.length_eraseIdx_of_lt hi] at this
    omega
theorem FreeF.len (R : FreeF E F A) : A.length = F.length + 1 := by
  obtain ⟨i, hi, e⟩ := R.idx
  have := congrArg List.length e
  rw [List.length_eraseIdx_of_lt hi] at this
  omega
theorem FreeF.side (R : FreeF E F A) : ∃ i, (sgn i, F) ∈ sidesL A := by
  obtain ⟨i, hi, e⟩ := R.idx
  have hl := R.len
  have hp := List.length_pos_iff.mpr (R.w.face F R.f).pos
  refine ⟨i, ?_⟩
  unfold sidesL
  rw [if_pos (by omega), List.mem_map]
  exact ⟨i, List.mem_range.mpr hi, by rw [← e]⟩
theorem sgn_sq (i : Nat) : sgn i * sgn i = 1 := by
  unfold sgn
  rcases (by omega : ((i : Int) % 2) = 0 ∨ ((i : Int) % 2) = 1) with e | e <;> rw [e] <;> rfl
theorem FreeF.by_at (R : FreeF E F A) : ∃ i, (sgn i, F) ∈ sidesL A ∧ co A F = sgn i := by
  obtain ⟨i, hi⟩ := R.side
  exact ⟨i, hi, cf_pick (p := (sgn i, F)) (sides_nodup (R.w.face A R.a).inc) hi⟩
theorem FreeF.by_sq (R : FreeF E F A) : co A F * co A F = 1 := by
  obtain ⟨i, _, e⟩ := R.by_at
  rw [e, sgn_sq]
theorem FreeF.by_abs (R : FreeF E F A) : (co A F).natAbs ≤ 1 := by
  obtain ⟨i, h, e⟩ := R.by_at
  rw [e]
  exact side_one h
/-- what a face becomes -/
def restA (A F : List Int) : List (Int × List Int) := ((sidesL A).filter fun p => !decide (p.2 = F)).map fun p => (-(co A F) * p.1, p.2)
def prt (A F f : List Int) : List (Int × List Int) := if f = F then restA A F else if f = A then [] else [(1, f)]
def kf (A F f t : List Int) : Int := cf (prt A F f) t
theorem not_sub (R : FreeF E F A) {f : List Int} (hf : f ∈ E) : f ∈ fewer E F ↔ f ≠ F ∧ f ≠ A := by
  unfold fewer
  rw [List.mem_filter]
  constructor
  · rintro ⟨_, h⟩
    refine ⟨fun e => ?_, fun e => ?_⟩
    · rw [e, (subB_iff.mpr fun x hx => hx : subB F F = true)] at h; cases h
    · rw [e, (subB_iff.mpr fun x hx => R.sub.subset hx : subB F A = true)] at h; cases h
  · rintro ⟨h1, h2⟩
    refine ⟨hf, ?_⟩
    cases e : subB F f with
    | false => rfl
    | true => rcases R.only f hf e with z | z
              · exact absurd z h1
              · exact absurd z h2
theorem side_noA (R : FreeF E F A) {f : List Int} (hf : f ∈ E) {p : Int × List Int} (hp : p ∈ sidesL f) : p.2 ≠ A ∧ (f ≠ A → p.2 ≠ F) := by
  obtain ⟨m1, m2, _⟩ := side_mem R.w hf hp
  have hsub : p.2.Sublist f := by
    unfold sidesL at hp
    split at hp
    · obtain ⟨i, _, rfl⟩ := List.mem_map.mp hp
      exact List.eraseIdx_sublist _ _
    · simp at hp
  refine ⟨fun e => ?_, fun n e => ?_⟩
  · have hb : subB F f = true := subB_iff.mpr fun x hx => hsub.subset (by rw [e]; exact R.sub.subset hx)
    have hl := R.len
    rcases R.only f hf hb with z | z
    · rw [z, e] at m2; omega
    · rw [z, e] at m2; omega
  · have hb : subB F f = true := subB_iff.mpr fun x hx => hsub.subset (by rw [e]; exact hx)
    rcases R.only f hf hb with z | z
    · rw [z, e] at m2; omega
    · exact n z
theorem prt_mem (R : FreeF E F A) {s : Int} {f : List Int} (hf : f ∈ szI E s) {p : Int × List Int} (hp : p ∈ prt A F f) : p.2 ∈ szI (fewer E F) s ∧ szI (fewer E F) s = sz (fewer E F) p.2.length ∧ p.2 ∈ fewer E F ∧ p.1.natAbs ≤ 1 := by
  obtain ⟨fE, fl, f0, f3⟩ := szI_face hf
  have key : p.2 ∈ fewer E F ∧ p.2.length = f.length ∧ p.1.natAbs ≤ 1 := by
    unfold prt at hp
    split at hp
    · rename_i e
      unfold restA at hp
      obtain ⟨q, hq, rfl⟩ := List.mem_map.mp hp
      obtain ⟨h1, h2⟩ := List.mem_filter.mp hq
      obtain ⟨m1, m2, _⟩ := side_mem R.w R.a h1
      have n1 : q.2 ≠ F := by simpa using h2
      have n2 : q.2 ≠ A := (side_noA R R.a h1).1
      have hl := R.len
      refine ⟨(not_sub R m1).mpr ⟨n1, n2⟩, by subst e; show q.2.length = _; omega, ?_⟩
      have a1 := R.by_abs
      have a2 := side_one h1
      show (-(co A F) * q.1).natAbs ≤ 1
      rw [Int.natAbs_mul, Int.natAbs_neg]
      calc (co A F).natAbs * q.1.natAbs ≤ 1 * 1 := Nat.mul_le_mul a1 a2
        _ = 1 := rfl
    · split at hp
      · simp at hp
      · rename_i n1 n2
        rw [List.mem_singleton] at hp
        subst hp
        exact ⟨(not_sub R fE).mpr ⟨n1, n2⟩, rfl, Nat.le_refl 1⟩
  obtain ⟨k1, k2, k3⟩ := key
  have wD := webf_fewer R.w F
  have hl : 0 < p.2.length := List.length_pos_iff.mpr (wD.face p.2 k1).pos
  have e := szI_len (E := fewer E F) (f := p.2) (s := s) hl (wD.face p.2 k1).le (by omega)
  exact ⟨by rw [e]; exact mem_sz.mpr ⟨k1, rfl⟩, e, k1, k3⟩
/-- both ways from a face to a lesser one -/
theorem free_chain (R : FreeF E F A) {s : Int} {f : List Int} (hf : f ∈ szI E s) {t : List Int} (ht : t ∈ fewer E F) : ((szI (fewer E F) s).map fun u => kf A F f u * co u t).sum = ((szI E (s - 1)).map fun u => co f u * kf A F u t).sum := by
  obtain ⟨fE, fl, f0, f3⟩ := szI_face hf
  have wD := webf_fewer R.w F
  have htE : t ∈ E := (List.mem_filter.mp ht).1
  obtain ⟨tF, tA⟩ := (not_sub R htE).mp ht
  have kid : ∀ u, u ≠ F → u ≠ A → kf A F u t = if u = t then 1 else 0 := fun u h1 h2 => by
    unfold kf prt
    rw [if_neg h1, if_neg h2]
    unfold cf
    simp
  have kA : ∀ t, kf A F A t = 0 := fun t => by
    unfold kf prt
    rw [if_neg R.ne, if_pos rfl]
    rfl
  have hL : ((szI (fewer E F) s).map fun u => kf A F f u * co u t).sum = ((prt A F f).map fun p => p.1 * co p.2 t).sum := cf_sum (fun u => co u t) (szI_nodup wD s) fun p hp => (prt_mem R hf hp).1
  have hR : ((szI E (s - 1)).map fun u => co f u * kf A F u t).sum = ((sidesL f).map fun p => p.1 * kf A F p.2 t).sum := co_sum (fun u => kf A F u t) (szI_nodup R.w (s - 1)) fun p hp => (side_szI R.w hf hp).1
  rw [hL, hR]
  have plain : f ≠ A → ((sidesL f).map fun p => p.1 * kf A F p.2 t).sum = co f t := fun n => by
    rw [co_cf]
    unfold cf
    refine sum_congr fun p hp => ?_
    obtain ⟨h1, h2⟩ := side_noA R fE hp
    rw [kid p.2 (h2 n) h1]
    by_cases e : p.2 = t
    · rw [if_pos e, if_pos e]; omega
    · rw [if_neg e, if_neg e]; omega
  have part : ∀ g : List Int → Int, ((restA A F).map fun p => p.1 * g p.2).sum = -(co A F) * (((sidesL A).map fun p => p.1 * g p.2).sum - co A F * g F) := fun g => by
    unfold restA
    rw [List.map_map]
    have e1 : (((sidesL A).filter fun p => !decide (p.2 = F)).map ((fun p => p.1 * g p.2) ∘ fun p => (-(co A F) * p.1, p.2))).sum = -(co A F) * (((sidesL A).filter fun p => !decide (p.2 = F)).map fun p => p.1 * g p.2).sum := by
      rw [mul_sum]
      exact sum_congr fun p _ => by show -(co A F) * p.1 * g p.2 = _; rw [Int.mul_assoc]
    have e2 : ∀ l : List (Int × List Int), (l.map fun p => p.1 * g p.2).sum = ((l.filter fun p => !decide (p.2 = F)).map fun p => p.1 * g p.2).sum + cf l F * g F := by
      intro l
      induction l with
      | nil => simp [cf]
      | cons p l ih =>
        have hc : cf (p :: l) F = (if p.2 = F then p.1 else 0) + cf l F := rfl
        rw [List.map_cons, List.sum_cons, ih, hc, List.filter_cons]
        by_cases e : p.2 = F
        · simp only [e, decide_true, Bool.not_true, Bool.false_eq_true, if_false, if_true]
          rw [Int.add_mul]; omega
        · simp only [e, decide_false, Bool.not_false, if_true, if_false, List.map_cons, List.sum_cons]
          rw [Int.zero_add]; omega
    rw [e1, e2 (sidesL A), ← co_cf]
    congr 1
    omega
  by_cases cF : f = F
  · have n : f ≠ A := fun e => R.ne (e.symm.trans cF)
    rw [plain n]
    have e : prt A F f = restA A F := by unfold prt; rw [if_pos cF]
    rw [e, part (fun u => co u t), co_co A t (R.w.face A R.a).le, cF]
    have := R.by_sq
    rw [Int.zero_sub, Int.neg_mul_neg, ← Int.mul_assoc, this, Int.one_mul]
  · by_cases cA : f = A
    · have e : prt A F f = [] := by unfold prt; rw [if_neg cF, if_pos cA]
      rw [e, cA]
      have kF : kf A F F t = -(co A F) * co A t := by
        have e2 : prt A F F = restA A F := by unfold prt; rw [if_pos rfl]
        have := part (fun u => if u = t then 1 else 0)
        rw [if_neg (Ne.symm tF)] at this
        unfold kf
        rw [e2]
        have c1 : cf (restA A F) t = ((restA A F).map fun p => p.1 * (if p.2 = t then 1 else 0)).sum := by
          unfold cf
          refine sum_congr fun p _ => ?_
          by_cases e : p.2 = t
          · rw [if_pos e, if_pos e]; omega
          · rw [if_neg e, if_neg e]; omega
        have c2 : co A t = ((sidesL A).map fun p => p.1 * (if p.2 = t then 1 else 0)).sum := by
          rw [co_cf]
          unfold cf
          refine sum_congr fun p _ => ?_
          by_cases e : p.2 = t
          · rw [if_pos e, if_pos e]; omega
          · rw [if_neg e, if_neg e]; omega
        rw [c1, this, ← c2, Int.mul_zero, Int.sub_zero]
      have split : ((sidesL A).map fun p => p.1 * kf A F p.2 t).sum = co A t + co A F * kf A F F t := by
        have e3 : ((sidesL A).map fun p => p.1 * kf A F p.2 t).sum = ((sidesL A).map fun p => (if p.2 = t then p.1 else 0) + (if p.2 = F then p.1 else 0) * kf A F F t).sum := by
          refine sum_congr fun p hp => ?_
          have h1 := (side_noA R R.a hp).1
          by_cases e : p.2 = F
          · rw [if_pos e, if_neg (fun z => tF (z.symm.trans e)), e]; omega
          · rw [kid p.2 e h1, if_neg e]
            by_cases e' : p.2 = t
            · rw [if_pos e', if_pos e']; omega
            · rw [if_neg e', if_neg e']; omega
        rw [e3, sum_add]
        have e4 : ((sidesL A).map fun p => (if p.2 = F then p.1 else 0) * kf A F F t).sum = co A F * kf A F F t := by
          rw [co_cf]; unfold cf; rw [sum_mul]
        rw [e4]; rfl
      rw [split, kF, ← Int.mul_assoc, Int.mul_neg, R.by_sq, List.map_nil, List.sum_nil]
      omega
    · have n : f ≠ A := cA
      rw [plain n]
      have e : prt A F f = [(1, f)] := by unfold prt; rw [if_neg cF, if_neg cA]
      rw [e]
      simp
end
section
variable {E : List (List Int)} {F A : List Int}
def stF (E : List (List Int)) (F A : List Int) (s : Int) (row : List Int) : List Int := ((szI E s).zip row).foldl (fun v q => (prt A F q.1).foldl (bstep (fewer E F) q.2) v) (List.replicate (szI (fewer E F) s).length 0)
def stE (E : List (List Int)) (F A : List Int) (row : List Int) (f : List Int) : Int := ((prt A F f).map fun p => p.1 * row.getD (plc (fewer E F) p.2) 0).sum
def stB (E : List (List Int)) (F A : List Int) (s : Int) (row : List Int) : List Int := (szI E s).map (stE E F A row)
theorem stf_len {D : List (List Int)} {l : List (List Int × Int)} {v : List Int} : (l.foldl (fun v q => (prt A F q.1).foldl (bstep D q.2) v) v).length = v.length := by
  induction l generalizing v with
  | nil => rfl
  | cons p l ih => rw [List.foldl_cons, ih, fold_len]
theorem stF_len {s : Int} {row : List Int} : (stF E F A s row).length = (szI (fewer E F) s).length := by unfold stF; rw [stf_len, List.length_replicate]
theorem stB_len {s : Int} {row : List Int} : (stB E F A s row).length = (szI E s).length := by unfold stB; rw [List.length_map]
theorem getD_stf {D : List (List Int)} {k : Nat} : ∀ {l : List (List Int × Int)} {v : List Int}, k < v.length → (l.foldl (fun v p => (prt A F p.1).foldl (bstep D p.2) v) v).getD k 0 = v.getD k 0 + (l.map fun q => ((prt A F q.1).map fun p => if plc D p.2 = k then p.1 * q.2 else 0).sum).sum
  | [], v, _ => by simp
  | q :: l, v, hk => by
    rw [List.foldl_cons, getD_stf (l := l) (by rw [fold_len]; exact hk), getD_fold hk, List.map_cons, List.sum_cons]; omega
theorem stF_by (R : FreeF E F A) {s : Int} {row : List Int} : stF E F A s row = (szI (fewer E F) s).map fun t => (((szI E s).zip row).map fun q => kf A F q.1 t * q.2).sum := by
  have wD := webf_fewer R.w F
  refine list_ext (by rw [stF_len, List.length_map]) fun k hk => ?_
  rw [stF_len] at hk
  rw [getD_map hk]
  unfold stF
  rw [getD_stf (by rw [List.length_replicate]; exact hk)]
  have e0 : (List.replicate (szI (fewer E F) s).length (0 : Int)).getD k 0 = 0 := by
    rw [List.getD_eq_getElem?_getD, List.getElem?_replicate]; split <;> rfl
  rw [e0, Int.zero_add]
  refine sum_congr fun q hq => ?_
  have hf : q.1 ∈ szI E s := (List.of_mem_zip hq).1
  unfold kf cf
  rw [sum_mul]
  refine sum_congr fun p hp => ?_
  obtain ⟨h1, h2, h3, _⟩ := prt_mem R hf hp
  have hk' : (sz (fewer E F) p.2.length)[k]? = some (szI (fewer E F) s)[k] := by rw [← h2, List.getElem?_eq_getElem hk]
  have := plc_iff wD h3 hk'
  by_cases e : plc (fewer E F) p.2 = k
  · rw [if_pos e, if_pos (this.mp e)]
  · rw [if_neg e, if_neg (fun z => e (this.mpr z))]; omega
theorem stB_by (R : FreeF E F A) {s : Int} {row : List Int} (hl : row.length = (szI (fewer E F) s).length) : stB E F A s row = (szI E s).map fun f => (((szI (fewer E F) s).zip row).map fun q => kf A F f q.1 * q.2).sum := by
  have wD := webf_fewer R.w F
  unfold stB
  refine List.map_congr_left fun g hg => ?_
  unfold stE kf cf
  simp only [sum_mul]
  rw [sum_swap (fun (q : List Int × Int) (p : Int × List Int) => (if p.2 = q.1 then p.1 else 0) * q.2)]
  refine sum_congr fun p hp => ?_
  obtain ⟨h1, h2, h3, _⟩ := prt_mem R hg hp
  have hat : (szI (fewer E F) s)[plc (fewer E F) p.2]? = some p.2 := by rw [h2]; exact plc_at h3
  have := sum_zip_pick (szI_nodup wD s) hl hat
  rw [← this, mul_sum]
  refine sum_congr fun q _ => ?_
  by_cases e : q.1 = p.2
  · rw [if_pos e, if_pos e.symm]
  · rw [if_neg e, if_neg (Ne.symm e)]; omega
theorem st_adjoint (R : FreeF E F A) {s : Int} {row cut : List Int} (hl : cut.length = (szI (fewer E F) s).length) : dot (stB E F A s cut) row = dot cut (stF E F A s row) := by
  rw [stB_by R hl, stF_by R, dot_comm cut, dot_map, dot_map]
  simp only [sum_mul]
  rw [sum_swap (fun (g : List Int × Int) (q : List Int × Int) => kf A F g.1 q.1 * q.2 * g.2)]
  refine sum_congr fun q _ => sum_congr fun g _ => ?_
  rw [Int.mul_assoc, Int.mul_comm q.2, ← Int.mul_assoc]
theorem st_border (R : FreeF E F A) {s : Int} {row : List Int} : borderF (fewer E F) s (stF E F A s row) = stF E F A (s - 1) (borderF E s row) := by
  have wD := webf_fewer R.w F
  rw [border_by wD, stF_by R, stF_by R (s := s - 1), border_by R.w]
  refine List.map_congr_left fun t ht => ?_
  rw [zip_map_self, zip_map_self, List.map_map, List.map_map]
  show ((szI (fewer E F) s).map fun u => co u t * (((szI E s).zip row).map fun q => kf A F q.1 u * q.2).sum).sum = ((szI E (s - 1)).map fun g => kf A F g t * (((szI E s).zip row).map fun q => co q.1 g * q.2).sum).sum
  simp only [mul_sum]
  rw [sum_swap (fun u (q : List Int × Int) => co u t * (kf A F q.1 u * q.2)), sum_swap (fun g (q : List Int × Int) => kf A F g t * (co q.1 g * q.2))]
  refine sum_congr fun q hq => ?_
  have hf : q.1 ∈ szI E s := (List.of_mem_zip hq).1
  have c := free_chain R hf (szI_face ht).1
  have e1 : ((szI (fewer E F) s).map fun u => co u t * (kf A F q.1 u * q.2)).sum = ((szI (fewer E F) s).map fun u => kf A F q.1 u * co u t).sum * q.2 := by
    rw [sum_mul]
    exact sum_congr fun u _ => by rw [← Int.mul_assoc, Int.mul_comm (co u t)]
  have e2 : ((szI E (s - 1)).map fun g => kf A F g t * (co q.1 g * q.2)).sum = ((szI E (s - 1)).map fun g => co q.1 g * kf A F g t).sum * q.2 := by
    rw [sum_mul]
    exact sum_congr fun u _ => by rw [← Int.mul_assoc, Int.mul_comm (kf A F u t)]
  rw [e1, e2, c]
theorem st_rise (R : FreeF E F A) {s : Int} {cut : List Int} (hl : cut.length = (szI (fewer E F) s).length) : riseF E s (stB E F A s cut) = stB E F A (s + 1) (riseF (fewer E F) s cut) := by
  have wD := webf_fewer R.w F
  rw [rise_by R.w (by rw [stB_len]), stB_by R hl, stB_by R (s := s + 1) (by rw [riseF_len]), rise_by wD hl]
  refine List.map_congr_left fun f hf => ?_
  rw [zip_map_self, zip_map_self, List.map_map, List.map_map]
  show ((szI E s).map fun g => co f g * (((szI (fewer E F) s).zip cut).map fun q => kf A F g q.1 * q.2).sum).sum = ((szI (fewer E F) (s + 1)).map fun u => kf A F f u * (((szI (fewer E F) s).zip cut).map fun q => co u q.1 * q.2).sum).sum
  simp only [mul_sum]
  rw [sum_swap (fun g (q : List Int × Int) => co f g * (kf A F g q.1 * q.2)), sum_swap (fun u (q : List Int × Int) => kf A F f u * (co u q.1 * q.2))]
  refine sum_congr fun q hq => ?_
  have c := free_chain R (s := s + 1) hf (szI_face (List.of_mem_zip hq).1).1
  rw [show s + 1 - 1 = s by omega] at c
  have e1 : ((szI E s).map fun g => co f g * (kf A F g q.1 * q.2)).sum = ((szI E s).map fun g => co f g * kf A F g q.1).sum * q.2 := by
    rw [sum_mul]
    exact sum_congr fun u _ => by rw [Int.mul_assoc]
  have e2 : ((szI (fewer E F) (s + 1)).map fun u => kf A F f u * (co u q.1 * q.2)).sum = ((szI (fewer E F) (s + 1)).map fun u => kf A F f u * co u q.1).sum * q.2 := by
    rw [sum_mul]
    exact sum_congr fun u _ => by rw [Int.mul_assoc]
  rw [e1, e2, c]
theorem kf_abs (R : FreeF E F A) {s : Int} {f t : List Int} (hf : f ∈ szI E s) : (kf A F f t).natAbs ≤ 4 := by
  have h := sum_abs (l := prt A F f) (f := fun p => if p.2 = t then p.1 else 0) (B := 1) fun p hp => by
    split
    · exact (prt_mem R hf hp).2.2.2
    · simp
  have hl : (prt A F f).length ≤ 4 := by
    unfold prt
    split
    · unfold restA
      rw [List.length_map]
      exact Nat.le_trans (List.length_filter_le _ _) (sides_len (R.w.face A R.a).le)
    · split <;> simp
  unfold kf cf
  omega
theorem stF_abs (R : FreeF E F A) {s : Int} {row : List Int} {B : Nat} (hr : ∀ i ∈ row, i.natAbs < B) : ∀ i ∈ stF E F A s row, i.natAbs ≤ 480 * B := by
  intro i hi
  rw [stF_by R] at hi
  obtain ⟨t, _, rfl⟩ := List.mem_map.mp hi
  exact comb_abs (g := fun f => kf A F f t) (fun f hf => kf_abs R hf) (szI_le s (by have := R.l; omega)) hr
theorem few_le (E : List (List Int)) (F : List Int) : (fewer E F).length ≤ E.length := List.length_filter_le _ _
theorem stB_abs (R : FreeF E F A) {s : Int} {row : List Int} {B : Nat} (hl : row.length = (szI (fewer E F) s).length) (hr : ∀ i ∈ row, i.natAbs < B) : ∀ i ∈ stB E F A s row, i.natAbs ≤ 480 * B := by
  intro i hi
  rw [stB_by R hl] at hi
  obtain ⟨f, hf, rfl⟩ := List.mem_map.mp hi
  exact comb_abs (g := fun t => kf A F f t) (fun t _ => kf_abs R hf) (szI_le s (by have := R.l; have := few_le E F; omega)) hr
theorem home_ok (R : FreeF E F A) : MapOk (fewer E F) E (fun p => p) where
  w1 := webf_fewer R.w F
  w2 := R.w
  l1 := by have := R.l; have := few_le E F; omega
  l2 := R.l
  im := fun f hf => by
    have hE : f ∈ E := (List.mem_filter.mp hf).1
    unfold img
    rw [show f.map (fun p : Int => p) = f from List.map_id f, srtI_nd (R.w.face f hE).inc.nodup, (R.w.face f hE).srt]
    exact hE
theorem home_step (R : FreeF E F A) {s : Int} {cut : List Int} (hl : cut.length = (szI (fewer E F) s).length) : stF E F A s (forthF (fewer E F) E (fun p => p) s cut) = cut := by
  have wD := webf_fewer R.w F
  rw [stF_by R, forth_by (home_ok R)]
  refine list_ext (by rw [List.length_map, hl]) fun k hk => ?_
  rw [List.length_map] at hk
  rw [getD_map hk, ← sum_zip_pick (szI_nodup wD s) hl (List.getElem?_eq_getElem hk), zip_map_self, List.map_map]
  show ((szI E s).map fun f => kf A F f (szI (fewer E F) s)[k] * (((szI (fewer E F) s).zip cut).map fun q => ck (fun p => p) q.1 f * q.2).sum).sum = _
  simp only [mul_sum]
  rw [sum_swap (fun f (q : List Int × Int) => kf A F f (szI (fewer E F) s)[k] * (ck (fun p => p) q.1 f * q.2))]
  refine sum_congr fun q hq => ?_
  have hq1 := szI_face (List.of_mem_zip hq).1
  have hqE : q.1 ∈ E := (List.mem_filter.mp hq1.1).1
  have hqs : q.1 ∈ szI E s := (szI_mem hq1.2.2.1 hq1.2.2.2).mpr ⟨hqE, hq1.2.1⟩
  obtain ⟨n1, n2⟩ := (not_sub R hqE).mp hq1.1
  have e1 : ((szI E s).map fun f => kf A F f (szI (fewer E F) s)[k] * (ck (fun p => p) q.1 f * q.2)).sum = kf A F q.1 (szI (fewer E F) s)[k] * q.2 := by
    rw [← sum_pick (fun f => kf A F f (szI (fewer E F) s)[k] * q.2) q.1 (szI_nodup R.w s) hqs]
    refine sum_congr fun f _ => ?_
    rw [ck_id R.w hqE]
    by_cases e : f = q.1
    · rw [if_pos e, if_pos e.symm, Int.one_mul]
    · rw [if_neg e, if_neg (Ne.symm e), Int.zero_mul, Int.mul_zero]
  rw [e1]
  unfold kf prt
  rw [if_neg n1, if_neg n2]
  unfold cf
  by_cases e : q.1 = (szI (fewer E F) s)[k]
  · rw [if_pos e]; simp [e]
  · rw [if_neg e]; simp [e]
end
theorem sg1 {o o1 o2 : VO} {v : VV} : setFO (some (.ins "Map" [] [])) 3 [o, o1, o2, .ins "Map" [] []] "Map" "one" v = some [o, o1, o2, .ins "Map" ["one"] [v]] := rfl
theorem sg2 {o o1 o2 : VO} {a v : VV} : setFO (some (.ins "Map" ["one"] [a])) 3 [o, o1, o2, .ins "Map" ["one"] [a]] "Map" "other" v = some [o, o1, o2, .ins "Map" ["one", "other"] [a, v]] := rfl
theorem sg3 {o o1 o2 : VO} {a b v : VV} : setFO (some (.ins "Map" ["one", "other"] [a, b])) 3 [o, o1, o2, .ins "Map" ["one", "other"] [a, b]] "Map" "lead" v = some [o, o1, o2, .ins "Map" ["one", "other", "lead"] [a, b, v]] := rfl
section
variable {E1 E2 : List (List Int)} {Q : List Int} {φ : Int → Int} {h : VH}
theorem map_init3 {o o1 o2 : VO} (M : MapOk E1 E2 φ) (hQ : Q.Perm (pnts E1)) :
    F_Map_init [.obj 3, webV E1, webV E2, .lst (Q.map (prV φ))] [o, o1, o2, .ins "Map" [] []] = .ok .non [o, o1, o2, mapO E1 E2 Q φ] := by
  have hEl := M.l1
  have hpl : (pnts E1).length ≤ 100 := by unfold pnts; rw [List.length_map]; exact Nat.le_trans (sz_le E1 1) (by omega)
  have hQl : Q.length ≤ 100 := by rw [hQ.length_eq]; exact hpl
  have hQn : Q.Nodup := hQ.nodup_iff.mpr (pnts_nodup M.w1.nd)
  have hmQ : ∀ f ∈ E1, ∀ p ∈ f, p ∈ Q := fun f hf p hp => hQ.mem_iff.mpr (pnts_of M.w1 hf hp)
  unfold F_Map_init B_Map_init
  walk_at "ev"
  simp only [sg1]
  walk_at "ev"
  simp only [sg2]
  walk_at "ev"
  rw [if_neg (by rw [List.length_map]; show ¬ Q.length > 16777216; omega)]
  simp only [wp, List.set_cons_zero, List.set_cons_succ]
  have dcp := dc_pairs (φ := φ) (h := [o, o1, o2, .ins "Map" ["one", "other"] [webV E1, webV E2]]) (x0 := some (.obj 3)) (x1 := some (webV E1)) (x2 := some (webV E2)) (x3 := some (.lst (Q.map (prV φ)))) (x4 := none) (x5 := none) (x6 := none) (x7 := none) (x8 := none) Q [] hQn
  simp only [List.map_nil, List.nil_append] at dcp
  rw [dcp, afterK_ok]
  walk_at "ev"
  simp only [sg3]
  walk_at "ev"
  simp only [meth_faces]
  walk_at "ev"
  simp only [faces_eq, szI0]
  walk_at "ev"
  rw [if_neg (by rw [List.length_map]; show ¬ (pnts E1).length > 16777216; omega)]
  simp only [wp, List.set_cons_zero, List.set_cons_succ]
  rw [lc_map (b := bNm 7) (t := tTrue) (e := le_Map_init_1) (fun p => tupI [p]) VV.int (ys := pnts E1) (fun p _ => ⟨_, rfl, rfl, rfl, rfl⟩), afterL_ok]
  walk_at "ev"
  simp only [len_lst, List.length_map]
  walk_at "ev"
  have fl : ∀ h : VH, fldR "Map" "lead" (some ("Map", ["one", "other", "lead"], [webV E1, webV E2, .dK (Q.map Sum.inl) (Q.map fun p => VV.int (φ p))])) h = .ok (ldV Q φ) h := fun _ => rfl
  simp only [fl]
  walk_at "ev"
  simp only [len_ld]
  walk_at "ev"
  simp only [fl]
  walk_at "ev"
  simp only [list_ld]
  walk_at "ev"
  simp only [sorted_lst, isort_eq (inc_pnts M.w1).le hQ.symm]
  walk_at "ev"
  simp only [ne_ints]
  walk_at "ev"
  rw [if_neg (by rw [List.length_map]; show ¬ (pnts E1).length > 16777216; omega)]
  simp only [wp, List.set_cons_zero, List.set_cons_succ]
  rw [lc_map (b := bNm 9) (t := tTrue) (e := le_Map_init_2) VV.int (fun _ => VV.bl true) (ys := pnts E1) (fun p hp => ⟨_, rfl, rfl, by
    walk_at "ev"
    simp only [meth_has]
    walk_at "ev"
    simp only [fl]
    walk_at "ev"
    simp only [kget_ld (P := Q) (φ := φ) (p := p) (hQ.mem_iff.mpr hp)]
    walk_at "ev"
    simp only [List.any_cons, List.any_nil, VV.isObj, Bool.or_false, Bool.false_eq_true, false_or]
    rw [if_neg (by decide)]
    walk_at "ev"
    have hh := has_eq (E := E2) (h := [o, o1, o2, .ins "Map" ["one", "other", "lead"] [webV E1, webV E2, .dK (Q.map Sum.inl) (Q.map fun p => VV.int (φ p))]]) M.w2.face (f := [φ p])
    have hm : isort [φ p] ∈ E2 := by
      rw [isort_id (by simp), ← img1]
      exact M.im _ (mem_pnts.mp hp)
    rw [decide_eq_true hm] at hh
    simp only [show VV.tup [VV.int (φ p)] = tupI [φ p] from rfl, hh]
    walk_at "ev", rfl⟩), afterL_ok]
  walk_at "ev"
  have eall : ∀ h : VH, cAll h [.lst ((pnts E1).map fun _ => VV.bl true)] = some (.bl true) := fun h => by
    have := all_bls (h := h) (l := (pnts E1).map fun _ => true)
    rw [List.map_map] at this
    rw [show ((pnts E1).map fun _ => VV.bl true) = (pnts E1).map (VV.bl ∘ fun _ => true) from rfl, this]
    simp
  simp only [eall]
  walk_at "ev"
  rw [if_pos (by decide)]
  walk_at "ev"
  simp only [wp, List.set_cons_zero, List.set_cons_succ]
  have e4 : rngV 0 (Int.toNat (3 + 1)) = ([0, 1, 2, 3] : List Int).map VV.int := rfl
  rw [e4, every_eq (E := E1) rfl rfl (by omega), afterL_ok]
  walk_at "ev"
  rw [enum_map]
  obtain ⟨ρ2, h2, e2, ⟨o6, o7, rfl⟩, rfl⟩ := for_pre (b := bTup 2 (bCons (bNm 6) (bCons (bNm 7) bNil))) (body := lb_Map_init_1) (fun p : List Int × Nat => VV.tup [.int (p.2 : Int), tupI p.1])
    (fun pre ρ h => (∃ o6 o7, ρ = [some (.obj 3), some (webV E1), some (webV E2), some (.lst (Q.map (prV φ))), some (.lst ((pnts E1).map VV.int)), some (.lst ((everyL E1).map tupI)), o6, o7, none, none, none]) ∧ h = [o, o1, o2, mapO E1 E2 Q φ])
    ((everyL E1).zipIdx 0) (ρ := [some (.obj 3), some (webV E1), some (webV E2), some (.lst (Q.map (prV φ))), some (.lst ((pnts E1).map VV.int)), some (.lst ((everyL E1).map tupI)), none, none, none, none, none]) (h := [o, o1, o2, mapO E1 E2 Q φ]) ⟨⟨none, none, rfl⟩, rfl⟩ (by
      rintro pre ⟨f, i⟩ post ey ρ h ⟨⟨o6, o7, rfl⟩, rfl⟩
      have hf : f ∈ E1 := mem_every (List.fst_mem_of_mem_zipIdx (show (f, i) ∈ (everyL E1).zipIdx 0 by rw [ey]; simp))
      refine ⟨_, _, _, pat_pair, ?_, ⟨some (.int (i : Int)), some (tupI f), rfl⟩, rfl⟩
      have ei : insOf [o, o1, o2, mapO E1 E2 Q φ] (.obj 3) = some (mapT E1 E2 Q φ) := rfl
      have him := image_eq (h := [o, o1, o2, mapO E1 E2 Q φ]) (self := .obj 3) (f := f) ei (hmQ f hf) (by have := (M.w1.face f hf).le; omega)
      have hh := has_eq (E := E2) (h := [o, o1, o2, mapO E1 E2 Q φ]) M.w2.face (f := img φ f)
      have hm : isort (img φ f) ∈ E2 := by
        rw [show isort (img φ f) = img φ f from isort_id (inc_srtI _).le]
        exact M.im f hf
      rw [decide_eq_true hm] at hh
      simp only [s_if, a_tnot, a_val, a_meth, a_var, List.set_cons_zero, List.set_cons_succ, List.getElem?_cons_zero, List.getElem?_cons_succ, getV_some, bnd_ok, meth_has, a_cons, ei, mth_image, a_nil, List.append_nil, List.length_cons, List.length_nil, Nat.reduceAdd, if_true, him, noX_ok, hh, toB_bl, Bool.not_true, sbd_ok, Bool.false_eq_true, if_false, s_skip])
  simp only [mapO, ldV] at e2
  rw [e2]
  exact fin_nx (n := 4) rfl
theorem map_make3 {o o1 o2 : VO} (ho : lowO 3 o = true) (ho1 : lowO 3 o1 = true) (ho2 : lowO 3 o2 = true) (M : MapOk E1 E2 φ) (hQ : Q.Perm (pnts E1)) : mkZ 3 (F_Map_init [.obj 3, webV E1, webV E2, .lst (Q.map (prV φ))] [o, o1, o2, .ins "Map" [] []]) = .ok (mapV E1 E2 Q φ) [o, o1, o2] := by
  rw [map_init3 M hQ]
  unfold mkZ
  simp only
  rw [if_pos ⟨by simp, by simp [ho, ho1, ho2]⟩]
  rfl
end
section
variable {E : List (List Int)} {F A : List Int} {h : VH}
theorem without_eq (w : WebF E) (hE : E.length ≤ 120) {f : List Int} (hf : isort f ∈ E) (hl : f.length ≤ 1000) {o : VO} (ho : lowO 1 o = true) : F_Web_without [webV E, tupI f] [o] = .ok (webV (fewer E f)) [o] := by
  have fl : (fewer E f).length ≤ E.length := List.length_filter_le _ _
  have ec : clo ((ordE E).filter fun g => !subB f g) = fewer E f := by
    rw [clo_perm ((ordE_perm w).filter _)]
    exact (webf_fewer w f).clo
  have hm := web_make (fs := (ordE E).filter fun g => !subB f g) ho (fun g hg => (w.face g ((mem_ordE w.face).mp (List.mem_filter.mp hg).1)).pts) (by
    have := List.length_filter_le (fun g => !subB f g) (ordE E)
    have := (ordE_perm w).length_eq
    omega) (by rw [parts_clo, ec]; omega)
  rw [ec] at hm
  unfold F_Web_without B_Web_without
  walk_at "ev"
  simp only [meth_has]
  walk_at "ev"
  simp only [has_eq w.face (f := f), decide_eq_true hf]
  walk_at "ev"
  simp only [fld_table]
  walk_at "ev"
  simp only [wp, List.set_cons_zero, List.set_cons_succ]
  rw [lc2_table (E := E) (i := 2) (j := 3) (p := fun g => !subB f g) (by omega) (by decide) (by simp) (by simp) (fun s g _ => by
    simp only [wp, List.set_cons_zero, List.set_cons_succ]
    walk_at "ev"
    simp only [within_eq hl]
    walk_at "ev"), afterL_ok]
  walk_at "ev"
  simp only [hm]
  walk_at "ev"
  rw [fin_o rfl ho]
theorem ne_tupI {l m : List Int} : opNe h (tupI l) (tupI m) = some (.bl (!decide (l = m))) := by
  have := eq_tupI (h := h) (l := l) (m := m)
  unfold opEq at this
  unfold opNe
  obtain ⟨b, e1, e2⟩ := Option.map_eq_some_iff.mp this
  rw [e1]
  cases e2
  rfl
theorem obj_tupI {f : List Int} : (tupI f).isObj = false := rfl
theorem obj_int {i : Int} : (VV.int i).isObj = false := rfl
theorem obj_tup {xs : List VV} : (VV.tup xs).isObj = false := rfl
def movV (A F : List Int) : VV := .dT [keyI F, keyI A] [.tup ((restA A F).map sideV), .tup []]
abbrev stepT (E : List (List Int)) (F A : List Int) : Str × List Str × List VV := ("Step", ["elder", "later", "home", "moved"], [webV E, webV (fewer E F), mapV (fewer E F) E (pnts (fewer E F)) (fun p => p), movV A F])
def stepV (E : List (List Int)) (F A : List Int) : VV := .ins "Step" ["elder", "later", "home", "moved"] [webV E, webV (fewer E F), mapV (fewer E F) E (pnts (fewer E F)) (fun p => p), movV A F]
theorem ins_step : insOf h (stepV E F A) = some (stepT E F A) := rfl
theorem fld_elder : fldR "Step" "elder" (some (stepT E F A)) h = .ok (webV E) h := rfl
theorem fld_later : fldR "Step" "later" (some (stepT E F A)) h = .ok (webV (fewer E F)) h := rfl
theorem fld_home : fldR "Step" "home" (some (stepT E F A)) h = .ok (mapV (fewer E F) E (pnts (fewer E F)) (fun p => p)) h := rfl
theorem fld_moved : fldR "Step" "moved" (some (stepT E F A)) h = .ok (movV A F) h := rfl
theorem mth_parts {r : Res VV} : methC "Step" "parts" (some (stepT E F A)) r = r := rfl
theorem mth_sforth {r : Res VV} : methC "Step" "forth" (some (stepT E F A)) r = r := rfl
theorem mth_sback {r : Res VV} : methC "Step" "back" (some (stepT E F A)) r = r := rfl
theorem in_mov {f : List Int} : opIn h (tupI f) (movV A F) = some (.bl (decide (f ∈ [F, A]))) := by
  have : opIn h (tupI f) (movV A F) = ((keyV (tupI f)).map fun k => hasK ([F, A].map keyI) k).map .bl := rfl
  rw [this, keyV_tupI]
  show some (VV.bl (hasK ([F, A].map keyI) (keyI f))) = _
  rw [hasK_map]
theorem at_mov (n : A ≠ F) {f : List Int} (hf : f ∈ [F, A]) : opDGet h (movV A F) (tupI f) = some (.tup ((prt A F f).map sideV)) := by
  have : opDGet h (movV A F) (tupI f) = (keyV (tupI f)).bind fun k => getD [keyI F, keyI A] [.tup ((restA A F).map sideV), .tup []] k := rfl
  rw [this, keyV_tupI]
  show getD [keyI F, keyI A] [.tup ((restA A F).map sideV), .tup []] (keyI f) = _
  unfold prt
  rcases List.mem_cons.mp hf with rfl | hf
  · rw [if_pos rfl]
    unfold getD
    rw [if_pos rfl]
  · rw [List.mem_singleton] at hf
    subst hf
    rw [if_neg n, if_pos rfl]
    unfold getD
    rw [if_neg (fun e => n (keyI_inj e).symm)]
    unfold getD
    rw [if_pos rfl]
    rfl
theorem parts_eq (R : FreeF E F A) {f : List Int} : F_Step_parts [stepV E F A, tupI f] h = .ok (.lst ((prt A F f).map sideV)) h := by
  unfold F_Step_parts B_Step_parts
  walk_at "ev"
  simp only [ins_step, fld_moved]
  walk_at "ev"
  simp only [in_mov]
  walk_at "ev"
  by_cases c : f ∈ [F, A]
  · rw [decide_eq_true c]
    walk_at "ev"
    simp only [ins_step, fld_moved]
    walk_at "ev"
    simp only [at_mov R.ne c]
    walk_at "ev"
    simp only [list_tup]
    walk_at "ev"
    rw [fin_ret rfl]
  · rw [decide_eq_false c]
    walk_at "ev"
    have e : prt A F f = [(1, f)] := by
      unfold prt
      rw [if_neg (fun e => c (by rw [e]; simp)), if_neg (fun e => c (by rw [e]; simp))]
    simp only [List.any_cons, List.any_nil, obj_tupI, obj_int, obj_tup, Bool.or_false, Bool.false_eq_true, false_or]
    rw [if_neg (by decide)]
    walk_at "ev"
    simp only [List.any_cons, List.any_nil, obj_tupI, obj_int, obj_tup, Bool.or_false, Bool.false_eq_true, false_or]
    rw [if_neg (by decide)]
    walk_at "ev"
    rw [fin_ret rfl, e]
    rfl
end
section
variable {E : List (List Int)} {F A : List Int} {h : VH}
theorem prt_small (R : FreeF E F A) {s : Int} {f : List Int} (hf : f ∈ szI E s) {p : Int × List Int} (hp : p ∈ prt A F f) : p.1.natAbs < 18446744073709551616 := by
  have := (prt_mem R hf hp).2.2.2
  omega
theorem prt_len (R : FreeF E F A) {f : List Int} : (prt A F f).length ≤ 4 := by
  unfold prt
  split
  · unfold restA
    rw [List.length_map]
    exact Nat.le_trans (List.length_filter_le _ _) (sides_len (R.w.face A R.a).le)
  · split <;> simp
theorem sforth_eq (R : FreeF E F A) {s r : Int} {row : List Int} {o : VO} (ho : lowO 1 o = true) (h0 : 0 ≤ s) (h1 : s ≤ 3) (hr : restOk r) (hl : row.length = (szI E s).length) :
    F_Step_forth [stepV E F A, .int s, .lst (row.map VV.int), .int r] [o] = .ok (.lst (((stF E F A s row).map (restI r)).map VV.int)) [o] := by
  have wD := webf_fewer R.w F
  have hlD : (fewer E F).length ≤ 120 := by have := R.l; have := few_le E F; omega
  have hsz : (szI (fewer E F) s).length ≤ 120 := szI_le s hlD
  obtain ⟨n, hn⟩ : ∃ n : Int, ((szI (fewer E F) s).length : Int) = n := ⟨_, rfl⟩
  unfold F_Step_forth B_Step_forth
  walk_at "ev"
  simp only [ins_step, fld_elder]
  walk_at "ev"
  simp only [look_row_eq h0 h1 hr hl]
  walk_at "ev"
  simp only [List.any_cons, List.any_nil, VV.isObj, Bool.or_false, Bool.false_eq_true, false_or]
  rw [if_neg (by decide)]
  simp only [bnd_ok, a_meth, a_fld, ins_step, fld_later, meth_many, a_cons, a_bin, a_var, a_c, a_nil, List.getElem?_cons_zero, List.getElem?_cons_succ, getV_some, lift_some, List.append_nil, List.length_cons, List.length_nil, Nat.reduceAdd, if_true, many_eq, noX_ok, hn]
  rw [rep0 hn (by omega)]
  walk_at "ev"
  simp only [ins_step, fld_elder]
  walk_at "ev"
  simp only [meth_faces]
  walk_at "ev"
  simp only [faces_eq]
  walk_at "ev"
  rw [prs_fr]
  obtain ⟨ρ2, h2, e2, ⟨o5, o6, o7, o8, rfl⟩, rfl⟩ := for_pre (b := bTup 2 (bCons (bNm 5) (bCons (bNm 6) bNil))) (body := lb_Step_forth_2) (fun p : List Int × Int => VV.tup [tupI p.1, .int p.2])
    (fun pre ρ h => (∃ o5 o6 o7 o8, ρ = [some (stepV E F A), some (.int s), some (.lst (row.map VV.int)), some (.int r), some (.obj 1), o5, o6, o7, o8]) ∧ h = [o, .fl ((pre.foldl (fun v p => (prt A F p.1).foldl (bstep (fewer E F) p.2) v) (List.replicate (szI (fewer E F) s).length 0)).map VV.int)])
    ((szI E s).zip row) (ρ := [some (stepV E F A), some (.int s), some (.lst (row.map VV.int)), some (.int r), some (.obj 1), none, none, none, none]) (h := [o, .fl ((List.replicate (szI (fewer E F) s).length (0 : Int)).map VV.int)]) ⟨⟨none, none, none, none, rfl⟩, rfl⟩ (by
      rintro pre ⟨f, x⟩ post ey ρ h ⟨⟨o5, o6, o7, o8, rfl⟩, rfl⟩
      have hfm : f ∈ szI E s := (List.of_mem_zip (show (f, x) ∈ (szI E s).zip row by rw [ey]; simp)).1
      have hv := stf_len (A := A) (F := F) (D := fewer E F) (l := pre) (v := List.replicate (szI (fewer E F) s).length 0)
      rw [List.length_replicate] at hv
      generalize ev0 : pre.foldl (fun v p => (prt A F p.1).foldl (bstep (fewer E F) p.2) v) (List.replicate (szI (fewer E F) s).length 0) = v0 at hv
      obtain ⟨ρ3, h3, e3, ⟨o7', o8', rfl⟩, rfl⟩ := for_pre (b := bTup 2 (bCons (bNm 7) (bCons (bNm 8) bNil))) (body := lb_Step_forth_1) sideV
        (fun q ρ h => (∃ o7 o8, ρ = [some (stepV E F A), some (.int s), some (.lst (row.map VV.int)), some (.int r), some (.obj 1), some (tupI f), some (.int x), o7, o8]) ∧ h = [o, .fl ((q.foldl (bstep (fewer E F) x) v0).map VV.int)])
        (prt A F f) (ρ := [some (stepV E F A), some (.int s), some (.lst (row.map VV.int)), some (.int r), some (.obj 1), some (tupI f), some (.int x), o7, o8]) (h := [o, .fl (v0.map VV.int)]) ⟨⟨o7, o8, rfl⟩, rfl⟩ (by
          rintro q ⟨by_, side⟩ q' eq ρ h ⟨⟨o7, o8, rfl⟩, rfl⟩
          have hp : (by_, side) ∈ prt A F f := by rw [eq]; simp
          obtain ⟨m0, m2, m1, _⟩ := prt_mem R hfm hp
          have m3 := prt_small R hfm hp
          have hj : plc (fewer E F) side < (q.foldl (bstep (fewer E F) x) v0).length := by
            rw [fold_len, hv, m2]
            exact plc_lt m1
          refine ⟨_, _, _, pat_pair, ?_, ⟨some (.int by_), some (tupI side), rfl⟩, rfl⟩
          simp only [s_augI, a_var, List.set_cons_zero, List.set_cons_succ, List.getElem?_cons_succ, List.getElem?_cons_zero, getV_some, sbd_ok, a_meth, a_fld, bnd_ok, ins_step, fld_later, meth_place, a_cons, a_nil, List.append_nil, List.length_cons, List.length_nil, Nat.reduceAdd, if_true, place_eq wD.face wD.nd (f := side) (by rw [isort_in wD m1]; exact m1), isort_in wD m1, noX_ok]
          rw [aug_eq hj (x := by_ * x) (by
            simp only [a_bin, a_var, List.getElem?_cons_succ, List.getElem?_cons_zero, getV_some, bnd_ok, o_mul_l m3, lift_some]), List.foldl_append]
          rfl)
      refine ⟨_, _, _, pat_pair, ?_, ⟨some (tupI f), some (.int x), o7', o8', rfl⟩, rfl⟩
      simp only [s_for, a_seq, a_meth, ins_step, mth_parts, noX_ok, a_cons, a_nil, a_var, List.set_cons_zero, List.set_cons_succ, List.getElem?_cons_succ, List.getElem?_cons_zero, getV_some, bnd_ok, List.append_nil, List.length_cons, List.length_nil, Nat.reduceAdd, if_true, parts_eq R (f := f), seqI_lst, sbd_ok]
      rw [List.foldl_append, ev0]
      exact e3)
  rw [e2]
  walk_at "ev"
  have hb : (stF E F A s row).length ≤ 16777216 := by rw [stF_len]; omega
  have er := rested_eq (l := stF E F A s row) (r := r) (h := [o, .fzn (.lst ((stF E F A s row).map VV.int))]) hb
  unfold stF at er ⊢
  simp only [er]
  walk_at "ev"
  rw [fin_o rfl ho]
theorem sback_eq (R : FreeF E F A) {s r : Int} {row : List Int} {o : VO} (ho : lowO 1 o = true) (h0 : 0 ≤ s) (h1 : s ≤ 3) (hr : restOk r) (hl : row.length = (szI (fewer E F) s).length) :
    F_Step_back [stepV E F A, .int s, .lst (row.map VV.int), .int r] [o] = .ok (.lst (((stB E F A s row).map (restI r)).map VV.int)) [o] := by
  have wD := webf_fewer R.w F
  have hsz : (szI E s).length ≤ 120 := szI_le s (by have := R.l; omega)
  unfold F_Step_back B_Step_back
  walk_at "ev"
  simp only [ins_step, fld_later]
  walk_at "ev"
  simp only [look_row_eq h0 h1 hr hl]
  walk_at "ev"
  simp only [List.any_nil, Bool.false_eq_true, false_or]
  rw [if_neg (by decide)]
  walk_at "ev"
  simp only [ins_step, fld_elder]
  walk_at "ev"
  simp only [meth_faces]
  walk_at "ev"
  simp only [faces_eq]
  walk_at "ev"
  obtain ⟨ρ2, h2, e2, ⟨o5, rfl⟩, rfl⟩ := for_pre (b := bNm 5) (body := lb_Step_back_1) tupI
    (fun pre ρ h => (∃ o5, ρ = [some (stepV E F A), some (.int s), some (.lst (row.map VV.int)), some (.int r), some (.obj 1), o5, none, none]) ∧ h = [o, .fl ((pre.map (stE E F A row)).map VV.int)])
    (szI E s) (ρ := [some (stepV E F A), some (.int s), some (.lst (row.map VV.int)), some (.int r), some (.obj 1), none, none, none]) (h := [o, .fl []]) ⟨⟨none, rfl⟩, rfl⟩ (by
      rintro pre g post ey ρ h ⟨⟨o5, rfl⟩, rfl⟩
      have gm : g ∈ szI E s := by rw [ey]; simp
      have hpl : pre.length ≤ 120 := by
        have := congrArg List.length ey
        rw [List.length_append] at this; omega
      have hsl := prt_len R (f := g)
      refine ⟨_, _, _, rfl, ?_, ⟨some (tupI g), rfl⟩, rfl⟩
      generalize eh : [o, VO.fl ((pre.map (stE E F A row)).map VV.int)] = hh
      have el : lcGo (bTup 2 (bCons (bNm 6) (bCons (bNm 7) bNil))) tTrue le_Step_back_1 [some (stepV E F A), some (.int s), some (.lst (row.map VV.int)), some (.int r), some (.obj 1), some (tupI g), none, none] ((prt A F g).map sideV) hh = .ok ((prt A F g).map fun p => VV.int (p.1 * row.getD (plc (fewer E F) p.2) 0)) hh := by
        refine lc_map sideV (fun p => VV.int (p.1 * row.getD (plc (fewer E F) p.2) 0)) fun p hp => ?_
        obtain ⟨m0, m2, m1, _⟩ := prt_mem R gm hp
        have m3 := prt_small R gm hp
        have hj : plc (fewer E F) p.2 < row.length := by
          rw [hl, m2]
          exact plc_lt m1
        have ex : opIx hh (.lst (row.map VV.int)) (.int (plc (fewer E F) p.2 : Int)) = some (.int (row.getD (plc (fewer E F) p.2) 0)) := by
          rw [x_lst]
          refine atI_in ?_
          rw [List.getElem?_map, List.getElem?_eq_getElem hj, List.getD_eq_getElem?_getD, List.getElem?_eq_getElem hj]; rfl
        refine ⟨_, pat_pair, rfl, ?_, rfl⟩
        simp only [a_bin, a_var, List.set_cons_zero, List.set_cons_succ, List.getElem?_cons_succ, List.getElem?_cons_zero, getV_some, bnd_ok, a_meth, a_fld, ins_step, fld_later, meth_place, a_cons, a_nil, List.append_nil, List.length_cons, List.length_nil, Nat.reduceAdd, if_true, place_eq wD.face wD.nd (f := p.2) (by rw [isort_in wD m1]; exact m1), isort_in wD m1, noX_ok, ex, lift_some, o_mul_l m3]
      simp only [s_expr, a_app, a_var, List.set_cons_zero, List.set_cons_succ, List.getElem?_cons_succ, List.getElem?_cons_zero, getV_some, bnd_ok, lstR_obj, ← eh, lstRO_fl, chkL_some]
      rw [eh]
      simp only [a_call, a_cons, a_nil, a_lc', a_seq, a_meth, ins_step, mth_parts, noX_ok, a_var, List.getElem?_cons_succ, List.getElem?_cons_zero, getV_some, bnd_ok, List.append_nil, List.length_cons, List.length_nil, Nat.reduceAdd, if_true, parts_eq R (f := g), seqI_lst, wp, List.set_cons_zero, List.set_cons_succ, List.length_map]
      rw [if_neg (show ¬ (prt A F g).length > 16777216 by omega), el, afterL_ok]
      have es : cSum hh [.lst ((prt A F g).map fun p => VV.int (p.1 * row.getD (plc (fewer E F) p.2) 0))] = some (.int (stE E F A row g)) := by
        have : ((prt A F g).map fun p => VV.int (p.1 * row.getD (plc (fewer E F) p.2) 0)) = ((prt A F g).map fun p => p.1 * row.getD (plc (fewer E F) p.2) 0).map VV.int := by rw [List.map_map]; rfl
        rw [this, sum_ints]; rfl
      simp only [bnd_ok, a_nil, a_cons, es, lift_some, appV_obj]
      rw [← eh]
      simp only [List.getElem?_cons_succ, List.getElem?_cons_zero]
      rw [appO_fl (by rw [List.length_map, List.length_map]; omega) rfl, sbd_ok, List.map_append, List.map_append]
      rfl)
  rw [e2]
  walk_at "ev"
  have hb : (stB E F A s row).length ≤ 16777216 := by
    rw [stB_len]; omega
  have er := rested_eq (l := stB E F A s row) (r := r) (h := [o, .fzn (.lst ((stB E F A s row).map VV.int))]) hb
  unfold stB at er ⊢
  simp only [er]
  walk_at "ev"
  rw [fin_o rfl ho]
end
section
variable {E : List (List Int)} {F A : List Int} {h : VH}
theorem sp1 {o o1 : VO} {v : VV} : setFO (some (.ins "Step" [] [])) 2 [o, o1, .ins "Step" [] []] "Step" "elder" v = some [o, o1, .ins "Step" ["elder"] [v]] := rfl
theorem sp2 {o o1 : VO} {a v : VV} : setFO (some (.ins "Step" ["elder"] [a])) 2 [o, o1, .ins "Step" ["elder"] [a]] "Step" "later" v = some [o, o1, .ins "Step" ["elder", "later"] [a, v]] := rfl
theorem sp3 {o o1 : VO} {a b v : VV} : setFO (some (.ins "Step" ["elder", "later"] [a, b])) 2 [o, o1, .ins "Step" ["elder", "later"] [a, b]] "Step" "home" v = some [o, o1, .ins "Step" ["elder", "later", "home"] [a, b, v]] := rfl
theorem sp4 {o o1 : VO} {a b c v : VV} : setFO (some (.ins "Step" ["elder", "later", "home"] [a, b, c])) 2 [o, o1, .ins "Step" ["elder", "later", "home"] [a, b, c]] "Step" "moved" v = some [o, o1, .ins "Step" ["elder", "later", "home", "moved"] [a, b, c, v]] := rfl
theorem step_make (R : FreeF E F A) {o o1 : VO} (ho : lowO 2 o = true) (ho1 : lowO 2 o1 = true) (ho3 : lowO 3 o = true) (ho13 : lowO 3 o1 = true) :
    mkZ 2 (F_Step_init [.obj 2, webV E, webV (fewer E F), .lst ((pnts (fewer E F)).map (prV fun p => p)), movV A F] [o, o1, .ins "Step" [] []]) = .ok (stepV E F A) [o, o1] := by
  have e : F_Step_init [.obj 2, webV E, webV (fewer E F), .lst ((pnts (fewer E F)).map (prV fun p => p)), movV A F] [o, o1, .ins "Step" [] []] = .ok .non [o, o1, .ins "Step" ["elder", "later", "home", "moved"] [webV E, webV (fewer E F), mapV (fewer E F) E (pnts (fewer E F)) (fun p => p), movV A F]] := by
    unfold F_Step_init B_Step_init
    walk_at "ev"
    simp only [sp1]
    walk_at "ev"
    simp only [sp2]
    walk_at "ev"
    simp only [map_make3 (E1 := fewer E F) (E2 := E) (Q := pnts (fewer E F)) (φ := fun p => p) (o := o) (o1 := o1) (o2 := .ins "Step" ["elder", "later"] [webV E, webV (fewer E F)]) ho3 ho13 rfl (home_ok R) (List.Perm.refl _)]
    walk_at "ev"
    simp only [sp3]
    walk_at "ev"
    simp only [sp4]
    walk_at "ev"
    exact fin_nx (n := 3) rfl
  rw [e]
  unfold mkZ
  simp only
  rw [if_pos ⟨by simp, by simp [ho, ho1]⟩]
  rfl
theorem above_eq (R : FreeF E F A) : (arnd E F).filter (fun g => !decide (g = F)) = [A] := by
  have nd : ((arnd E F).filter fun g => !decide (g = F)).Nodup := (R.w.nd.filter _).filter _
  have hA : A ∈ (arnd E F).filter fun g => !decide (g = F) := by
    refine List.mem_filter.mpr ⟨mem_arnd.mpr ⟨R.a, subB_iff.mpr fun x hx => R.sub.subset hx⟩, ?_⟩
    rw [decide_eq_false R.ne]; rfl
  have all : ∀ y ∈ (arnd E F).filter fun g => !decide (g = F), y = A := fun y hy => by
    obtain ⟨h1, h2⟩ := List.mem_filter.mp hy
    obtain ⟨h3, h4⟩ := mem_arnd.mp h1
    rcases R.only y h3 h4 with z | z
    · rw [z] at h2; simp at h2
    · exact z
  have l1 := len_one nd hA all
  generalize (arnd E F).filter (fun g => !decide (g = F)) = l at *
  match l, l1 with
  | [x], _ => rw [all x (by simp)]
theorem by_sum (A F : List Int) : (((sidesL A).filter fun p => decide (p.2 = F)).map fun p => p.1).sum = co A F := by
  rw [co_cf]
  unfold cf
  induction sidesL A with
  | nil => rfl
  | cons p l ih =>
    rw [List.map_cons, List.sum_cons, ← ih, List.filter_cons]
    by_cases e : p.2 = F
    · rw [if_pos (by simpa using e), if_pos e, List.map_cons, List.sum_cons]
    · rw [if_neg (by simpa using e), if_neg e, Int.zero_add]
theorem disp_mov {o : VO} (n : A ≠ F) : dispR 1 (tupI F) (.tup ((restA A F).map sideV)) (tupI A) (.tup []) [o, .dT [] []] = .ok (.obj 1) [o, .dT [keyI F, keyI A] [.tup ((restA A F).map sideV), .tup []]] := by
  have e1 : setD [o, .dT [] []] (.obj 1) (tupI F) (.tup ((restA A F).map sideV)) = some [o, .dT [keyI F] [.tup ((restA A F).map sideV)]] := by
    show ((keyV (tupI F)).bind fun k => if _ ∨ _ then none else some _) = _
    rw [keyV_tupI]
    rfl
  have e2 : setD [o, .dT [keyI F] [.tup ((restA A F).map sideV)]] (.obj 1) (tupI A) (.tup []) = some [o, .dT [keyI F, keyI A] [.tup ((restA A F).map sideV), .tup []]] := by
    show ((keyV (tupI A)).bind fun k => if _ ∨ _ then none else some ([o, VO.dT [keyI F] [.tup ((restA A F).map sideV)]].set 1 (.dT (putKs [keyI F] k) (putVs [keyI F] [.tup ((restA A F).map sideV)] k (.tup []))))) = _
    rw [keyV_tupI]
    have hk : hasK [keyI F] (keyI A) = false := by
      have := hasK_map [F] A
      rw [decide_eq_false (by simpa using n)] at this
      exact this
    have p1 : putKs [keyI F] (keyI A) = [keyI F, keyI A] := by unfold putKs; rw [hk]; rfl
    have p2 : putVs [keyI F] [VV.tup ((restA A F).map sideV)] (keyI A) (.tup []) = [.tup ((restA A F).map sideV), .tup []] := by unfold putVs; rw [hk]; rfl
    rw [Option.bind_some, if_neg (fun z => z.elim (fun z => nomatch (show false = true from z)) (fun z => absurd z (show ¬ (1 ≥ 16777216) by decide))), p1, p2]
    rfl
  unfold dispR
  rw [e1]
  simp only
  rw [e2]
theorem pairs0 (R : FreeF E F A) {ρ : VSt} (hρ : ρ.length = 12) : lcGo (bNm 9) tTrue le_lesser_2 ρ ((pnts (fewer E F)).map fun p => tupI [p]) h = .ok ((pnts (fewer E F)).map (prV fun p => p)) h := by
  match ρ, hρ with
  | [_, _, _, _, _, _, _, _, _, _, _, _], _ => exact lc_map (b := bNm 9) (t := tTrue) (e := le_lesser_2) (fun p => tupI [p]) (prV (fun p => p)) (ys := pnts (fewer E F)) (fun p _ => ⟨_, rfl, rfl, rfl, rfl⟩)
theorem lesser_eq (R : FreeF E F A) (b : Bx) : F_lesser [webV E, tupI F] [b.v] = .ok (stepV E F A) [b.v] := by
  have hE := R.l
  have hF := R.w.face F R.f
  have hA := R.w.face A R.a
  have hFl := hF.le
  have hAl := hA.le
  have iF : isort F = F := hF.srt
  have hpl : (pnts (fewer E F)).length ≤ 100 := by
    unfold pnts; rw [List.length_map]
    have := sz_le (fewer E F) 1
    have := few_le E F
    omega
  have hal : (arnd E F).length ≤ 100 := by
    have : (arnd E F).length ≤ E.length := List.length_filter_le _ _
    omega
  have hsl := sides_len hAl
  have neT : ∀ (h : VH) (g : List Int), opNe h (tupI g) (.tup (F.map VV.int)) = some (.bl (!decide (g = F))) := fun _ _ => ne_tupI
  have eqT : ∀ (h : VH) (g : List Int), opEq h (tupI g) (.tup (F.map VV.int)) = some (.bl (decide (g = F))) := fun _ _ => eq_tupI
  unfold F_lesser B_lesser
  walk_at "ev"
  simp only [meth_has]
  walk_at "ev"
  simp only [has_eq R.w.face (f := F), iF, decide_eq_true R.f]
  walk_at "ev"
  simp only [sorted_tup, iF]
  walk_at "ev"
  simp only [tuple_lst]
  walk_at "ev"
  simp only [mth_around]
  walk_at "ev"
  simp only [show VV.tup (F.map VV.int) = tupI F from rfl, around_eq R.w (f := F) (show E.length ≤ 1000 by omega) (by omega)]
  walk_at "ev"
  rw [if_neg (by rw [List.length_map]; show ¬ (arnd E F).length > 16777216; omega)]
  simp only [wp, List.set_cons_zero, List.set_cons_succ]
  rw [lc_mapF (b := bNm 8) (e := eVar 8) tupI (fun g => !decide (g = F)) tupI (ys := arnd E F) (fun g _ => ⟨_, rfl, by
    simp only [a_val, a_bin, a_var, List.set_cons_zero, List.set_cons_succ, List.getElem?_cons_succ, List.getElem?_cons_zero, getV_some, bnd_ok, neT, lift_some, toB_bl], fun _ => ⟨rfl, rfl⟩⟩), afterL_ok, above_eq R]
  walk_at "ev"
  simp only [len_lst, List.length_cons, List.length_nil]
  walk_at "ev"
  have x0 : ∀ h : VH, opIx h (.lst [tupI A]) (.int 0) = some (tupI A) := fun _ => rfl
  rw [if_neg (by decide)]
  walk_at "ev"
  simp only [x0]
  walk_at "ev"
  simp only [sides_eq (f := A) (show A.length ≤ 1000 by omega)]
  walk_at "ev"
  rw [if_neg (by rw [List.length_map]; show ¬ (sidesL A).length > 16777216; omega)]
  simp only [wp, List.set_cons_zero, List.set_cons_succ]
  rw [lc_mapF (b := bTup 2 (bCons (bNm 10) (bCons (bNm 11) bNil))) (e := eVar 10) sideV (fun p => decide (p.2 = F)) (fun p => VV.int p.1) (ys := sidesL A) (fun p _ => ⟨_, pat_pair, by
    simp only [a_val, a_bin, a_var, List.set_cons_zero, List.set_cons_succ, List.getElem?_cons_succ, List.getElem?_cons_zero, getV_some, bnd_ok, eqT, lift_some, toB_bl], fun _ => ⟨rfl, rfl⟩⟩), afterL_ok]
  walk_at "ev"
  have es : ∀ h : VH, cSum h [.lst (((sidesL A).filter fun p => decide (p.2 = F)).map fun p => VV.int p.1)] = some (.int (co A F)) := fun h => by
    have : (((sidesL A).filter fun p => decide (p.2 = F)).map fun p => VV.int p.1) = (((sidesL A).filter fun p => decide (p.2 = F)).map fun p => p.1).map VV.int := by rw [List.map_map]; rfl
    rw [this, sum_ints, by_sum]
  simp only [es]
  walk_at "ev"
  simp only [x0]
  walk_at "ev"
  simp only [sides_eq (f := A) (show A.length ≤ 1000 by omega)]
  walk_at "ev"
  rw [if_neg (by rw [List.length_map]; show ¬ (sidesL A).length > 16777216; omega)]
  simp only [wp, List.set_cons_zero, List.set_cons_succ]
  have hneg : (-(co A F)).natAbs < 18446744073709551616 := by have := R.by_abs; rw [Int.natAbs_neg]; omega
  rw [lc_mapF (b := bTup 2 (bCons (bNm 10) (bCons (bNm 11) bNil))) (e := le_lesser_1) sideV (fun p => !decide (p.2 = F)) (fun p => sideV (-(co A F) * p.1, p.2)) (ys := sidesL A) (fun p _ => ⟨_, pat_pair, by
    simp only [a_val, a_bin, a_var, List.set_cons_zero, List.set_cons_succ, List.getElem?_cons_succ, List.getElem?_cons_zero, getV_some, bnd_ok, neT, lift_some, toB_bl], fun _ => ⟨by
      walk_at "ev"
      simp only [o_mul_l hneg]
      walk_at "ev"
      simp only [List.any_cons, List.any_nil, obj_tupI, obj_int, obj_tup, Bool.or_false, Bool.false_eq_true, false_or]
      rw [if_neg (by decide)]
      rfl, rfl⟩⟩), afterL_ok]
  have er : (((sidesL A).filter fun p => !decide (p.2 = F)).map fun p => sideV (-(co A F) * p.1, p.2)) = (restA A F).map sideV := by unfold restA; rw [List.map_map]; rfl
  rw [er]
  walk_at "ev"
  simp only [mth_without]
  walk_at "ev"
  have hw : F_Web_without [webV E, .tup (F.map VV.int)] [b.v] = .ok (webV (fewer E F)) [b.v] := without_eq R.w (by omega) (f := F) (by rw [iF]; exact R.f) (by omega) rfl
  simp only [hw]
  walk_at "ev"
  simp only [meth_faces]
  walk_at "ev"
  simp only [faces_eq, szI0]
  walk_at "ev"
  rw [if_neg (by rw [List.length_map]; show ¬ (pnts (fewer E F)).length > 16777216; omega)]
  simp only [wp, List.set_cons_zero, List.set_cons_succ]
  rw [pairs0 R rfl, afterL_ok]
  walk_at "ev"
  have ed : ∀ ρ : VSt, ρ[2]? = some (some (VV.tup (F.map VV.int))) → ρ[5]? = some (some (VV.lst ((restA A F).map sideV))) → ρ[3]? = some (some (VV.lst [tupI A])) → eDispT (eVar 2) (eCall cTuple (aCons (eVar 5) aNil)) (eBin opIx (eVar 3) (eC (VV.int 0))) (eTup aNil) ρ [b.v] = .ok (.obj 1) [b.v, .dT [keyI F, keyI A] [.tup ((restA A F).map sideV), .tup []]] := fun ρ r2 r5 r3 => by
    rw [a_dispT]
    simp only [a_var, r2, getV_some, bnd_ok, a_call, a_cons, a_nil, r5, tuple_lst, lift_some, a_bin, r3, a_c, x0, a_tup, List.any_nil, List.length_nil, Bool.false_eq_true, false_or, List.cons_append, List.nil_append, List.length_cons, Nat.zero_add]
    rw [if_neg (by decide), bnd_ok]
    exact disp_mov R.ne
  rw [ed _ rfl rfl rfl]
  have ef : frzR (.obj 1) [b.v, .dT [keyI F, keyI A] [.tup ((restA A F).map sideV), .tup []]] = .ok (movV A F) [b.v, .fzn (movV A F)] := nr rfl
  simp only [bnd_ok, ef]
  walk_at "ev"
  simp only [step_make R (o := b.v) (o1 := .fzn (movV A F)) rfl rfl rfl rfl]
  walk_at "ev"
  rw [fin_b rfl]
end
section
variable {E : List (List Int)} {F A : List Int} {h : VH}
theorem free_of (w : WebF E) (l : E.length < 63) (hf : F ∈ E) (h2 : (arnd E F).length = 2) : ∃ A, FreeF E F A := by
  have nd : (arnd E F).Nodup := w.nd.filter _
  have hF : F ∈ arnd E F := mem_arnd.mpr ⟨hf, subB_iff.mpr fun x hx => hx⟩
  have key : ∃ A, A ∈ arnd E F ∧ A ≠ F ∧ ∀ g ∈ arnd E F, g = F ∨ g = A := by
    generalize arnd E F = L at *
    match L, h2 with
    | [x, y], _ =>
      have hxy : x ≠ y := by simpa using nd
      rcases List.mem_cons.mp hF with e | e
      · subst e
        exact ⟨y, by simp, Ne.symm hxy, fun g hg => by simpa using hg⟩
      · have e : F = y := by simpa using e
        subst e
        exact ⟨x, by simp, hxy, fun g hg => by have := (by simpa using hg : g = x ∨ g = F); exact this.symm⟩
  obtain ⟨A, hA, n, all⟩ := key
  obtain ⟨aE, aS⟩ := mem_arnd.mp hA
  exact ⟨A, w, l, hf, aE, n, (sub_face w hf aE).mp aS, fun g hg hs => all g (mem_arnd.mpr ⟨hg, hs⟩)⟩
theorem fewer_in (R : FreeF E F A) : E.filter (fun g => !decide (g ∈ [F, A])) = fewer E F := by
  unfold fewer
  refine List.filter_congr fun g hg => ?_
  have := not_sub R hg
  unfold fewer at this
  rw [List.mem_filter] at this
  by_cases c : g ∈ [F, A]
  · rw [decide_eq_true c]
    cases e : subB F g with
    | true => rfl
    | false =>
      have := this.mp ⟨hg, by rw [e]; rfl⟩
      rcases List.mem_cons.mp c with z | z
      · exact absurd z this.1
      · exact absurd (by simpa using z) this.2
  · rw [decide_eq_false c]
    have := (this.mpr ⟨fun z => c (by rw [z]; simp), fun z => c (by rw [z]; simp)⟩).2
    rw [this]; rfl
theorem arnd_lc (w : WebF E) (hE : E.length ≤ 1000) {f : List Int} (hf : f ∈ E) {o0 o1 : Option VV} {h : VH} : lcGo (bNm 3) (tVal (eBin (opSubs false) (eVar 2) (eVar 3))) (eVar 3) [o0, o1, some (tupI f), none] (E.map tupI) h = .ok ((arnd E f).map tupI) h := by
  unfold arnd
  refine lc_mapF (b := bNm 3) (e := eVar 3) tupI (subB f) tupI (ys := E) (fun g hg => ⟨_, rfl, ?_, fun _ => ⟨rfl, rfl⟩⟩)
  have hs := subs_op (f := f) (g := g) (ne := false) (h := h) (by have := (w.face f hf).le; omega) (w.face g hg).pos (by have := (w.face g hg).le; omega)
  simp only [a_val, a_bin, a_var, List.set_cons_zero, List.set_cons_succ, List.getElem?_cons_succ, List.getElem?_cons_zero, getV_some, bnd_ok, hs, lift_some, toB_bl, Bool.false_eq_true, if_false]
def freeL (E : List (List Int)) : List (List Int) := E.filter fun f => decide ((arnd E f).length = 2)
theorem law_free_eq (w : WebF E) (hE : E.length ≤ 120) {o : VO} (ho : lowO 1 o = true) : F_law_free [.lst (E.map tupI)] [o] = .ok (.lst ((freeL E).map tupI)) [o] := by
  unfold F_law_free B_law_free
  walk_at "ev"
  simp only [List.any_nil, Bool.false_eq_true, false_or]
  rw [if_neg (by decide)]
  walk_at "ev"
  obtain ⟨ρ2, h2, e2, ⟨o2, rfl⟩, rfl⟩ := for_pre (b := bNm 2) (body := lb_law_free_1) tupI
    (fun pre ρ h => (∃ o2, ρ = [some (.lst (E.map tupI)), some (.obj 1), o2, none]) ∧ h = [o, .fl ((pre.filter fun f => decide ((arnd E f).length = 2)).map tupI)])
    E (ρ := [some (.lst (E.map tupI)), some (.obj 1), none, none]) (h := [o, .fl []]) ⟨⟨none, rfl⟩, rfl⟩ (by
      rintro pre f post ey ρ h ⟨⟨o2, rfl⟩, rfl⟩
      have hf : f ∈ E := by rw [ey]; simp
      have hpl : pre.length ≤ 120 := by
        have := congrArg List.length ey
        rw [List.length_append] at this; omega
      have hfl := List.length_filter_le (fun f => decide ((arnd E f).length = 2)) pre
      obtain ⟨n, hn⟩ : ∃ n : Int, ((arnd E f).length : Int) = n := ⟨_, rfl⟩
      refine ⟨_, _, _, rfl, ?_, ⟨some (tupI f), rfl⟩, rfl⟩
      simp only [s_if, a_val, a_bin, a_call, a_cons, a_nil, a_lc', a_seq, a_var, List.set_cons_zero, List.set_cons_succ, List.getElem?_cons_succ, List.getElem?_cons_zero, getV_some, bnd_ok, seqI_lst, List.length_map]
      rw [if_neg (show ¬ E.length > 16777216 by omega)]
      simp only [wp, List.set_cons_zero, List.set_cons_succ]
      rw [arnd_lc w (by omega) hf, afterL_ok]
      simp only [bnd_ok, a_nil, len_lst, List.length_map, hn, lift_some, a_c, o_eqI, toB_bl, sbd_ok]
      rw [List.filter_append]
      by_cases c : n = 2
      · have c' : (arnd E f).length = 2 := by omega
        rw [decide_eq_true c, if_pos rfl]
        simp only [s_expr, a_app, a_var, List.getElem?_cons_succ, List.getElem?_cons_zero, getV_some, bnd_ok, lstR_obj, lstRO_fl, chkL_some, appV_obj]
        rw [appO_fl (by rw [List.length_map]; omega) rfl, sbd_ok]
        simp only [List.filter_cons, List.filter_nil, c', decide_true, if_true, List.map_append, List.map_cons, List.map_nil, List.set_cons_succ, List.set_cons_zero]
      · have c' : ¬ (arnd E f).length = 2 := by omega
        rw [decide_eq_false c, if_neg Bool.false_ne_true]
        simp only [s_skip, List.filter_cons, List.filter_nil, c', decide_false, Bool.false_eq_true, if_false, List.append_nil])
  rw [e2]
  walk_at "ev"
  rw [fin_o rfl ho]; rfl
theorem by_ix (R : FreeF E F A) : opIx h (.lst (((sidesL A).filter fun p => decide (p.2 = F)).map fun p => VV.int p.1)) (.int 0) = some (.int (co A F)) := by
  obtain ⟨i, hi, e⟩ := R.by_at
  have hm : (sgn i, F) ∈ (sidesL A).filter fun p => decide (p.2 = F) := List.mem_filter.mpr ⟨hi, by simp⟩
  cases hL : (sidesL A).filter fun p => decide (p.2 = F) with
  | nil => rw [hL] at hm; simp at hm
  | cons q l =>
    have hq : q ∈ (sidesL A).filter fun p => decide (p.2 = F) := by rw [hL]; simp
    obtain ⟨q1, q2⟩ := List.mem_filter.mp hq
    have q2 : q.2 = F := by simpa using q2
    have := cf_pick (sides_nodup (R.w.face A R.a).inc) q1
    rw [q2] at this
    rw [co_cf, this]
    show opIx h _ (.int ((0 : Nat) : Int)) = _
    rw [x_lst]
    exact atI_in rfl
end
section
variable {E : List (List Int)} {F A : List Int} {h : VH}
theorem lesser_row_eq (R : FreeF E F A) {s : Int} {row : List Int} {o : VO} (ho : lowO 1 o = true) (ho2 : lowO 2 o = true) (h0 : 0 ≤ s) (h1 : s ≤ 3) :
    F_law_lesser_row [.lst (E.map tupI), .lst ((fewer E F).map tupI), tupI F, tupI A, .int s, .lst (row.map VV.int)] [o] = .ok (.lst ((stF E F A s row).map VV.int)) [o] := by
  have wD := webf_fewer R.w F
  have hE := R.l
  have hD := few_le E F
  have hAl := (R.w.face A R.a).le
  have hsl := sides_len hAl
  have hsz : (szI (fewer E F) s).length ≤ 120 := szI_le s (by omega)
  have hneg : (-(co A F)).natAbs < 18446744073709551616 := by have := R.by_abs; rw [Int.natAbs_neg]; omega
  obtain ⟨n, hn⟩ : ∃ n : Int, ((szI (fewer E F) s).length : Int) = n := ⟨_, rfl⟩
  have er : (((sidesL A).filter fun p => !decide (p.2 = F)).map fun p => sideV (-(co A F) * p.1, p.2)) = (restA A F).map sideV := by unfold restA; rw [List.map_map]; rfl
  unfold F_law_lesser_row B_law_lesser_row
  walk_at "ev"
  simp only [law_sized_eq (E := fewer E F) (s := s) (by omega) h0 h1]
  walk_at "ev"
  simp only [List.any_cons, List.any_nil, VV.isObj, Bool.or_false, Bool.false_eq_true, false_or]
  rw [if_neg (by decide)]
  simp only [bnd_ok, a_call, a_cons, a_var, a_nil, List.getElem?_cons_zero, List.getElem?_cons_succ, getV_some, len_lst, List.length_map, lift_some, hn]
  rw [rep0 hn (by omega)]
  walk_at "ev"
  have ls : ∀ xs : List VV, F_law_sides [tupI A] [o, .fl xs] = .ok (.lst ((sidesL A).map sideV)) [o, .fl xs] := fun xs => law_sides_eq (by omega) (low2 ho2)
  simp only [ls]
  walk_at "ev"
  rw [if_neg (by rw [List.length_map]; show ¬ (sidesL A).length > 16777216; omega)]
  simp only [wp, List.set_cons_zero, List.set_cons_succ]
  rw [lc_mapF (b := bTup 2 (bCons (bNm 10) (bCons (bNm 14) bNil))) (e := eVar 10) sideV (fun p => decide (p.2 = F)) (fun p => VV.int p.1) (ys := sidesL A) (fun p _ => ⟨_, pat_pair, by
    simp only [a_val, a_bin, a_var, List.set_cons_zero, List.set_cons_succ, List.getElem?_cons_succ, List.getElem?_cons_zero, getV_some, bnd_ok, eq_tupI, lift_some, toB_bl], fun _ => ⟨rfl, rfl⟩⟩), afterL_ok]
  walk_at "ev"
  simp only [by_ix R]
  walk_at "ev"
  simp only [law_sized_eq (E := E) (s := s) (by omega) h0 h1]
  walk_at "ev"
  rw [prs_fr]
  obtain ⟨ρ2, h2, e2, ⟨o9, o10, o11, o12, o13, rfl⟩, rfl⟩ := for_pre (b := bTup 2 (bCons (bNm 9) (bCons (bNm 10) bNil))) (body := lb_law_lesser_row_2) (fun p : List Int × Int => VV.tup [tupI p.1, .int p.2])
    (fun pre ρ h => (∃ o9 o10 o11 o12 o13, ρ = [some (.lst (E.map tupI)), some (.lst ((fewer E F).map tupI)), some (tupI F), some (tupI A), some (.int s), some (.lst (row.map VV.int)), some (.lst ((szI (fewer E F) s).map tupI)), some (.obj 1), some (.int (co A F)), o9, o10, o11, o12, o13, none]) ∧ h = [o, .fl ((pre.foldl (fun v p => (prt A F p.1).foldl (bstep (fewer E F) p.2) v) (List.replicate (szI (fewer E F) s).length 0)).map VV.int)])
    ((szI E s).zip row) (ρ := [some (.lst (E.map tupI)), some (.lst ((fewer E F).map tupI)), some (tupI F), some (tupI A), some (.int s), some (.lst (row.map VV.int)), some (.lst ((szI (fewer E F) s).map tupI)), some (.obj 1), some (.int (co A F)), none, none, none, none, none, none]) (h := [o, .fl ((List.replicate (szI (fewer E F) s).length (0 : Int)).map VV.int)]) ⟨⟨none, none, none, none, none, rfl⟩, rfl⟩ (by
      rintro pre ⟨f, x⟩ post ey ρ h ⟨⟨o9, o10, o11, o12, o13, rfl⟩, rfl⟩
      have hfm : f ∈ szI E s := (List.of_mem_zip (show (f, x) ∈ (szI E s).zip row by rw [ey]; simp)).1
      have hv := stf_len (A := A) (F := F) (D := fewer E F) (l := pre) (v := List.replicate (szI (fewer E F) s).length 0)
      rw [List.length_replicate] at hv
      generalize ev0 : pre.foldl (fun v p => (prt A F p.1).foldl (bstep (fewer E F) p.2) v) (List.replicate (szI (fewer E F) s).length 0) = v0 at hv
      obtain ⟨ρ3, h3, e3, ⟨o12', o13', rfl⟩, rfl⟩ := for_pre (b := bTup 2 (bCons (bNm 12) (bCons (bNm 13) bNil))) (body := lb_law_lesser_row_1) sideV
        (fun q ρ h => (∃ o12 o13, ρ = [some (.lst (E.map tupI)), some (.lst ((fewer E F).map tupI)), some (tupI F), some (tupI A), some (.int s), some (.lst (row.map VV.int)), some (.lst ((szI (fewer E F) s).map tupI)), some (.obj 1), some (.int (co A F)), some (tupI f), some (.int x), some (.lst ((prt A F f).map sideV)), o12, o13, none]) ∧ h = [o, .fl ((q.foldl (bstep (fewer E F) x) v0).map VV.int)])
        (prt A F f) (ρ := [some (.lst (E.map tupI)), some (.lst ((fewer E F).map tupI)), some (tupI F), some (tupI A), some (.int s), some (.lst (row.map VV.int)), some (.lst ((szI (fewer E F) s).map tupI)), some (.obj 1), some (.int (co A F)), some (tupI f), some (.int x), some (.lst ((prt A F f).map sideV)), o12, o13, none]) (h := [o, .fl (v0.map VV.int)]) ⟨⟨o12, o13, rfl⟩, rfl⟩ (by
          rintro q ⟨by_, side⟩ q' eq ρ h ⟨⟨o12, o13, rfl⟩, rfl⟩
          have hp : (by_, side) ∈ prt A F f := by rw [eq]; simp
          obtain ⟨m0, m2, m1, _⟩ := prt_mem R hfm hp
          have m3 := prt_small R hfm hp
          have hj : plc (fewer E F) side < (q.foldl (bstep (fewer E F) x) v0).length := by
            rw [fold_len, hv, m2]
            exact plc_lt m1
          refine ⟨_, _, _, pat_pair, ?_, ⟨some (.int by_), some (tupI side), rfl⟩, rfl⟩
          simp only [s_augI, a_var, List.set_cons_zero, List.set_cons_succ, List.getElem?_cons_succ, List.getElem?_cons_zero, getV_some, sbd_ok, a_idx, bnd_ok, idxR_lst, idx_plc m0 m2, lift_some]
          rw [aug_eq hj (x := by_ * x) (by
            simp only [a_bin, a_var, List.getElem?_cons_succ, List.getElem?_cons_zero, getV_some, bnd_ok, o_mul_l m3, lift_some]), List.foldl_append]
          rfl)
      refine ⟨_, _, _, pat_pair, ?_, ⟨some (tupI f), some (.int x), some (.lst ((prt A F f).map sideV)), o12', o13', rfl⟩, rfl⟩
      rw [List.foldl_append, ev0]
      refine Eq.trans ?_ e3
      by_cases cF : f = F
      · have nA : f ≠ A := fun e => R.ne (e.symm.trans cF)
        have ep : prt A F f = restA A F := by unfold prt; rw [if_pos cF]
        rw [ep]
        simp only [List.set_cons_zero, List.set_cons_succ]
        walk_at "ev"
        simp only [ne_tupI, eq_tupI, decide_eq_false nA, decide_eq_true cF]
        walk_at "ev"
        simp only [List.any_cons, List.any_nil, obj_tupI, obj_int, obj_tup, Bool.or_false, Bool.false_eq_true, false_or]
        rw [if_neg (by decide)]
        walk_at "ev"
        simp only [List.any_cons, List.any_nil, obj_tupI, obj_int, obj_tup, Bool.or_false, Bool.false_eq_true, false_or]
        rw [if_neg (by decide)]
        walk_at "ev"
        simp only [ne_tupI, eq_tupI, decide_eq_false nA, decide_eq_true cF]
        walk_at "ev"
        simp only [ls]
        walk_at "ev"
        rw [if_neg (by rw [List.length_map]; show ¬ (sidesL A).length > 16777216; omega)]
        simp only [wp, List.set_cons_zero, List.set_cons_succ]
        rw [lc_mapF (b := bTup 2 (bCons (bNm 12) (bCons (bNm 14) bNil))) (e := le_law_lesser_row_1) sideV (fun p => !decide (p.2 = F)) (fun p => sideV (-(co A F) * p.1, p.2)) (ys := sidesL A) (fun p _ => ⟨_, pat_pair, by
          simp only [a_val, a_bin, a_var, List.set_cons_zero, List.set_cons_succ, List.getElem?_cons_succ, List.getElem?_cons_zero, getV_some, bnd_ok, ne_tupI, lift_some, toB_bl], fun _ => ⟨by
            walk_at "ev"
            simp only [o_mul_l hneg]
            walk_at "ev"
            simp only [List.any_cons, List.any_nil, obj_tupI, obj_int, obj_tup, Bool.or_false, Bool.false_eq_true, false_or]
            rw [if_neg (by decide)]
            rfl, rfl⟩⟩), afterL_ok, er]
        walk_at "ev"
      · by_cases cA : f = A
        · have ep : prt A F f = [] := by unfold prt; rw [if_neg cF, if_pos cA]
          rw [ep]
          simp only [List.set_cons_zero, List.set_cons_succ]
          walk_at "ev"
          simp only [ne_tupI, eq_tupI, decide_eq_true cA, decide_eq_false cF]
          walk_at "ev"
          simp only [List.any_nil, Bool.false_eq_true, false_or]
          rw [if_neg (by decide)]
          walk_at "ev"
          simp only [ne_tupI, eq_tupI, decide_eq_true cA, decide_eq_false cF]
          walk_at "ev"
        · have ep : prt A F f = [(1, f)] := by unfold prt; rw [if_neg cF, if_neg cA]
          rw [ep]
          simp only [List.set_cons_zero, List.set_cons_succ]
          walk_at "ev"
          simp only [ne_tupI, eq_tupI, decide_eq_false cA, decide_eq_false cF]
          walk_at "ev"
          simp only [List.any_cons, List.any_nil, obj_tupI, obj_int, obj_tup, Bool.or_false, Bool.false_eq_true, false_or]
          rw [if_neg (by decide)]
          walk_at "ev"
          simp only [List.any_cons, List.any_nil, obj_tupI, obj_int, obj_tup, Bool.or_false, Bool.false_eq_true, false_or]
          rw [if_neg (by decide)]
          walk_at "ev"
          simp only [ne_tupI, eq_tupI, decide_eq_false cA, decide_eq_false cF]
          walk_at "ev"
          rfl)
  rw [e2]
  walk_at "ev"
  rw [fin_o rfl ho]; rfl
end
theorem seqN {A B : SF} {ρ ρ1 : VSt} {h h1 : VH} (e : A ρ h = .nx ρ1 h1) : sSeq A B ρ h = B ρ1 h1 := by rw [s_seq, e, thn_nx]
theorem isD_two {a b : List Int} : isD (.lst [.lst (a.map VV.int), .lst (b.map VV.int)]) = true := by
  rw [isD, isDs, isDs, isDs, isD, isD, isDs_ints, isDs_ints]; rfl
theorem alike_two {a b : List Int} {h : VH} (ha : a.length ≤ 1000) (hb : b.length ≤ 1000) : F_law_alike 4 [.lst [.lst (a.map VV.int), .lst (b.map VV.int)], .lst [.lst (a.map VV.int), .lst (b.map VV.int)]] h = .ok (.bl true) h :=
  alike_refl 4 _ h isD_two (by
    rw [dep, deps, deps, deps, dep, dep, (deps_ints a).1, (deps_ints b).1]; decide) (by
    rw [wide, wides, wides, wides, wide, wide, (deps_ints a).2, (deps_ints b).2, List.length_map, List.length_map]
    show max 2 _ ≤ 16777216
    omega)
theorem alike_one {a : List Int} {h : VH} (ha : a.length ≤ 1000) : F_law_alike 4 [.lst (a.map VV.int), .lst (a.map VV.int)] h = .ok (.bl true) h :=
  alike_refl 4 _ h (by rw [isD, isDs_ints]) (by
    rw [dep, (deps_ints a).1]; decide) (by
    rw [wide, (deps_ints a).2, List.length_map]
    show max _ 0 ≤ 16777216
    omega)
theorem turn46 {E : List (List Int)} {F A : List Int} (R : FreeF E F A) {r s : Int} (hr : restOk r) (s0 : 0 ≤ s) (s3 : s ≤ 3) {x0 x3 o10 o11 o12 o13 o14 o15 o16 o17 : Option VV} (b : Bx) :
    ∃ (b' : Bx) (p10 p11 p12 p13 p14 p15 p16 p17 : Option VV), lb_law_1 [x0, some (.obj 0), some (.lst (E.map tupI)), x3, some (tupI F), some (tupI A), some (.lst ((fewer E F).map tupI)), some (stepV E F A), some (.int r), some (.int s), o10, o11, o12, o13, o14, o15, o16, o17, none] [b.v] = .nx [x0, some (.obj 0), some (.lst (E.map tupI)), x3, some (tupI F), some (tupI A), some (.lst ((fewer E F).map tupI)), some (stepV E F A), some (.int r), some (.int s), p10, p11, p12, p13, p14, p15, p16, p17, none] [b'.v] := by
  have wD := webf_fewer R.w F
  have hE := R.l
  have hD := few_le E F
  have z1 : ∀ t : Int, (szI E t).length ≤ 120 := fun t => szI_le t (by omega)
  have z2 : ∀ t : Int, (szI (fewer E F) t).length ≤ 120 := fun t => szI_le t (by omega)
  have rz : restOk 0 := .inl rfl
  obtain ⟨n1, hn1⟩ : ∃ n : Int, ((szI E s).length : Int) = n := ⟨_, rfl⟩
  obtain ⟨n2, hn2⟩ : ∃ n : Int, ((szI (fewer E F) s).length : Int) = n := ⟨_, rfl⟩
  have := z1 s
  have := z2 s
  obtain ⟨row, b1, e1, q1, g1⟩ := few_eq b (m := n1) (q := 30) (by omega) (by omega) (by decide) (by decide)
  obtain ⟨cut, b2, e2, q2, g2⟩ := few_eq b1 (m := n2) (q := 30) (by omega) (by omega) (by decide) (by decide)
  have k1 : row.length = (szI E s).length := by omega
  have k2 : cut.length = (szI (fewer E F) s).length := by omega
  have hn1' : (row.length : Int) = n1 := by omega
  have fl : (stF E F A s row).length ≤ 120 := by rw [stF_len]; exact z2 s
  have bl : (stB E F A s cut).length ≤ 120 := by rw [stB_len]; exact z1 s
  have hn2' : ((stF E F A s row).length : Int) = n2 := by rw [stF_len]; exact hn2
  have a1 : ∀ i ∈ row, i.natAbs < 31 := fun i hi => by have := g1 i hi; omega
  have a2 : ∀ i ∈ cut, i.natAbs < 31 := fun i hi => by have := g2 i hi; omega
  have big : ∀ {l : List Int} {n : Nat}, (∀ i ∈ l, i.natAbs ≤ n) → n < 1000000 → ∀ i ∈ l, i.natAbs < 2 ^ 300 := fun h hn i hi => Nat.lt_of_le_of_lt (h i hi) (Nat.lt_trans hn (by decide))
  refine ⟨b2, some (.lst (row.map VV.int)), some (.lst ((stF E F A s row).map VV.int)), some (.lst (row.map VV.int)), some (.lst [.lst ((stF E F A s row).map VV.int), .lst (((stF E F A s row).map (restI r)).map VV.int)]), some (.lst ((borderF E s row).map VV.int)), some (.lst (cut.map VV.int)), some (.lst ((stB E F A s cut).map VV.int)), some (.lst ((riseF (fewer E F) s cut).map VV.int)), ?_⟩
  refine Eq.trans (seqN (ρ1 := [x0, some (.obj 0), some (.lst (E.map tupI)), x3, some (tupI F), some (tupI A), some (.lst ((fewer E F).map tupI)), some (stepV E F A), some (.int r), some (.int s), some (.lst (row.map VV.int)), o11, o12, o13, o14, o15, o16, o17, none]) (h1 := [b1.v]) ?_) ?_
  · walk_at "ev"
    simp only [law_sized_eq (E := E) (s := s) (by omega) s0 s3]
    walk_at "ev"
    simp only [len_lst, List.length_map, hn1]
    walk_at "ev"
    simp only [e1]
    walk_at "ev"
  refine Eq.trans (seqN (ρ1 := [x0, some (.obj 0), some (.lst (E.map tupI)), x3, some (tupI F), some (tupI A), some (.lst ((fewer E F).map tupI)), some (stepV E F A), some (.int r), some (.int s), some (.lst (row.map VV.int)), some (.lst ((stF E F A s row).map VV.int)), o12, o13, o14, o15, o16, o17, none]) (h1 := [b1.v]) ?_) ?_
  · walk_at "ev"
    simp only [lesser_row_eq R (o := b1.v) (row := row) rfl rfl s0 s3]
    walk_at "ev"
  refine Eq.trans (seqN (ρ1 := [x0, some (.obj 0), some (.lst (E.map tupI)), x3, some (tupI F), some (tupI A), some (.lst ((fewer E F).map tupI)), some (stepV E F A), some (.int r), some (.int s), some (.lst (row.map VV.int)), some (.lst ((stF E F A s row).map VV.int)), some (.lst (row.map VV.int)), o13, o14, o15, o16, o17, none]) (h1 := [b1.v]) ?_) ?_
  · walk_at "ev"
    simp only [list_lst]
    walk_at "ev"
  refine Eq.trans (seqN (ρ1 := [x0, some (.obj 0), some (.lst (E.map tupI)), x3, some (tupI F), some (tupI A), some (.lst ((fewer E F).map tupI)), some (stepV E F A), some (.int r), some (.int s), some (.lst (row.map VV.int)), some (.lst ((stF E F A s row).map VV.int)), some (.lst (row.map VV.int)), some (.lst [.lst ((stF E F A s row).map VV.int), .lst (((stF E F A s row).map (restI r)).map VV.int)]), o14, o15, o16, o17, none]) (h1 := [b1.v]) ?_) ?_
  · walk_at "ev"
    simp only [ins_step, mth_sforth]
    walk_at "ev"
    simp only [sforth_eq R (o := b1.v) (row := row) (r := 0) rfl s0 s3 rz k1, map_restI0]
    walk_at "ev"
    simp only [ins_step, mth_sforth]
    walk_at "ev"
    simp only [and_self, if_true]
    walk_at "ev"
    simp only [sforth_eq R (o := b1.v) (row := row) (r := r) rfl s0 s3 hr k1]
    walk_at "ev"
    rw [if_neg (by simp [VV.isObj]; decide)]
    walk_at "ev"
  refine Eq.trans (seqN (ρ1 := [x0, some (.obj 0), some (.lst (E.map tupI)), x3, some (tupI F), some (tupI A), some (.lst ((fewer E F).map tupI)), some (stepV E F A), some (.int r), some (.int s), some (.lst (row.map VV.int)), some (.lst ((stF E F A s row).map VV.int)), some (.lst (row.map VV.int)), some (.lst [.lst ((stF E F A s row).map VV.int), .lst (((stF E F A s row).map (restI r)).map VV.int)]), o14, o15, o16, o17, none]) (h1 := [b1.v]) ?_) ?_
  · walk_at "ev"
    simp only [law_rested_eq (l := (stF E F A s row)) (r := r) (Nat.le_trans fl (by decide))]
    walk_at "ev"
    rw [if_neg (by simp [VV.isObj]; decide)]
    walk_at "ev"
    simp only [alike_two (a := (stF E F A s row)) (b := (stF E F A s row).map (restI r)) (by omega) (by rw [List.length_map]; omega)]
    walk_at "ev"
    simp only [ne_ints]
    walk_at "ev"
  refine Eq.trans (seqN (ρ1 := [x0, some (.obj 0), some (.lst (E.map tupI)), x3, some (tupI F), some (tupI A), some (.lst ((fewer E F).map tupI)), some (stepV E F A), some (.int r), some (.int s), some (.lst (row.map VV.int)), some (.lst ((stF E F A s row).map VV.int)), some (.lst (row.map VV.int)), some (.lst [.lst ((stF E F A s row).map VV.int), .lst (((stF E F A s row).map (restI r)).map VV.int)]), some (.lst ((borderF E s row).map VV.int)), o15, o16, o17, none]) (h1 := [b1.v]) ?_) ?_
  · walk_at "ev"
    simp only [law_border_eq R.w (by omega) (o := b1.v) (row := row) rfl rfl s0 s3]
    walk_at "ev"
  refine Eq.trans (seqN (ρ1 := [x0, some (.obj 0), some (.lst (E.map tupI)), x3, some (tupI F), some (tupI A), some (.lst ((fewer E F).map tupI)), some (stepV E F A), some (.int r), some (.int s), some (.lst (row.map VV.int)), some (.lst ((stF E F A s row).map VV.int)), some (.lst (row.map VV.int)), some (.lst [.lst ((stF E F A s row).map VV.int), .lst (((stF E F A s row).map (restI r)).map VV.int)]), some (.lst ((borderF E s row).map VV.int)), o15, o16, o17, none]) (h1 := [b1.v]) ?_) ?_
  · by_cases c : 0 < s
    · walk_at "ev"
      simp only [decide_eq_true c]
      walk_at "ev"
      simp only [ins_step, mth_sforth]
      walk_at "ev"
      simp only [sforth_eq R (o := b1.v) (s := s - 1) (row := borderF E s row) (r := 0) rfl (by omega) (by omega) rz (by rw [borderF_len]), map_restI0]
      walk_at "ev"
      simp only [law_border_eq wD (by omega) (o := b1.v) (row := (stF E F A s row)) rfl rfl s0 s3, st_border R]
      walk_at "ev"
      simp only [ne_ints]
      walk_at "ev"
    · walk_at "ev"
      simp only [decide_eq_false c]
      walk_at "ev"
  refine Eq.trans (seqN (ρ1 := [x0, some (.obj 0), some (.lst (E.map tupI)), x3, some (tupI F), some (tupI A), some (.lst ((fewer E F).map tupI)), some (stepV E F A), some (.int r), some (.int s), some (.lst (row.map VV.int)), some (.lst ((stF E F A s row).map VV.int)), some (.lst (row.map VV.int)), some (.lst [.lst ((stF E F A s row).map VV.int), .lst (((stF E F A s row).map (restI r)).map VV.int)]), some (.lst ((borderF E s row).map VV.int)), some (.lst (cut.map VV.int)), o16, o17, none]) (h1 := [b2.v]) ?_) ?_
  · walk_at "ev"
    simp only [len_lst, List.length_map, hn2']
    walk_at "ev"
    simp only [e2]
    walk_at "ev"
  refine Eq.trans (seqN (ρ1 := [x0, some (.obj 0), some (.lst (E.map tupI)), x3, some (tupI F), some (tupI A), some (.lst ((fewer E F).map tupI)), some (stepV E F A), some (.int r), some (.int s), some (.lst (row.map VV.int)), some (.lst ((stF E F A s row).map VV.int)), some (.lst (row.map VV.int)), some (.lst [.lst ((stF E F A s row).map VV.int), .lst (((stF E F A s row).map (restI r)).map VV.int)]), some (.lst ((borderF E s row).map VV.int)), some (.lst (cut.map VV.int)), some (.lst ((stB E F A s cut).map VV.int)), o17, none]) (h1 := [b2.v]) ?_) ?_
  · walk_at "ev"
    simp only [ins_step, mth_sback]
    walk_at "ev"
    simp only [sback_eq R (o := b2.v) (row := cut) (r := 0) rfl s0 s3 rz k2, map_restI0]
    walk_at "ev"
  refine Eq.trans (seqN (ρ1 := [x0, some (.obj 0), some (.lst (E.map tupI)), x3, some (tupI F), some (tupI A), some (.lst ((fewer E F).map tupI)), some (stepV E F A), some (.int r), some (.int s), some (.lst (row.map VV.int)), some (.lst ((stF E F A s row).map VV.int)), some (.lst (row.map VV.int)), some (.lst [.lst ((stF E F A s row).map VV.int), .lst (((stF E F A s row).map (restI r)).map VV.int)]), some (.lst ((borderF E s row).map VV.int)), some (.lst (cut.map VV.int)), some (.lst ((stB E F A s cut).map VV.int)), o17, none]) (h1 := [b2.v]) ?_) ?_
  · walk_at "ev"
    simp only [len_lst, List.length_map, hn1']
    walk_at "ev"
    simp only [whole_list_eq (l := (stB E F A s cut)) (n := n1) (by rw [stB_len]; exact hn1) (Nat.le_trans bl (by decide))]
    walk_at "ev"
    simp only [law_sum_eq (l := (stB E F A s cut)) (m := row) (big (stB_abs R k2 a2) (by decide)) (big (fun i hi => Nat.le_of_lt (a1 i hi)) (by decide)) (Nat.le_trans bl (by decide))]
    walk_at "ev"
    simp only [law_sum_eq (l := cut) (m := (stF E F A s row)) (big (fun i hi => Nat.le_of_lt (a2 i hi)) (by decide)) (big (stF_abs R a1) (by decide)) (Nat.le_trans (show cut.length ≤ 120 by omega) (by decide))]
    walk_at "ev"
    rw [decide_eq_true (st_adjoint R k2)]
    walk_at "ev"
  refine Eq.trans (seqN (ρ1 := [x0, some (.obj 0), some (.lst (E.map tupI)), x3, some (tupI F), some (tupI A), some (.lst ((fewer E F).map tupI)), some (stepV E F A), some (.int r), some (.int s), some (.lst (row.map VV.int)), some (.lst ((stF E F A s row).map VV.int)), some (.lst (row.map VV.int)), some (.lst [.lst ((stF E F A s row).map VV.int), .lst (((stF E F A s row).map (restI r)).map VV.int)]), some (.lst ((borderF E s row).map VV.int)), some (.lst (cut.map VV.int)), some (.lst ((stB E F A s cut).map VV.int)), o17, none]) (h1 := [b2.v]) ?_) ?_
  · walk_at "ev"
    simp only [ins_step, mth_sback]
    walk_at "ev"
    simp only [and_self, if_true]
    walk_at "ev"
    simp only [sback_eq R (o := b2.v) (row := cut) (r := r) rfl s0 s3 hr k2]
    walk_at "ev"
    simp only [law_rested_eq (l := (stB E F A s cut)) (r := r) (Nat.le_trans bl (by decide))]
    walk_at "ev"
    simp only [alike_one (a := (stB E F A s cut).map (restI r)) (by rw [List.length_map]; omega)]
    walk_at "ev"
  refine Eq.trans (seqN (ρ1 := [x0, some (.obj 0), some (.lst (E.map tupI)), x3, some (tupI F), some (tupI A), some (.lst ((fewer E F).map tupI)), some (stepV E F A), some (.int r), some (.int s), some (.lst (row.map VV.int)), some (.lst ((stF E F A s row).map VV.int)), some (.lst (row.map VV.int)), some (.lst [.lst ((stF E F A s row).map VV.int), .lst (((stF E F A s row).map (restI r)).map VV.int)]), some (.lst ((borderF E s row).map VV.int)), some (.lst (cut.map VV.int)), some (.lst ((stB E F A s cut).map VV.int)), some (.lst ((riseF (fewer E F) s cut).map VV.int)), none]) (h1 := [b2.v]) ?_) ?_
  · walk_at "ev"
    simp only [law_rise_eq wD (by omega) (o := b2.v) (row := cut) rfl rfl s0 s3 k2]
    walk_at "ev"
  refine Eq.trans (seqN (ρ1 := [x0, some (.obj 0), some (.lst (E.map tupI)), x3, some (tupI F), some (tupI A), some (.lst ((fewer E F).map tupI)), some (stepV E F A), some (.int r), some (.int s), some (.lst (row.map VV.int)), some (.lst ((stF E F A s row).map VV.int)), some (.lst (row.map VV.int)), some (.lst [.lst ((stF E F A s row).map VV.int), .lst (((stF E F A s row).map (restI r)).map VV.int)]), some (.lst ((borderF E s row).map VV.int)), some (.lst (cut.map VV.int)), some (.lst ((stB E F A s cut).map VV.int)), some (.lst ((riseF (fewer E F) s cut).map VV.int)), none]) (h1 := [b2.v]) ?_) ?_
  · by_cases c : s < 3
    · walk_at "ev"
      simp only [decide_eq_true c]
      walk_at "ev"
      simp only [ins_step, mth_sback]
      walk_at "ev"
      simp only [sback_eq R (o := b2.v) (s := s + 1) (row := riseF (fewer E F) s cut) (r := 0) rfl (by omega) (by omega) rz (by rw [riseF_len]), map_restI0]
      walk_at "ev"
      simp only [law_rise_eq R.w (by omega) (o := b2.v) (row := (stB E F A s cut)) rfl rfl s0 s3 (by rw [stB_len]), st_rise R k2]
      walk_at "ev"
      simp only [ne_ints]
      walk_at "ev"
    · walk_at "ev"
      simp only [decide_eq_false c]
      walk_at "ev"
  walk_at "ev"
  simp only [ins_step, fld_home]
  walk_at "ev"
  simp only [ins_map, mth_forth]
  walk_at "ev"
  simp only [forth_eq (home_ok R) (List.Perm.refl _) (o := b2.v) (row := cut) (r := 0) rfl s0 s3 rz k2, map_restI0]
  walk_at "ev"
  simp only [ins_step, mth_sforth]
  walk_at "ev"
  simp only [sforth_eq R (o := b2.v) (row := forthF (fewer E F) E (fun p => p) s cut) (r := 0) rfl s0 s3 rz (by rw [forthF_len]), map_restI0, home_step R k2]
  walk_at "ev"
  simp only [alike_one (a := cut) (by omega)]
  walk_at "ev"
theorem seqX {A B : SF} {ρ ρ1 : VSt} {h h1 : VH} {v : VV} (e : A ρ h = .nx ρ1 h1) (k : ∃ h', B ρ1 h1 = .ret v h') : ∃ h', sSeq A B ρ h = .ret v h' := by
  obtain ⟨h', k⟩ := k
  exact ⟨h', (seqN e).trans k⟩
theorem above_in {E : List (List Int)} {F A : List Int} (R : FreeF E F A) : E.filter (fun g => subB F g && !decide (g = F)) = [A] := by
  rw [← above_eq R]
  unfold arnd
  rw [List.filter_filter]
  exact List.filter_congr fun g _ => Bool.and_comm _ _
theorem law_true : ∀ ns : List Int, ns.length ≤ 63 → (∀ z ∈ ns, Builtin.Int.intBits z ≤ 1048576) → ∃ h', F_law [.scr (ns.map VV.int)] [] = .ok (.bl true) h' := by
  intro ns _ _
  have key : ∃ h', B_law [some (.scr (ns.map VV.int)), none, none, none, none, none, none, none, none, none, none, none, none, none, none, none, none, none, none] [] = .ret (.bl true) h' := by
    obtain ⟨b0, e0⟩ := box_eq ns
    obtain ⟨fs, b1, e1, T, _⟩ := small_tops_eq b0
    have w := webf_clo T.pts
    have l := T.few.clo_len
    have ec : ∀ h : VH, F_law_closed [.lst (fs.map tupI)] h = .ok (.lst ((clo fs).map tupI)) h := fun h => closed_eq (fs := fs) (fun f hf => (T.pts f hf).le) (by have := T.len; omega) T.few.len
    generalize hEe : clo fs = E at *
    unfold B_law
    refine seqX (ρ1 := [some (.scr (ns.map VV.int)), some (.obj 0), none, none, none, none, none, none, none, none, none, none, none, none, none, none, none, none, none]) (h1 := [b0.v]) ?_ ?_
    · walk_at "ev"
      simp only [e0]
      walk_at "ev"
    refine seqX (ρ1 := [some (.scr (ns.map VV.int)), some (.obj 0), some (.lst (E.map tupI)), none, none, none, none, none, none, none, none, none, none, none, none, none, none, none, none]) (h1 := [b1.v]) ?_ ?_
    · walk_at "ev"
      simp only [e1]
      walk_at "ev"
      simp only [ec]
      walk_at "ev"
    refine seqX (ρ1 := [some (.scr (ns.map VV.int)), some (.obj 0), some (.lst (E.map tupI)), some (.lst ((freeL E).map tupI)), none, none, none, none, none, none, none, none, none, none, none, none, none, none, none]) (h1 := [b1.v]) ?_ ?_
    · walk_at "ev"
      simp only [law_free_eq w (by omega) (o := b1.v) rfl]
      walk_at "ev"
    have en : ∀ h : VH, opEq h (.lst ((freeL E).map tupI)) (.lst []) = some (.bl (decide (freeL E = []))) := fun h => eq_tups (m := [])
    by_cases c0 : freeL E = []
    · rw [s_seq]
      walk_at "ev"
      simp only [List.any_nil, Bool.false_eq_true, false_or]
      rw [if_neg (by decide)]
      walk_at "ev"
      simp only [en, decide_eq_true c0]
      walk_at "ev"
      exact ⟨_, rfl⟩
    refine seqX (ρ1 := [some (.scr (ns.map VV.int)), some (.obj 0), some (.lst (E.map tupI)), some (.lst ((freeL E).map tupI)), none, none, none, none, none, none, none, none, none, none, none, none, none, none, none]) (h1 := [b1.v]) ?_ ?_
    · walk_at "ev"
      simp only [List.any_nil, Bool.false_eq_true, false_or]
      rw [if_neg (by decide)]
      walk_at "ev"
      simp only [en, decide_eq_false c0]
      walk_at "ev"
    have hfl : (freeL E).length ≤ E.length := List.length_filter_le _ _
    have hfp := List.length_pos_iff.mpr c0
    obtain ⟨n, hn⟩ : ∃ n : Int, ((freeL E).length : Int) = n := ⟨_, rfl⟩
    obtain ⟨k, b2, e2, k0, k1⟩ := take1 b1 (m := n) (by omega) (Int.lt_of_lt_of_le (show n < 100 by omega) (by decide))
    obtain ⟨F, ex, hF⟩ := ix_tups (l := freeL E) (r := k) (h := [b2.v]) k0 (by omega)
    obtain ⟨hFE, hF2⟩ := List.mem_filter.mp hF
    obtain ⟨A, R⟩ := free_of w l hFE (by simpa using hF2)
    have hFl := (w.face F hFE).le
    refine seqX (ρ1 := [some (.scr (ns.map VV.int)), some (.obj 0), some (.lst (E.map tupI)), some (.lst ((freeL E).map tupI)), some (tupI F), none, none, none, none, none, none, none, none, none, none, none, none, none, none]) (h1 := [b2.v]) ?_ ?_
    · walk_at "ev"
      simp only [len_lst, List.length_map, hn]
      walk_at "ev"
      simp only [e2]
      walk_at "ev"
      simp only [ex]
      walk_at "ev"
    refine seqX (ρ1 := [some (.scr (ns.map VV.int)), some (.obj 0), some (.lst (E.map tupI)), some (.lst ((freeL E).map tupI)), some (tupI F), some (tupI A), none, none, none, none, none, none, none, none, none, none, none, none, none]) (h1 := [b2.v]) ?_ ?_
    · walk_at "ev"
      rw [if_neg (by rw [List.length_map]; show ¬ E.length > 16777216; omega)]
      simp only [wp, List.set_cons_zero, List.set_cons_succ]
      rw [lc_mapF (b := bNm 18) (e := eVar 18) tupI (fun g => subB F g && !decide (g = F)) tupI (ys := E) (fun g hg => ⟨_, rfl, by
        have hs := subs_op (f := F) (g := g) (ne := false) (h := [b2.v]) (by omega) (w.face g hg).pos (by have := (w.face g hg).le; omega)
        simp only [a_tand, a_val, a_bin, a_var, List.set_cons_zero, List.set_cons_succ, List.getElem?_cons_succ, List.getElem?_cons_zero, getV_some, bnd_ok, hs, lift_some, toB_bl, Bool.false_eq_true, if_false, ne_tupI]
        cases subB F g <;> simp, fun _ => ⟨rfl, rfl⟩⟩), afterL_ok, above_in R]
      walk_at "ev"
      rfl
    refine seqX (ρ1 := [some (.scr (ns.map VV.int)), some (.obj 0), some (.lst (E.map tupI)), some (.lst ((freeL E).map tupI)), some (tupI F), some (tupI A), some (.lst ((fewer E F).map tupI)), none, none, none, none, none, none, none, none, none, none, none, none]) (h1 := [b2.v]) ?_ ?_
    · walk_at "ev"
      rw [if_neg (by rw [List.length_map]; show ¬ E.length > 16777216; omega)]
      simp only [wp, List.set_cons_zero, List.set_cons_succ]
      rw [lc_mapF (b := bNm 18) (e := eVar 18) tupI (fun g => !decide (g ∈ [F, A])) tupI (ys := E) (fun g hg => ⟨_, rfl, by
        have hs : opInT true [b2.v] (tupI g) (.tup [tupI F, tupI A]) = some (.bl (true ^^ decide (g ∈ [F, A]))) := inT_tups (ks := [F, A])
        rw [Bool.true_xor] at hs
        simp only [a_val, a_bin, a_tup, a_cons, a_nil, a_var, List.set_cons_zero, List.set_cons_succ, List.getElem?_cons_succ, List.getElem?_cons_zero, getV_some, bnd_ok, List.any_cons, List.any_nil, obj_tupI, Bool.or_false, Bool.false_eq_true, false_or, List.length_cons, List.length_nil, Nat.reduceAdd]
        rw [if_neg (by decide)]
        simp only [bnd_ok, hs, lift_some, toB_bl], fun _ => ⟨rfl, rfl⟩⟩), afterL_ok, fewer_in R]
      walk_at "ev"
    refine seqX (ρ1 := [some (.scr (ns.map VV.int)), some (.obj 0), some (.lst (E.map tupI)), some (.lst ((freeL E).map tupI)), some (tupI F), some (tupI A), some (.lst ((fewer E F).map tupI)), some (stepV E F A), none, none, none, none, none, none, none, none, none, none, none]) (h1 := [b2.v]) ?_ ?_
    · walk_at "ev"
      simp only [list_lst]
      walk_at "ev"
      simp only [web_make' w (by omega) (o := b2.v) rfl]
      walk_at "ev"
      simp only [lesser_eq R b2]
      walk_at "ev"
    obtain ⟨r, b3, e3, hr⟩ := drests_ok b2
    refine seqX (ρ1 := [some (.scr (ns.map VV.int)), some (.obj 0), some (.lst (E.map tupI)), some (.lst ((freeL E).map tupI)), some (tupI F), some (tupI A), some (.lst ((fewer E F).map tupI)), some (stepV E F A), some (.int r), none, none, none, none, none, none, none, none, none, none]) (h1 := [b3.v]) ?_ ?_
    · walk_at "ev"
      simp only [e3]
      walk_at "ev"
    have it : ∀ (ρ : VSt) (h : VH), iRange1 (eC (.int 4)) ρ h = .ok (([0, 1, 2, 3] : List Int).map VV.int) h := fun _ _ => rfl
    rw [s_seq, s_for, it, sbd_ok]
    obtain ⟨ρ2, h2, e4, b4, o9, o10, o11, o12, o13, o14, o15, o16, o17, rfl, rfl⟩ := for_pre (b := bNm 9) (body := lb_law_1) VV.int
      (fun pre ρ h => ∃ (b : Bx) (o9 o10 o11 o12 o13 o14 o15 o16 o17 : Option VV), ρ = [some (.scr (ns.map VV.int)), some (.obj 0), some (.lst (E.map tupI)), some (.lst ((freeL E).map tupI)), some (tupI F), some (tupI A), some (.lst ((fewer E F).map tupI)), some (stepV E F A), some (.int r), o9, o10, o11, o12, o13, o14, o15, o16, o17, none] ∧ h = [b.v])
      ([0, 1, 2, 3] : List Int) (ρ := [some (.scr (ns.map VV.int)), some (.obj 0), some (.lst (E.map tupI)), some (.lst ((freeL E).map tupI)), some (tupI F), some (tupI A), some (.lst ((fewer E F).map tupI)), some (stepV E F A), some (.int r), none, none, none, none, none, none, none, none, none, none]) (h := [b3.v]) ⟨b3, none, none, none, none, none, none, none, none, none, rfl, rfl⟩ (by
        rintro pre s post ey ρ h ⟨b, o9, o10, o11, o12, o13, o14, o15, o16, o17, rfl, rfl⟩
        have hy : s ∈ ([0, 1, 2, 3] : List Int) := by rw [ey]; simp
        simp only [List.mem_cons, List.not_mem_nil, or_false] at hy
        obtain ⟨b', p10, p11, p12, p13, p14, p15, p16, p17, e⟩ := turn46 R (r := r) (s := s) hr (by omega) (by omega) (x0 := some (.scr (ns.map VV.int))) (x3 := some (.lst ((freeL E).map tupI))) (o10 := o10) (o11 := o11) (o12 := o12) (o13 := o13) (o14 := o14) (o15 := o15) (o16 := o16) (o17 := o17) b
        exact ⟨_, _, _, rfl, e, b', _, _, _, _, _, _, _, _, _, rfl, rfl⟩)
    rw [e4, thn_nx]
    walk_at "ev"
    exact ⟨_, rfl⟩
  obtain ⟨h', e⟩ := key
  unfold F_law
  simp only [fn_ap, List.map_cons, List.map_nil, List.length_cons, List.length_nil, List.cons_append, List.nil_append, Nat.reduceAdd, Nat.reduceSub, List.replicate_succ, List.replicate_zero]
  rw [e]
  exact ⟨_, rfl⟩
end L
namespace L
open PySem L2 J
def top (i : Nat) : Stmt := PySem.Challenge.pw_cupweb_k46_whole_rows_on_lesser_webs.main.body.getD i (.Pass ⟨0, 0, 0, 0⟩)
abbrev s_law_box : Stmt := top 37
abbrev s_law_mixed : Stmt := top 38
abbrev s_law_take : Stmt := top 39
abbrev s_law_points : Stmt := top 50
abbrev s_law_drawn_face : Stmt := top 51
abbrev s_law_drawn_tops : Stmt := top 52
abbrev s_law_subs : Stmt := top 47
abbrev s_law_fourwall : Stmt := top 53
abbrev s_law_small_tops : Stmt := top 54
abbrev s_law_closed : Stmt := top 48
abbrev s_law_free : Stmt := top 58
abbrev s_is_face : Stmt := top 16
abbrev s_own_faces : Stmt := top 17
abbrev s_Web_init : Stmt := inClass (top 19) 0
abbrev s_Web_has : Stmt := inClass (top 19) 4
abbrev s_within : Stmt := top 18
abbrev s_Web_around : Stmt := inClass (top 19) 6
abbrev s_sign : Stmt := top 26
abbrev s_sides : Stmt := top 29
abbrev s_Web_without : Stmt := inClass (top 19) 10
abbrev s_Web_faces : Stmt := inClass (top 19) 1
abbrev s_Map_image : Stmt := inClass (top 32) 1
abbrev s_Map_init : Stmt := inClass (top 32) 0
abbrev s_Step_init : Stmt := inClass (top 34) 0
abbrev s_lesser : Stmt := top 35
abbrev s_law_drawn_rests : Stmt := top 42
abbrev s_law_sized : Stmt := top 49
abbrev s_law_few : Stmt := top 41
abbrev s_law_sides : Stmt := top 55
abbrev s_law_lesser_row : Stmt := top 59
abbrev s_look_rests : Stmt := top 23
abbrev s_Web_many : Stmt := inClass (top 19) 2
abbrev s_look_row : Stmt := top 28
abbrev s_Step_parts : Stmt := inClass (top 34) 1
abbrev s_Web_place : Stmt := inClass (top 19) 5
abbrev s_rest : Stmt := top 24
abbrev s_rested : Stmt := top 25
abbrev s_Step_forth : Stmt := inClass (top 34) 2
abbrev s_law_rest : Stmt := top 43
abbrev s_law_rested : Stmt := top 44
abbrev s_law_alike : Stmt := top 40
abbrev s_law_border : Stmt := top 56
abbrev s_Step_back : Stmt := inClass (top 34) 3
abbrev s_law_whole_list : Stmt := top 46
abbrev s_law_sum : Stmt := top 45
abbrev s_law_rise : Stmt := top 57
abbrev s_in_order : Stmt := top 31
abbrev s_Map_led : Stmt := inClass (top 32) 2
abbrev s_Map_forth : Stmt := inClass (top 32) 3
abbrev s_law : Stmt := top 60
structure Blt (K : PySem.W.Frag) (mg : Str → Option Value) : Prop where
  n_all : mg "all" = none
  n_bool : mg "bool" = none
  n_enumerate : mg "enumerate" = none
  n_int : mg "int" = none
  n_isinstance : mg "isinstance" = none
  n_len : mg "len" = none
  n_list : mg "list" = none
  n_min : mg "min" = none
  n_range : mg "range" = none
  n_set : mg "set" = none
  n_sorted : mg "sorted" = none
  n_str : mg "str" = none
  n_sum : mg "sum" = none
  n_tuple : mg "tuple" = none
  n_zip : mg "zip" = none
  g_FACES_MOST : ∃ t, mg "FACES_MOST" = some (.int 120 t)
  g_POINTS_MOST : ∃ t, mg "POINTS_MOST" = some (.int 15 t)
  g_RESTS_MOST : ∃ t, mg "RESTS_MOST" = some (.int 60 t)
  g_SIZE_MOST : ∃ t, mg "SIZE_MOST" = some (.int 3 t)
  g_WHOLE : ∃ t, mg "WHOLE" = some (.int 0 t)
  f_Map_lead : ∀ C, mg "Map" = some (.ref C) → Cls K C ∧ NoAttr K C "lead"
  f_Map_one : ∀ C, mg "Map" = some (.ref C) → Cls K C ∧ NoAttr K C "one"
  f_Map_other : ∀ C, mg "Map" = some (.ref C) → Cls K C ∧ NoAttr K C "other"
  f_Step_elder : ∀ C, mg "Step" = some (.ref C) → Cls K C ∧ NoAttr K C "elder"
  f_Step_home : ∀ C, mg "Step" = some (.ref C) → Cls K C ∧ NoAttr K C "home"
  f_Step_later : ∀ C, mg "Step" = some (.ref C) → Cls K C ∧ NoAttr K C "later"
  f_Step_moved : ∀ C, mg "Step" = some (.ref C) → Cls K C ∧ NoAttr K C "moved"
  f_Web_places : ∀ C, mg "Web" = some (.ref C) → Cls K C ∧ NoAttr K C "places"
  f_Web_table : ∀ C, mg "Web" = some (.ref C) → Cls K C ∧ NoAttr K C "table"
section
variable {P : Program} {w : World} {K : PySem.W.Frag} {mg : Str → Option Value} {base : Heap}
theorem sc_law_box : FnScope ["_law_script", "_law_seed", "_law_cell"] ["_law_script"] (defScope s_law_box) := ⟨rfl, rfl, rfl, by decide +kernel, rfl, by decide +kernel, by decide +kernel⟩
theorem fn_law_box (B : Blt K mg) {f : Addr} {fd : FuncData} (D : Dm K "_law_box" "_law_box" s_law_box [] [] f fd) : FnOk P w K mg base (L2N.CX P w) 1 f fd ["_law_script"] (spF ⟨K, mg⟩ 1 F_law_box) :=
  fnokM_of (k := 0) (N := ["_law_script", "_law_seed", "_law_cell"]) (n := 3) D sc_law_box rfl (by decide) rfl fun cdv A outer s H E hr =>
      (js_cons (js_set (i := 1) sc_law_box.nd rfl (by first | exact Or.inl rfl | exact Or.inr rfl) j_int)
      (js_cons (js_for (passes_of rfl) rfl (ji_seq (j_sl (j_var 0 (pv 0)) jo_none (jo_some j_int))) (pg_name (i := 2) sc_law_box.nd rfl (by first | exact Or.inl rfl | exact Or.inr rfl)) (pat_nm 2) (js_one (js_set (i := 1) sc_law_box.nd rfl (by first | exact Or.inl rfl | exact Or.inr rfl) (j_bin or_mod (j_bin or_add (j_bin or_add (j_bin or_mul (j_var 1 (pv 1)) j_int) (j_var 2 (pv 2))) j_int) j_int))))
      (js_one (js_ret (j_lstO (ja_cons (j_callTy cr_listJ (by rfl) B.n_list (by decide +kernel) (ja_cons (j_sl (j_var 0 (pv 0)) jo_none (jo_some j_int)) ja_nil)) (ja_cons j_int (ja_cons j_int (ja_cons j_int (ja_cons (j_var 1 (pv 1)) ja_nil))))))))))
theorem ok_law_box_L0 (B : Blt K mg) {f : Addr} {fd : FuncData} (D : Dm K "_law_box" "_law_box" s_law_box [] [] f fd) (hm : mg "_law_box" = some (.ref f)) : Ok1 P w K mg base 1 "_law_box" 1 [] F_law_box := ok_of ⟨D.F, hm⟩ (fn_law_box B D) (fun _ _ _ _ _ _ us hl => match us, hl with | [_], _ => rfl)
theorem sc_law_mixed : FnScope ["_law_number", "_law_turn", "_law_one", "_law_two"] ["_law_number", "_law_turn"] (defScope s_law_mixed) := ⟨rfl, rfl, rfl, by decide +kernel, rfl, by decide +kernel, by decide +kernel⟩
theorem fn_law_mixed (B : Blt K mg) {f : Addr} {fd : FuncData} (D : Dm K "_law_mixed" "_law_mixed" s_law_mixed [] [] f fd) : FnOk P w K mg base (L2N.CX P w) 1 f fd ["_law_number", "_law_turn"] (spF ⟨K, mg⟩ 2 F_law_mixed) :=
  fnokM_of (k := 0) (N := ["_law_number", "_law_turn", "_law_one", "_law_two"]) (n := 4) D sc_law_mixed rfl (by decide) rfl fun cdv A outer s H E hr =>
      (js_cons (js_set (i := 2) sc_law_mixed.nd rfl (by first | exact Or.inl rfl | exact Or.inr rfl) (j_bin or_mod (j_bin or_add (j_bin or_add (j_bin or_mul (j_var 0 (pv 0)) j_int) (j_bin or_mul (j_var 1 (pv 1)) j_int)) j_int) j_int))
      (js_cons (js_set (i := 3) sc_law_mixed.nd rfl (by first | exact Or.inl rfl | exact Or.inr rfl) (j_bin or_mod (j_bin or_add (j_bin or_add (j_bin or_mul (j_var 2 (pv 2)) (j_bin or_add (j_bin or_mod (j_var 2 (pv 2)) j_int) j_int)) (j_bin or_mul (j_var 1 (pv 1)) j_int)) (j_bin or_mod (j_var 0 (pv 0)) j_int)) j_int))
      (js_one (js_ret (j_bin or_fdiv (j_var 3 (pv 3)) j_int)))))
theorem ok_law_mixed_L0 (B : Blt K mg) {f : Addr} {fd : FuncData} (D : Dm K "_law_mixed" "_law_mixed" s_law_mixed [] [] f fd) (hm : mg "_law_mixed" = some (.ref f)) : Ok1 P w K mg base 1 "_law_mixed" 2 [] F_law_mixed := ok_of ⟨D.F, hm⟩ (fn_law_mixed B D) (fun _ _ _ _ _ _ us hl => match us, hl with | [_, _], _ => rfl)
theorem sc_law_take : FnScope ["_law_box_here", "_law_many", "_law_cell", "_law_left"] ["_law_box_here", "_law_many"] (defScope s_law_take) := ⟨rfl, rfl, rfl, by decide +kernel, rfl, by decide +kernel, by decide +kernel⟩
theorem fn_law_take (B : Blt K mg) {f : Addr} {fd : FuncData} (D : Dm K "_law_take" "_law_take" s_law_take [] [] f fd) (O_law_mixed_L0 : Ok1 P w K mg base 1 "_law_mixed" 2 [] F_law_mixed) : FnOk P w K mg base (L2N.CX P w) 2 f fd ["_law_box_here", "_law_many"] (spF ⟨K, mg⟩ 2 F_law_take) :=
  fnokM_of (k := 1) (N := ["_law_box_here", "_law_many", "_law_cell", "_law_left"]) (n := 4) D sc_law_take rfl (by decide) rfl fun cdv A outer s H E hr =>
      (js_cons (js_setI (j_bin or_add (j_ix ir_ix (j_var 0 (pv 0)) j_int (fun _ _ => rfl)) j_int) (j_var 0 (pv 0)) j_int)
      (js_cons (js_if (jt_cmp or_gt (j_ix ir_ix (j_var 0 (pv 0)) j_int (fun _ _ => rfl)) j_int (nomark _)) (js_cons (js_set (i := 3) sc_law_take.nd rfl (by first | exact Or.inl rfl | exact Or.inr rfl) (j_ix ir_ix (j_var 0 (pv 0)) j_int (fun _ _ => rfl)))
      (js_cons (js_setI (j_bin or_fdiv (j_var 3 (pv 3)) (j_var 1 (pv 1))) (j_var 0 (pv 0)) j_int)
      (js_one (js_ret (j_bin or_mod (j_var 3 (pv 3)) (j_var 1 (pv 1))))))) js_nil)
      (js_cons (js_if (jt_cmp or_ge (j_ix ir_ix (j_var 0 (pv 0)) j_int (fun _ _ => rfl)) (j_callB cr_len (by rfl) B.n_len (by decide +kernel) (ja_cons (j_ix ir_ix (j_var 0 (pv 0)) j_int (fun _ _ => rfl)) ja_nil)) (nomark _)) (js_one (js_ret (j_bin or_mod (j_callO O_law_mixed_L0 (hr.mono (by decide)) (by rfl) (L2N.takes_of rfl rfl rfl rfl) (ja_cons (j_ix ir_ix (j_var 0 (pv 0)) j_int (fun _ _ => rfl)) (ja_cons (j_ix ir_ix (j_var 0 (pv 0)) j_int (fun _ _ => rfl)) ja_nil))) (j_var 1 (pv 1))))) js_nil)
      (js_cons (js_set (i := 2) sc_law_take.nd rfl (by first | exact Or.inl rfl | exact Or.inr rfl) (j_ix ir_ix (j_ix ir_ix (j_var 0 (pv 0)) j_int (fun _ _ => rfl)) (j_ix ir_ix (j_var 0 (pv 0)) j_int (fun _ _ => rfl)) (fun _ _ => rfl)))
      (js_cons (js_setI (j_bin or_add (j_ix ir_ix (j_var 0 (pv 0)) j_int (fun _ _ => rfl)) j_int) (j_var 0 (pv 0)) j_int)
      (js_cons (js_if (jt_cmp or_lt (j_var 2 (pv 2)) (j_bin or_pow j_int j_int) (nomark _)) (js_one (js_ret (j_bin or_mod (j_callO O_law_mixed_L0 (hr.mono (by decide)) (by rfl) (L2N.takes_of rfl rfl rfl rfl) (ja_cons (j_var 2 (pv 2)) (ja_cons (j_ix ir_ix (j_var 0 (pv 0)) j_int (fun _ _ => rfl)) ja_nil))) (j_var 1 (pv 1))))) js_nil)
      (js_cons (js_setI (j_bin or_fdiv (j_var 2 (pv 2)) (j_var 1 (pv 1))) (j_var 0 (pv 0)) j_int)
      (js_one (js_ret (j_bin or_mod (j_var 2 (pv 2)) (j_var 1 (pv 1))))))))))))
theorem ok_law_take_L0 (B : Blt K mg) {f : Addr} {fd : FuncData} (D : Dm K "_law_take" "_law_take" s_law_take [] [] f fd) (O_law_mixed_L0 : Ok1 P w K mg base 1 "_law_mixed" 2 [] F_law_mixed) (hm : mg "_law_take" = some (.ref f)) : Ok1 P w K mg base 2 "_law_take" 2 [] F_law_take := ok_of ⟨D.F, hm⟩ (fn_law_take B D O_law_mixed_L0) (fun _ _ _ _ _ _ us hl => match us, hl with | [_, _], _ => rfl)
theorem sc_law_points : FnScope ["_law_box_here", "_law_many", "_law_pool", "_law_found", "_law_k"] ["_law_box_here", "_law_many"] (defScope s_law_points) := ⟨rfl, rfl, rfl, by decide +kernel, rfl, by decide +kernel, by decide +kernel⟩
theorem fn_law_points (B : Blt K mg) {f : Addr} {fd : FuncData} (D : Dm K "_law_points" "_law_points" s_law_points [] [] f fd) (O_law_take_L0 : Ok1 P w K mg base 2 "_law_take" 2 [] F_law_take) : FnOk P w K mg base (L2N.CX P w) 3 f fd ["_law_box_here", "_law_many"] (spF ⟨K, mg⟩ 2 F_law_points) :=
  fnokM_of (k := 2) (N := ["_law_box_here", "_law_many", "_law_pool", "_law_found", "_law_k"]) (n := 5) D sc_law_points rfl (by decide) rfl fun cdv A outer s H E hr =>
      (js_cons (js_set (i := 2) sc_law_points.nd rfl (by first | exact Or.inl rfl | exact Or.inr rfl) (j_listRngO rfl (by rfl) B.n_list (by rfl) B.n_range j_int))
      (js_cons (js_set (i := 3) sc_law_points.nd rfl (by first | exact Or.inl rfl | exact Or.inr rfl) (j_lstO ja_nil))
      (js_cons (js_for (passes_of rfl) rfl (ji_range1 (by rfl) B.n_range (j_var 1 (pv 1))) (pg_name (i := 4) sc_law_points.nd rfl (by first | exact Or.inl rfl | exact Or.inr rfl)) (pat_nm 4) (js_one (js_expr (j_app (j_var 3 (pv 3)) (j_pop (j_var 2 (pv 2)) (j_callO O_law_take_L0 (hr.mono (by decide)) (by rfl) (L2N.takes_of rfl rfl rfl rfl) (ja_cons (j_var 0 (pv 0)) (ja_cons (j_callB cr_len (by rfl) B.n_len (by decide +kernel) (ja_cons (j_var 2 (pv 2)) ja_nil)) ja_nil))))))))
      (js_one (js_ret (j_frzD (j_var 3 (pv 3))))))))
theorem ok_law_points_L0 (B : Blt K mg) {f : Addr} {fd : FuncData} (D : Dm K "_law_points" "_law_points" s_law_points [] [] f fd) (O_law_take_L0 : Ok1 P w K mg base 2 "_law_take" 2 [] F_law_take) (hm : mg "_law_points" = some (.ref f)) : Ok1 P w K mg base 3 "_law_points" 2 [] F_law_points := ok_of ⟨D.F, hm⟩ (fn_law_points B D O_law_take_L0) (fun _ _ _ _ _ _ us hl => match us, hl with | [_, _], _ => rfl)
theorem sc_law_drawn_face : FnScope ["_law_box_here", "_law_points_here", "_law_biggest", "_law_some", "_law_face", "_law_k"] ["_law_box_here", "_law_points_here", "_law_biggest"] (defScope s_law_drawn_face) := ⟨rfl, rfl, rfl, by decide +kernel, rfl, by decide +kernel, by decide +kernel⟩
theorem fn_law_drawn_face (B : Blt K mg) {f : Addr} {fd : FuncData} (D : Dm K "_law_drawn_face" "_law_drawn_face" s_law_drawn_face [] [] f fd) (O_law_take_L0 : Ok1 P w K mg base 2 "_law_take" 2 [] F_law_take) : FnOk P w K mg base (L2N.CX P w) 3 f fd ["_law_box_here", "_law_points_here", "_law_biggest"] (spF ⟨K, mg⟩ 3 F_law_drawn_face) :=
  fnokM_of (k := 2) (N := ["_law_box_here", "_law_points_here", "_law_biggest", "_law_some", "_law_face", "_law_k"]) (n := 6) D sc_law_drawn_face rfl (by decide) rfl fun cdv A outer s H E hr =>
      (js_cons (js_set (i := 3) sc_law_drawn_face.nd rfl (by first | exact Or.inl rfl | exact Or.inr rfl) (j_callTyO cr_listO (by rfl) B.n_list (by decide +kernel) (ja_cons (j_var 1 (pv 1)) ja_nil)))
      (js_cons (js_set (i := 4) sc_law_drawn_face.nd rfl (by first | exact Or.inl rfl | exact Or.inr rfl) (j_lstO ja_nil))
      (js_cons (js_for (passes_of rfl) rfl (ji_range1 (by rfl) B.n_range (j_callB (cr_minJ rfl) (by rfl) B.n_min (by decide +kernel) (ja_cons (j_callB cr_len (by rfl) B.n_len (by decide +kernel) (ja_cons (j_var 3 (pv 3)) ja_nil)) (ja_cons (j_bin or_add j_int (j_callO O_law_take_L0 (hr.mono (by decide)) (by rfl) (L2N.takes_of rfl rfl rfl rfl) (ja_cons (j_var 0 (pv 0)) (ja_cons (j_bin or_add (j_var 2 (pv 2)) j_int) ja_nil)))) ja_nil)))) (pg_name (i := 5) sc_law_drawn_face.nd rfl (by first | exact Or.inl rfl | exact Or.inr rfl)) (pat_nm 5) (js_one (js_expr (j_app (j_var 4 (pv 4)) (j_pop (j_var 3 (pv 3)) (j_callO O_law_take_L0 (hr.mono (by decide)) (by rfl) (L2N.takes_of rfl rfl rfl rfl) (ja_cons (j_var 0 (pv 0)) (ja_cons (j_callB cr_len (by rfl) B.n_len (by decide +kernel) (ja_cons (j_var 3 (pv 3)) ja_nil)) ja_nil))))))))
      (js_one (js_ret (j_callTy cr_tupleJ (by rfl) B.n_tuple (by decide +kernel) (ja_cons (j_frzD (j_var 4 (pv 4))) ja_nil)))))))
theorem ok_law_drawn_face_L0 (B : Blt K mg) {f : Addr} {fd : FuncData} (D : Dm K "_law_drawn_face" "_law_drawn_face" s_law_drawn_face [] [] f fd) (O_law_take_L0 : Ok1 P w K mg base 2 "_law_take" 2 [] F_law_take) (hm : mg "_law_drawn_face" = some (.ref f)) : Ok1 P w K mg base 3 "_law_drawn_face" 3 [] F_law_drawn_face := ok_of ⟨D.F, hm⟩ (fn_law_drawn_face B D O_law_take_L0) (fun _ _ _ _ _ _ us hl => match us, hl with | [_, _, _], _ => rfl)
theorem sc_law_drawn_tops : FnScope ["_law_box_here", "_law_most_points", "_law_most_tops", "_law_biggest", "_law_points_here", "_law_k"] ["_law_box_here", "_law_most_points", "_law_most_tops", "_law_biggest"] (defScope s_law_drawn_tops) := ⟨rfl, rfl, rfl, by decide +kernel, rfl, by decide +kernel, by decide +kernel⟩
theorem fn_law_drawn_tops (B : Blt K mg) {f : Addr} {fd : FuncData} (D : Dm K "_law_drawn_tops" "_law_drawn_tops" s_law_drawn_tops [] [] f fd) (O_law_take_L0 : Ok1 P w K mg base 2 "_law_take" 2 [] F_law_take) (O_law_points_L0 : Ok1 P w K mg base 3 "_law_points" 2 [] F_law_points) (O_law_drawn_face_L0 : Ok1 P w K mg base 3 "_law_drawn_face" 3 [] F_law_drawn_face) : FnOk P w K mg base (L2N.CX P w) 4 f fd ["_law_box_here", "_law_most_points", "_law_most_tops", "_law_biggest"] (spF ⟨K, mg⟩ 4 F_law_drawn_tops) :=
  fnokM_of (k := 3) (N := ["_law_box_here", "_law_most_points", "_law_most_tops", "_law_biggest", "_law_points_here", "_law_k"]) (n := 6) D sc_law_drawn_tops rfl (by decide) rfl fun cdv A outer s H E hr =>
      (js_cons (js_set (i := 4) sc_law_drawn_tops.nd rfl (by first | exact Or.inl rfl | exact Or.inr rfl) (j_callO O_law_points_L0 (hr.mono (by decide)) (by rfl) (L2N.takes_of rfl rfl rfl rfl) (ja_cons (j_var 0 (pv 0)) (ja_cons (j_bin or_add j_int (j_callO O_law_take_L0 (hr.mono (by decide)) (by rfl) (L2N.takes_of rfl rfl rfl rfl) (ja_cons (j_var 0 (pv 0)) (ja_cons (j_var 1 (pv 1)) ja_nil)))) ja_nil))))
      (js_one (js_ret (j_lc rfl sc_law_drawn_tops.nd (ji_range1 (by rfl) B.n_range (j_callO O_law_take_L0 (hr.mono (by decide)) (by rfl) (L2N.takes_of rfl rfl rfl rfl) (ja_cons (j_var 0 (pv 0)) (ja_cons (j_bin or_add (j_var 2 (pv 2)) j_int) ja_nil)))) (blkOk_by (own := [("_law_k", 5)]) (by kernel_rfl)) (fun _ _ _ _ _ => (pg_name (i := 5) sc_law_drawn_tops.nd rfl (by first | exact Or.inl rfl | exact Or.inr rfl))) (pat_nm 5) (fun _ _ _ _ _ => jts_nil) (fun _ _ _ _ _ => (j_callO O_law_drawn_face_L0 (hr.mono (by decide)) (by rfl) takesN0 (ja_cons (j_var 0 (pv 0)) (ja_cons (j_var 4 (pv 4)) (ja_cons (j_var 3 (pv 3)) ja_nil)))))))))
theorem ok_law_drawn_tops_L0 (B : Blt K mg) {f : Addr} {fd : FuncData} (D : Dm K "_law_drawn_tops" "_law_drawn_tops" s_law_drawn_tops [] [] f fd) (O_law_take_L0 : Ok1 P w K mg base 2 "_law_take" 2 [] F_law_take) (O_law_points_L0 : Ok1 P w K mg base 3 "_law_points" 2 [] F_law_points) (O_law_drawn_face_L0 : Ok1 P w K mg base 3 "_law_drawn_face" 3 [] F_law_drawn_face) (hm : mg "_law_drawn_tops" = some (.ref f)) : Ok1 P w K mg base 4 "_law_drawn_tops" 4 [] F_law_drawn_tops := ok_of ⟨D.F, hm⟩ (fn_law_drawn_tops B D O_law_take_L0 O_law_points_L0 O_law_drawn_face_L0) (fun _ _ _ _ _ _ us hl => match us, hl with | [_, _, _, _], _ => rfl)
theorem sc_law_subs : FnScope ["_law_face", "_law_found", "_law_point", "_law_some"] ["_law_face"] (defScope s_law_subs) := ⟨rfl, rfl, rfl, by decide +kernel, rfl, by decide +kernel, by decide +kernel⟩
theorem fn_law_subs (B : Blt K mg) {f : Addr} {fd : FuncData} (D : Dm K "_law_subs" "_law_subs" s_law_subs [] [] f fd) : FnOk P w K mg base (L2N.CX P w) 1 f fd ["_law_face"] (spF ⟨K, mg⟩ 1 F_law_subs) :=
  fnokM_of (k := 0) (N := ["_law_face", "_law_found", "_law_point", "_law_some"]) (n := 4) D sc_law_subs rfl (by decide) rfl fun cdv A outer s H E hr =>
      (js_cons (js_set (i := 1) sc_law_subs.nd rfl (by first | exact Or.inl rfl | exact Or.inr rfl) (j_lst (ja_cons (j_tup ja_nil) ja_nil)))
      (js_cons (js_for (passes_of rfl) rfl (ji_seq (j_callB (cr_sortedJ hr.units) (by rfl) B.n_sorted (by decide +kernel) (ja_cons (j_var 0 (pv 0)) ja_nil))) (pg_name (i := 2) sc_law_subs.nd rfl (by first | exact Or.inl rfl | exact Or.inr rfl)) (pat_nm 2) (js_one (js_set (i := 1) sc_law_subs.nd rfl (by first | exact Or.inl rfl | exact Or.inr rfl) (j_bin or_add (j_var 1 (pv 1)) (j_lc rfl sc_law_subs.nd (ji_seq (j_var 1 (pv 1))) (blkOk_by (own := [("_law_some", 3)]) (by kernel_rfl)) (fun _ _ _ _ _ => (pg_name (i := 3) sc_law_subs.nd rfl (by first | exact Or.inl rfl | exact Or.inr rfl))) (pat_nm 3) (fun _ _ _ _ _ => jts_nil) (fun _ _ _ _ _ => (j_bin or_add (j_var 3 (pv 3)) (j_tup (ja_cons (j_var 2 (pv 2)) ja_nil)))))))))
      (js_one (js_ret (j_sl (j_var 1 (pv 1)) (jo_some j_int) jo_none)))))
theorem ok_law_subs_L0 (B : Blt K mg) {f : Addr} {fd : FuncData} (D : Dm K "_law_subs" "_law_subs" s_law_subs [] [] f fd) (hm : mg "_law_subs" = some (.ref f)) : Ok1 P w K mg base 1 "_law_subs" 1 [] F_law_subs := ok_of ⟨D.F, hm⟩ (fn_law_subs B D) (fun _ _ _ _ _ _ us hl => match us, hl with | [_], _ => rfl)
theorem sc_law_fourwall : FnScope ["_law_points_here", "_law_biggest", "_law_found", "_law_face"] ["_law_points_here", "_law_biggest"] (defScope s_law_fourwall) := ⟨rfl, rfl, rfl, by decide +kernel, rfl, by decide +kernel, by decide +kernel⟩
theorem fn_law_fourwall (B : Blt K mg) {f : Addr} {fd : FuncData} (D : Dm K "_law_fourwall" "_law_fourwall" s_law_fourwall [] [] f fd) (O_law_subs_L0 : Ok1 P w K mg base 1 "_law_subs" 1 [] F_law_subs) : FnOk P w K mg base (L2N.CX P w) 2 f fd ["_law_points_here", "_law_biggest"] (spF ⟨K, mg⟩ 2 F_law_fourwall) :=
  fnokM_of (k := 1) (N := ["_law_points_here", "_law_biggest", "_law_found", "_law_face"]) (n := 4) D sc_law_fourwall rfl (by decide) rfl fun cdv A outer s H E hr =>
      (js_cons (js_set (i := 2) sc_law_fourwall.nd rfl (by first | exact Or.inl rfl | exact Or.inr rfl) (j_lstO ja_nil))
      (js_cons (js_for (passes_of rfl) rfl (ji_seq (j_callO O_law_subs_L0 (hr.mono (by decide)) (by rfl) (L2N.takes_of rfl rfl rfl rfl) (ja_cons (j_var 0 (pv 0)) ja_nil))) (pg_name (i := 3) sc_law_fourwall.nd rfl (by first | exact Or.inl rfl | exact Or.inr rfl)) (pat_nm 3) (js_one (js_if (jt_cmp (or_eq hr) (j_callB cr_len (by rfl) B.n_len (by decide +kernel) (ja_cons (j_var 3 (pv 3)) ja_nil)) (j_bin or_add (j_var 1 (pv 1)) j_int) (nomark _)) (js_one (js_expr (j_app (j_var 2 (pv 2)) (j_var 3 (pv 3))))) js_nil)))
      (js_one (js_ret (j_frzD (j_var 2 (pv 2)))))))
theorem ok_law_fourwall_L0 (B : Blt K mg) {f : Addr} {fd : FuncData} (D : Dm K "_law_fourwall" "_law_fourwall" s_law_fourwall [] [] f fd) (O_law_subs_L0 : Ok1 P w K mg base 1 "_law_subs" 1 [] F_law_subs) (hm : mg "_law_fourwall" = some (.ref f)) : Ok1 P w K mg base 2 "_law_fourwall" 2 [] F_law_fourwall := ok_of ⟨D.F, hm⟩ (fn_law_fourwall B D O_law_subs_L0) (fun _ _ _ _ _ _ us hl => match us, hl with | [_, _], _ => rfl)
theorem sc_law_small_tops : FnScope ["_law_box_here", "_law_way"] ["_law_box_here"] (defScope s_law_small_tops) := ⟨rfl, rfl, rfl, by decide +kernel, rfl, by decide +kernel, by decide +kernel⟩
theorem fn_law_small_tops (B : Blt K mg) {f : Addr} {fd : FuncData} (D : Dm K "_law_small_tops" "_law_small_tops" s_law_small_tops [] [] f fd) (O_law_take_L0 : Ok1 P w K mg base 2 "_law_take" 2 [] F_law_take) (O_law_drawn_tops_L0 : Ok1 P w K mg base 4 "_law_drawn_tops" 4 [] F_law_drawn_tops) (O_law_points_L0 : Ok1 P w K mg base 3 "_law_points" 2 [] F_law_points) (O_law_fourwall_L0 : Ok1 P w K mg base 2 "_law_fourwall" 2 [] F_law_fourwall) : FnOk P w K mg base (L2N.CX P w) 5 f fd ["_law_box_here"] (spF ⟨K, mg⟩ 1 F_law_small_tops) :=
  fnokM_of (k := 4) (N := ["_law_box_here", "_law_way"]) (n := 2) D sc_law_small_tops rfl (by decide) rfl fun cdv A outer s H E hr =>
      (js_cons (js_set (i := 1) sc_law_small_tops.nd rfl (by first | exact Or.inl rfl | exact Or.inr rfl) (j_callO O_law_take_L0 (hr.mono (by decide)) (by rfl) (L2N.takes_of rfl rfl rfl rfl) (ja_cons (j_var 0 (pv 0)) (ja_cons j_int ja_nil))))
      (js_cons (js_if (jt_cmp or_lt (j_var 1 (pv 1)) j_int (nomark _)) (js_one (js_ret (j_callO O_law_drawn_tops_L0 (hr.mono (by decide)) (by rfl) (L2N.takes_of rfl rfl rfl rfl) (ja_cons (j_var 0 (pv 0)) (ja_cons j_int (ja_cons j_int (ja_cons j_int ja_nil))))))) js_nil)
      (js_cons (js_if (jt_cmp (or_eq hr) (j_var 1 (pv 1)) j_int (nomark _)) (js_one (js_ret (j_callO O_law_drawn_tops_L0 (hr.mono (by decide)) (by rfl) (L2N.takes_of rfl rfl rfl rfl) (ja_cons (j_var 0 (pv 0)) (ja_cons j_int (ja_cons j_int (ja_cons j_int ja_nil))))))) js_nil)
      (js_one (js_ret (j_callO O_law_fourwall_L0 (hr.mono (by decide)) (by rfl) (L2N.takes_of rfl rfl rfl rfl) (ja_cons (j_callO O_law_points_L0 (hr.mono (by decide)) (by rfl) (L2N.takes_of rfl rfl rfl rfl) (ja_cons (j_var 0 (pv 0)) (ja_cons (j_bin or_add j_int (j_callO O_law_take_L0 (hr.mono (by decide)) (by rfl) (L2N.takes_of rfl rfl rfl rfl) (ja_cons (j_var 0 (pv 0)) (ja_cons j_int ja_nil)))) ja_nil))) (ja_cons (j_bin or_add j_int (j_callO O_law_take_L0 (hr.mono (by decide)) (by rfl) (L2N.takes_of rfl rfl rfl rfl) (ja_cons (j_var 0 (pv 0)) (ja_cons j_int ja_nil)))) ja_nil))))))))
theorem ok_law_small_tops_L0 (B : Blt K mg) {f : Addr} {fd : FuncData} (D : Dm K "_law_small_tops" "_law_small_tops" s_law_small_tops [] [] f fd) (O_law_take_L0 : Ok1 P w K mg base 2 "_law_take" 2 [] F_law_take) (O_law_drawn_tops_L0 : Ok1 P w K mg base 4 "_law_drawn_tops" 4 [] F_law_drawn_tops) (O_law_points_L0 : Ok1 P w K mg base 3 "_law_points" 2 [] F_law_points) (O_law_fourwall_L0 : Ok1 P w K mg base 2 "_law_fourwall" 2 [] F_law_fourwall) (hm : mg "_law_small_tops" = some (.ref f)) : Ok1 P w K mg base 5 "_law_small_tops" 1 [] F_law_small_tops := ok_of ⟨D.F, hm⟩ (fn_law_small_tops B D O_law_take_L0 O_law_drawn_tops_L0 O_law_points_L0 O_law_fourwall_L0) (fun _ _ _ _ _ _ us hl => match us, hl with | [_], _ => rfl)
theorem sc_law_closed : FnScope ["_law_tops", "_law_found", "_law_face"] ["_law_tops"] (defScope s_law_closed) := ⟨rfl, rfl, rfl, by decide +kernel, rfl, by decide +kernel, by decide +kernel⟩
theorem fn_law_closed (B : Blt K mg) {f : Addr} {fd : FuncData} (D : Dm K "_law_closed" "_law_closed" s_law_closed [] [] f fd) (O_law_subs_L0 : Ok1 P w K mg base 1 "_law_subs" 1 [] F_law_subs) : FnOk P w K mg base (L2N.CX P w) 2 f fd ["_law_tops"] (spF ⟨K, mg⟩ 1 F_law_closed) :=
  fnokM_of (k := 1) (N := ["_law_tops", "_law_found", "_law_face"]) (n := 3) D sc_law_closed rfl (by decide) rfl fun cdv A outer s H E hr =>
      (js_cons (js_set (i := 1) sc_law_closed.nd rfl (by first | exact Or.inl rfl | exact Or.inr rfl) (j_lst ja_nil))
      (js_cons (js_for (passes_of rfl) rfl (ji_seq (j_var 0 (pv 0))) (pg_name (i := 2) sc_law_closed.nd rfl (by first | exact Or.inl rfl | exact Or.inr rfl)) (pat_nm 2) (js_one (js_set (i := 1) sc_law_closed.nd rfl (by first | exact Or.inl rfl | exact Or.inr rfl) (j_bin or_add (j_var 1 (pv 1)) (j_callO O_law_subs_L0 (hr.mono (by decide)) (by rfl) (L2N.takes_of rfl rfl rfl rfl) (ja_cons (j_var 2 (pv 2)) ja_nil))))))
      (js_one (js_ret (j_sortSet hr rfl (by rfl) B.n_sorted (by rfl) B.n_set (j_var 1 (pv 1)))))))
theorem ok_law_closed_L0 (B : Blt K mg) {f : Addr} {fd : FuncData} (D : Dm K "_law_closed" "_law_closed" s_law_closed [] [] f fd) (O_law_subs_L0 : Ok1 P w K mg base 1 "_law_subs" 1 [] F_law_subs) (hm : mg "_law_closed" = some (.ref f)) : Ok1 P w K mg base 2 "_law_closed" 1 [] F_law_closed := ok_of ⟨D.F, hm⟩ (fn_law_closed B D O_law_subs_L0) (fun _ _ _ _ _ _ us hl => match us, hl with | [_], _ => rfl)
theorem sc_law_free : FnScope ["_law_every", "_law_found", "_law_face", "_law_other"] ["_law_every"] (defScope s_law_free) := ⟨rfl, rfl, rfl, by decide +kernel, rfl, by decide +kernel, by decide +kernel⟩
theorem fn_law_free (B : Blt K mg) {f : Addr} {fd : FuncData} (D : Dm K "_law_free" "_law_free" s_law_free [] [] f fd) : FnOk P w K mg base (L2N.CX P w) 1 f fd ["_law_every"] (spF ⟨K, mg⟩ 1 F_law_free) :=
  fnokM_of (k := 0) (N := ["_law_every", "_law_found", "_law_face", "_law_other"]) (n := 4) D sc_law_free rfl (by decide) rfl fun cdv A outer s H E hr =>
      (js_cons (js_set (i := 1) sc_law_free.nd rfl (by first | exact Or.inl rfl | exact Or.inr rfl) (j_lstO ja_nil))
      (js_cons (js_for (passes_of rfl) rfl (ji_seq (j_var 0 (pv 0))) (pg_name (i := 2) sc_law_free.nd rfl (by first | exact Or.inl rfl | exact Or.inr rfl)) (pat_nm 2) (js_one (js_if (jt_cmp (or_eq hr) (j_callB cr_len (by rfl) B.n_len (by decide +kernel) (ja_cons (j_lc rfl sc_law_free.nd (ji_seq (j_var 0 (pv 0))) (blkOk_by (own := [("_law_other", 3)]) (by kernel_rfl)) (fun _ _ _ _ _ => (pg_name (i := 3) sc_law_free.nd rfl (by first | exact Or.inl rfl | exact Or.inr rfl))) (pat_nm 3) (fun _ _ _ _ _ => (jts_one (jt_setSub (ne := false) hr rfl (by rfl) B.n_set (j_var 2 (pv 2)) (pv 3)))) (fun _ _ _ _ _ => (j_var 3 (pv 3)))) ja_nil)) j_int (nomark _)) (js_one (js_expr (j_app (j_var 1 (pv 1)) (j_var 2 (pv 2))))) js_nil)))
      (js_one (js_ret (j_frzD (j_var 1 (pv 1)))))))
theorem ok_law_free_L0 (B : Blt K mg) {f : Addr} {fd : FuncData} (D : Dm K "_law_free" "_law_free" s_law_free [] [] f fd) (hm : mg "_law_free" = some (.ref f)) : Ok1 P w K mg base 1 "_law_free" 1 [] F_law_free := ok_of ⟨D.F, hm⟩ (fn_law_free B D) (fun _ _ _ _ _ _ us hl => match us, hl with | [_], _ => rfl)
theorem sc_is_face : FnScope ["face", "point"] ["face"] (defScope s_is_face) := ⟨rfl, rfl, rfl, by decide +kernel, rfl, by decide +kernel, by decide +kernel⟩
theorem fn_is_face (B : Blt K mg) {f : Addr} {fd : FuncData} (D : Dm K "is_face" "is_face" s_is_face [] [] f fd) : FnOk P w K mg base (L2N.CX P w) 1 f fd ["face"] (spF ⟨K, mg⟩ 1 F_is_face) :=
  fnokM_of (k := 0) (N := ["face", "point"]) (n := 2) D sc_is_face rfl (by decide) rfl fun cdv A outer s H E hr =>
      (js_cons (js_if (PW.pt (jw_or (jt_not (jt_chain or_le or_le j_int (j_callB cr_len (by rfl) B.n_len (by decide +kernel) (ja_cons (j_var 0 (pv 0)) ja_nil)) (j_bin or_add (j_globI (by rfl) B.g_SIZE_MOST) j_int))) (jw_or1 (jt_cmp or_lt (j_lenSc rfl sc_is_face.nd (by rfl) B.n_len (ji_seq (j_var 0 (pv 0))) (blkOk_by (own := [("point", 1)]) (by kernel_rfl)) (fun _ _ _ _ _ => (pg_name (i := 1) sc_is_face.nd rfl (by first | exact Or.inl rfl | exact Or.inr rfl))) (pat_nm 1) (fun _ _ _ _ _ => (j_var 1 (pv 1)))) (j_callB cr_len (by rfl) B.n_len (by decide +kernel) (ja_cons (j_var 0 (pv 0)) ja_nil)) (nomark _))))) (js_one (js_ret j_bl)) js_nil)
      (js_one (js_ret (j_callB (cr_allJ rfl) (by rfl) B.n_all (by decide +kernel) (ja_cons (j_lc rfl sc_is_face.nd (ji_seq (j_var 0 (pv 0))) (blkOk_by (own := [("point", 1)]) (by kernel_rfl)) (fun _ _ _ _ _ => (pg_name (i := 1) sc_is_face.nd rfl (by first | exact Or.inl rfl | exact Or.inr rfl))) (pat_nm 1) (fun _ _ _ _ _ => jts_nil) (fun _ _ _ _ _ => (j_chain or_le or_le j_int (j_var 1 (pv 1)) (j_globI (by rfl) B.g_POINTS_MOST)))) ja_nil)))))
theorem ok_is_face_L0 (B : Blt K mg) {f : Addr} {fd : FuncData} (D : Dm K "is_face" "is_face" s_is_face [] [] f fd) (hm : mg "is_face" = some (.ref f)) : Ok1 P w K mg base 1 "is_face" 1 [] F_is_face := ok_of ⟨D.F, hm⟩ (fn_is_face B D) (fun _ _ _ _ _ _ us hl => match us, hl with | [_], _ => rfl)
theorem sc_own_faces : FnScope ["face", "found", "point", "some"] ["face"] (defScope s_own_faces) := ⟨rfl, rfl, rfl, by decide +kernel, rfl, by decide +kernel, by decide +kernel⟩
theorem fn_own_faces (B : Blt K mg) {f : Addr} {fd : FuncData} (D : Dm K "own_faces" "own_faces" s_own_faces [] [] f fd) : FnOk P w K mg base (L2N.CX P w) 1 f fd ["face"] (spF ⟨K, mg⟩ 1 F_own_faces) :=
  fnokM_of (k := 0) (N := ["face", "found", "point", "some"]) (n := 4) D sc_own_faces rfl (by decide) rfl fun cdv A outer s H E hr =>
      (js_cons (js_set (i := 1) sc_own_faces.nd rfl (by first | exact Or.inl rfl | exact Or.inr rfl) (j_lst (ja_cons (j_tup ja_nil) ja_nil)))
      (js_cons (js_for (passes_of rfl) rfl (ji_seq (j_var 0 (pv 0))) (pg_name (i := 2) sc_own_faces.nd rfl (by first | exact Or.inl rfl | exact Or.inr rfl)) (pat_nm 2) (js_one (js_set (i := 1) sc_own_faces.nd rfl (by first | exact Or.inl rfl | exact Or.inr rfl) (j_bin or_add (j_var 1 (pv 1)) (j_lc rfl sc_own_faces.nd (ji_seq (j_var 1 (pv 1))) (blkOk_by (own := [("some", 3)]) (by kernel_rfl)) (fun _ _ _ _ _ => (pg_name (i := 3) sc_own_faces.nd rfl (by first | exact Or.inl rfl | exact Or.inr rfl))) (pat_nm 3) (fun _ _ _ _ _ => jts_nil) (fun _ _ _ _ _ => (j_bin or_add (j_var 3 (pv 3)) (j_tup (ja_cons (j_var 2 (pv 2)) ja_nil)))))))))
      (js_one (js_ret (j_sl (j_var 1 (pv 1)) (jo_some j_int) jo_none)))))
theorem ok_own_faces_L0 (B : Blt K mg) {f : Addr} {fd : FuncData} (D : Dm K "own_faces" "own_faces" s_own_faces [] [] f fd) (hm : mg "own_faces" = some (.ref f)) : Ok1 P w K mg base 1 "own_faces" 1 [] F_own_faces := ok_of ⟨D.F, hm⟩ (fn_own_faces B D) (fun _ _ _ _ _ _ us hl => match us, hl with | [_], _ => rfl)
theorem sc_Web_init : FnScope ["self", "faces", "known", "face", "at", "some", "size", "line"] ["self", "faces"] (defScope s_Web_init) := ⟨rfl, rfl, rfl, by decide +kernel, rfl, by decide +kernel, by decide +kernel⟩
theorem fn_Web_init (B : Blt K mg) {f : Addr} {fd : FuncData} {tp : Addr} (D : Dm K "__init__" "Web.__init__" s_Web_init [.ref tp] [] f fd) (O_is_face_L0 : Ok1 P w K mg base 1 "is_face" 1 [] F_is_face) (O_own_faces_L0 : Ok1 P w K mg base 1 "own_faces" 1 [] F_own_faces) : FnOk P w K mg base (L2N.CX P w) 2 f fd ["self", "faces"] (spF ⟨K, mg⟩ 2 F_Web_init) :=
  fnokM_of (k := 1) (N := ["self", "faces", "known", "face", "at", "some", "size", "line"]) (n := 8) D sc_Web_init rfl (by decide) rfl fun cdv A outer s H E hr =>
      (js_cons (js_set (i := 2) sc_Web_init.nd rfl (by first | exact Or.inl rfl | exact Or.inr rfl) j_dnew')
      (js_cons (js_for (passes_of rfl) rfl (ji_enum (by rfl) B.n_enumerate (ja_cons (j_var 1 (pv 1)) ja_nil)) (pg_tup rfl (pgs_cons (pg_name (i := 4) sc_Web_init.nd rfl (by first | exact Or.inl rfl | exact Or.inr rfl)) (pgs_cons (pg_name (i := 3) sc_Web_init.nd rfl (by first | exact Or.inl rfl | exact Or.inr rfl)) pgs_nil))) (pat_tup (pats_cons (pat_nm 4) (pats_cons (pat_nm 3) pats_nil))) (js_cons (js_if (jt_not (jt_val (j_callO O_is_face_L0 (hr.mono (by decide)) (by rfl) (L2N.takes_of rfl rfl rfl rfl) (ja_cons (j_var 3 (pv 3)) ja_nil)))) (js_one js_never) js_nil)
      (js_one (js_for (passes_of rfl) rfl (ji_seq (j_callO O_own_faces_L0 (hr.mono (by decide)) (by rfl) (L2N.takes_of rfl rfl rfl rfl) (ja_cons (j_callTy cr_tupleJ (by rfl) B.n_tuple (by decide +kernel) (ja_cons (j_callB (cr_sortedJ hr.units) (by rfl) B.n_sorted (by decide +kernel) (ja_cons (j_var 3 (pv 3)) ja_nil)) ja_nil)) ja_nil))) (pg_name (i := 5) sc_Web_init.nd rfl (by first | exact Or.inl rfl | exact Or.inr rfl)) (pat_nm 5) (js_one (js_setD hr j_bl (j_var 2 (pv 2)) (j_var 5 (pv 5))))))))
      (js_cons (js_if (jt_cmp or_gt (j_callB cr_lenD (by rfl) B.n_len (by decide +kernel) (ja_cons (j_var 2 (pv 2)) ja_nil)) (j_globI (by rfl) B.g_FACES_MOST) (nomark _)) (js_one js_never) js_nil)
      (js_cons (js_fld B.f_Web_table (j_var 0 (pv 0)) (j_lcR rfl sc_Web_init.nd (ji_range1 (by rfl) B.n_range (j_bin or_add (j_globI (by rfl) B.g_SIZE_MOST) j_int)) (blkOk_by (own := [("size", 6)]) (by kernel_rfl)) (fun _ _ _ _ _ => (pg_name (i := 6) sc_Web_init.nd rfl (by first | exact Or.inl rfl | exact Or.inr rfl))) (pat_nm 6) (fun _ _ _ _ _ => jts_nil) (fun _ _ _ _ _ => (j_lstO ja_nil))))
      (js_cons (js_for (passes_of rfl) rfl (ji_seq (j_callB (cr_sortedJ hr.units) (by rfl) B.n_sorted (by decide +kernel) (ja_cons (j_callTy (cr_listD rfl) (by rfl) B.n_list (by decide +kernel) (ja_cons (j_var 2 (pv 2)) ja_nil)) ja_nil))) (pg_name (i := 3) sc_Web_init.nd rfl (by first | exact Or.inl rfl | exact Or.inr rfl)) (pat_nm 3) (js_one (js_expr (j_app (j_ix ir_ix (j_fld B.f_Web_table (j_var 0 (pv 0))) (j_bin or_sub (j_callB cr_len (by rfl) B.n_len (by decide +kernel) (ja_cons (j_var 3 (pv 3)) ja_nil)) j_int) (fun _ _ => rfl)) (j_var 3 (pv 3))))))
      (js_one (js_fld B.f_Web_places (j_var 0 (pv 0)) (j_dc2 hr rfl sc_Web_init.nd (ji_seq (j_frzD (j_fld B.f_Web_table (j_var 0 (pv 0))))) (blkOk_by (own := [("line", 7), ("at", 4), ("face", 3)]) (by kernel_rfl)) (fun _ _ _ _ _ => (pg_name (i := 7) sc_Web_init.nd rfl (by first | exact Or.inl rfl | exact Or.inr rfl))) (pat_nm 7) (by decide) (fun _ _ _ _ _ => (ji_enum (by rfl) B.n_enumerate (ja_cons (j_var 7 (pv 7)) ja_nil))) (fun _ _ _ _ _ => (pg_tup rfl (pgs_cons (pg_name (i := 4) sc_Web_init.nd rfl (by first | exact Or.inl rfl | exact Or.inr rfl)) (pgs_cons (pg_name (i := 3) sc_Web_init.nd rfl (by first | exact Or.inl rfl | exact Or.inr rfl)) pgs_nil)))) (pat_tup (pats_cons (pat_nm 4) (pats_cons (pat_nm 3) pats_nil))) (by decide) (fun _ _ _ _ _ => (j_var 3 (pv 3))) (fun _ _ _ _ _ => (j_var 4 (pv 4)))))))))))
theorem ok_Web_init_C (B : Blt K mg) {f : Addr} {fd : FuncData} {tp : Addr} (D : Dm K "__init__" "Web.__init__" s_Web_init [.ref tp] [] f fd) (O_is_face_L0 : Ok1 P w K mg base 1 "is_face" 1 [] F_is_face) (O_own_faces_L0 : Ok1 P w K mg base 1 "own_faces" 1 [] F_own_faces) {C : Addr} (T : ClsT K mg "Web" C) (M : Mk K C f) : OkC P w K mg base 2 "Web" 2 [] F_Web_init := okCD_of T M D (fn_Web_init B D O_is_face_L0 O_own_faces_L0) 2 1 (by simp) rfl (fun _ _ _ _ _ _ _ us its h1 h2 => match us, h1, its, h2 with | [_, _], _, [_], _ => ⟨_, rfl, rfl⟩) (fun _ _ => rfl)
theorem sc_Web_has : FnScope ["self", "face"] ["self", "face"] (defScope s_Web_has) := ⟨rfl, rfl, rfl, by decide +kernel, rfl, by decide +kernel, by decide +kernel⟩
theorem fn_Web_has (B : Blt K mg) {f : Addr} {fd : FuncData} (D : Dm K "has" "Web.has" s_Web_has [] [] f fd) : FnOk P w K mg base (L2N.CX P w) 1 f fd ["self", "face"] (spF ⟨K, mg⟩ 2 F_Web_has) :=
  fnokM_of (k := 0) (N := ["self", "face"]) (n := 2) D sc_Web_has rfl (by decide) rfl fun cdv A outer s H E hr =>
      (js_one (js_ret (j_cmp (or_in hr) (j_callTy cr_tupleJ (by rfl) B.n_tuple (by decide +kernel) (ja_cons (j_callB (cr_sortedJ hr.units) (by rfl) B.n_sorted (by decide +kernel) (ja_cons (j_var 1 (pv 1)) ja_nil)) ja_nil)) (j_fld B.f_Web_places (j_var 0 (pv 0))) rfl)))
theorem ok_Web_has_M0 (B : Blt K mg) {f : Addr} {fd : FuncData} (D : Dm K "has" "Web.has" s_Web_has [] [] f fd) {C : Addr} (T : ClsT K mg "Web" C) (M : Meth K C "has" f) : OkM P w K mg base 1 "Web" "has" 2 [] F_Web_has := okM_of T M D (fn_Web_has B D) (fun _ _ _ _ _ _ us hl => match us, hl with | [_, _], _ => rfl)
theorem sc_within : FnScope ["face", "other", "point"] ["face", "other"] (defScope s_within) := ⟨rfl, rfl, rfl, by decide +kernel, rfl, by decide +kernel, by decide +kernel⟩
theorem fn_within (B : Blt K mg) {f : Addr} {fd : FuncData} (D : Dm K "within" "within" s_within [] [] f fd) : FnOk P w K mg base (L2N.CX P w) 1 f fd ["face", "other"] (spF ⟨K, mg⟩ 2 F_within) :=
  fnokM_of (k := 0) (N := ["face", "other", "point"]) (n := 3) D sc_within rfl (by decide) rfl fun cdv A outer s H E hr =>
      (js_one (js_ret (j_callB (cr_allJ rfl) (by rfl) B.n_all (by decide +kernel) (ja_cons (j_lc rfl sc_within.nd (ji_seq (j_var 0 (pv 0))) (blkOk_by (own := [("point", 2)]) (by kernel_rfl)) (fun _ _ _ _ _ => (pg_name (i := 2) sc_within.nd rfl (by first | exact Or.inl rfl | exact Or.inr rfl))) (pat_nm 2) (fun _ _ _ _ _ => jts_nil) (fun _ _ _ _ _ => (j_cmp (or_in hr) (j_var 2 (pv 2)) (j_var 1 (pv 1)) rfl))) ja_nil))))
theorem ok_within_L0 (B : Blt K mg) {f : Addr} {fd : FuncData} (D : Dm K "within" "within" s_within [] [] f fd) (hm : mg "within" = some (.ref f)) : Ok1 P w K mg base 1 "within" 2 [] F_within := ok_of ⟨D.F, hm⟩ (fn_within B D) (fun _ _ _ _ _ _ us hl => match us, hl with | [_, _], _ => rfl)
theorem sc_Web_around : FnScope ["self", "face", "line", "other"] ["self", "face"] (defScope s_Web_around) := ⟨rfl, rfl, rfl, by decide +kernel, rfl, by decide +kernel, by decide +kernel⟩
theorem fn_Web_around (B : Blt K mg) {f : Addr} {fd : FuncData} (D : Dm K "around" "Web.around" s_Web_around [] [] f fd) (O_within_L0 : Ok1 P w K mg base 1 "within" 2 [] F_within) : FnOk P w K mg base (L2N.CX P w) 2 f fd ["self", "face"] (spF ⟨K, mg⟩ 2 F_Web_around) :=
  fnokM_of (k := 1) (N := ["self", "face", "line", "other"]) (n := 4) D sc_Web_around rfl (by decide) rfl fun cdv A outer s H E hr =>
      (js_one (js_ret (j_callB (cr_sortedJ hr.units) (by rfl) B.n_sorted (by decide +kernel) (ja_cons (j_lc2 rfl sc_Web_around.nd (ji_seq (j_fld B.f_Web_table (j_var 0 (pv 0)))) (blkOk_by (own := [("line", 2), ("other", 3)]) (by kernel_rfl)) (fun _ _ _ _ _ => (pg_name (i := 2) sc_Web_around.nd rfl (by first | exact Or.inl rfl | exact Or.inr rfl))) (pat_nm 2) (by decide) (fun _ _ _ _ _ => jts_nil) (fun _ _ _ _ _ => (ji_seq (j_var 2 (pv 2)))) (fun _ _ _ _ _ => (pg_name (i := 3) sc_Web_around.nd rfl (by first | exact Or.inl rfl | exact Or.inr rfl))) (pat_nm 3) (by decide) (fun _ _ _ _ _ => (jts_one (jt_val (j_callO O_within_L0 (hr.mono (by decide)) (by rfl) takesN0 (ja_cons (j_var 1 (pv 1)) (ja_cons (j_var 3 (pv 3)) ja_nil)))))) (fun _ _ _ _ _ => (j_var 3 (pv 3)))) ja_nil))))
theorem ok_Web_around_M0 (B : Blt K mg) {f : Addr} {fd : FuncData} (D : Dm K "around" "Web.around" s_Web_around [] [] f fd) (O_within_L0 : Ok1 P w K mg base 1 "within" 2 [] F_within) {C : Addr} (T : ClsT K mg "Web" C) (M : Meth K C "around" f) : OkM P w K mg base 2 "Web" "around" 2 [] F_Web_around := okM_of T M D (fn_Web_around B D O_within_L0) (fun _ _ _ _ _ _ us hl => match us, hl with | [_, _], _ => rfl)
theorem sc_sign : FnScope ["places"] ["places"] (defScope s_sign) := ⟨rfl, rfl, rfl, by decide +kernel, rfl, by decide +kernel, by decide +kernel⟩
theorem fn_sign (B : Blt K mg) {f : Addr} {fd : FuncData} (D : Dm K "sign" "sign" s_sign [] [] f fd) : FnOk P w K mg base (L2N.CX P w) 1 f fd ["places"] (spF ⟨K, mg⟩ 1 F_sign) :=
  fnokM_of (k := 0) (N := ["places"]) (n := 1) D sc_sign rfl (by decide) rfl fun cdv A outer s H E hr =>
      (js_one (js_ret (j_bin or_sub j_int (j_bin or_mul j_int (j_bin or_mod (j_var 0 (pv 0)) j_int)))))
theorem ok_sign_L0 (B : Blt K mg) {f : Addr} {fd : FuncData} (D : Dm K "sign" "sign" s_sign [] [] f fd) (hm : mg "sign" = some (.ref f)) : Ok1 P w K mg base 1 "sign" 1 [] F_sign := ok_of ⟨D.F, hm⟩ (fn_sign B D) (fun _ _ _ _ _ _ us hl => match us, hl with | [_], _ => rfl)
theorem sc_sides : FnScope ["face", "at"] ["face"] (defScope s_sides) := ⟨rfl, rfl, rfl, by decide +kernel, rfl, by decide +kernel, by decide +kernel⟩
theorem fn_sides (B : Blt K mg) {f : Addr} {fd : FuncData} (D : Dm K "sides" "sides" s_sides [] [] f fd) (O_sign_L0 : Ok1 P w K mg base 1 "sign" 1 [] F_sign) : FnOk P w K mg base (L2N.CX P w) 2 f fd ["face"] (spF ⟨K, mg⟩ 1 F_sides) :=
  fnokM_of (k := 1) (N := ["face", "at"]) (n := 2) D sc_sides rfl (by decide) rfl fun cdv A outer s H E hr =>
      (js_one (js_ret (j_lc rfl sc_sides.nd (ji_range1 (by rfl) B.n_range (j_if (jt_cmp or_gt (j_callB cr_len (by rfl) B.n_len (by decide +kernel) (ja_cons (j_var 0 (pv 0)) ja_nil)) j_int (nomark _)) (j_callB cr_len (by rfl) B.n_len (by decide +kernel) (ja_cons (j_var 0 (pv 0)) ja_nil)) j_int)) (blkOk_by (own := [("at", 1)]) (by kernel_rfl)) (fun _ _ _ _ _ => (pg_name (i := 1) sc_sides.nd rfl (by first | exact Or.inl rfl | exact Or.inr rfl))) (pat_nm 1) (fun _ _ _ _ _ => jts_nil) (fun _ _ _ _ _ => (j_tup (ja_cons (j_callO O_sign_L0 (hr.mono (by decide)) (by rfl) takesN0 (ja_cons (j_var 1 (pv 1)) ja_nil)) (ja_cons (j_bin or_add (j_sl (j_var 0 (pv 0)) jo_none (jo_some (j_var 1 (pv 1)))) (j_sl (j_var 0 (pv 0)) (jo_some (j_bin or_add (j_var 1 (pv 1)) j_int)) jo_none)) ja_nil)))))))
theorem ok_sides_L0 (B : Blt K mg) {f : Addr} {fd : FuncData} (D : Dm K "sides" "sides" s_sides [] [] f fd) (O_sign_L0 : Ok1 P w K mg base 1 "sign" 1 [] F_sign) (hm : mg "sides" = some (.ref f)) : Ok1 P w K mg base 2 "sides" 1 [] F_sides := ok_of ⟨D.F, hm⟩ (fn_sides B D O_sign_L0) (fun _ _ _ _ _ _ us hl => match us, hl with | [_], _ => rfl)
theorem sc_Web_without : FnScope ["self", "face", "line", "other"] ["self", "face"] (defScope s_Web_without) := ⟨rfl, rfl, rfl, by decide +kernel, rfl, by decide +kernel, by decide +kernel⟩
theorem fn_Web_without (B : Blt K mg) {f : Addr} {fd : FuncData} (D : Dm K "without" "Web.without" s_Web_without [] [] f fd) (O_Web_has_M0 : OkM P w K mg base 1 "Web" "has" 2 [] F_Web_has) (O_Web_init_C : OkC P w K mg base 2 "Web" 2 [] F_Web_init) (O_within_L0 : Ok1 P w K mg base 1 "within" 2 [] F_within) : FnOk P w K mg base (L2N.CX P w) 4 f fd ["self", "face"] (spF ⟨K, mg⟩ 2 F_Web_without) :=
  fnokM_of (k := 3) (N := ["self", "face", "line", "other"]) (n := 4) D sc_Web_without rfl (by decide) rfl fun cdv A outer s H E hr =>
      (js_cons (js_if (jt_not (jt_val (j_meth O_Web_has_M0 (hr.mono (by decide)) (j_var 0 (pv 0)) (ja_cons (j_var 1 (pv 1)) ja_nil)))) (js_one js_never) js_nil)
      (js_one (js_ret (j_make O_Web_init_C (hr.mono (by decide)) (by rfl) (ja_cons (j_lc2 rfl sc_Web_without.nd (ji_seq (j_fld B.f_Web_table (j_var 0 (pv 0)))) (blkOk_by (own := [("line", 2), ("other", 3)]) (by kernel_rfl)) (fun _ _ _ _ _ => (pg_name (i := 2) sc_Web_without.nd rfl (by first | exact Or.inl rfl | exact Or.inr rfl))) (pat_nm 2) (by decide) (fun _ _ _ _ _ => jts_nil) (fun _ _ _ _ _ => (ji_seq (j_var 2 (pv 2)))) (fun _ _ _ _ _ => (pg_name (i := 3) sc_Web_without.nd rfl (by first | exact Or.inl rfl | exact Or.inr rfl))) (pat_nm 3) (by decide) (fun _ _ _ _ _ => (jts_one (jt_not (jt_val (j_callO O_within_L0 (hr.mono (by decide)) (by rfl) takesN0 (ja_cons (j_var 1 (pv 1)) (ja_cons (j_var 3 (pv 3)) ja_nil))))))) (fun _ _ _ _ _ => (j_var 3 (pv 3)))) ja_nil)))))
theorem ok_Web_without_M0 (B : Blt K mg) {f : Addr} {fd : FuncData} (D : Dm K "without" "Web.without" s_Web_without [] [] f fd) (O_Web_has_M0 : OkM P w K mg base 1 "Web" "has" 2 [] F_Web_has) (O_Web_init_C : OkC P w K mg base 2 "Web" 2 [] F_Web_init) (O_within_L0 : Ok1 P w K mg base 1 "within" 2 [] F_within) {C : Addr} (T : ClsT K mg "Web" C) (M : Meth K C "without" f) : OkM P w K mg base 4 "Web" "without" 2 [] F_Web_without := okM_of T M D (fn_Web_without B D O_Web_has_M0 O_Web_init_C O_within_L0) (fun _ _ _ _ _ _ us hl => match us, hl with | [_, _], _ => rfl)
theorem sc_Web_faces : FnScope ["self", "size"] ["self", "size"] (defScope s_Web_faces) := ⟨rfl, rfl, rfl, by decide +kernel, rfl, by decide +kernel, by decide +kernel⟩
theorem fn_Web_faces (B : Blt K mg) {f : Addr} {fd : FuncData} (D : Dm K "faces" "Web.faces" s_Web_faces [] [] f fd) : FnOk P w K mg base (L2N.CX P w) 1 f fd ["self", "size"] (spF ⟨K, mg⟩ 2 F_Web_faces) :=
  fnokM_of (k := 0) (N := ["self", "size"]) (n := 2) D sc_Web_faces rfl (by decide) rfl fun cdv A outer s H E hr =>
      (js_one (js_ret (j_if (jt_chain or_le or_le j_int (j_var 1 (pv 1)) (j_globI (by rfl) B.g_SIZE_MOST)) (j_callTy cr_listJ (by rfl) B.n_list (by decide +kernel) (ja_cons (j_ix ir_ix (j_fld B.f_Web_table (j_var 0 (pv 0))) (j_var 1 (pv 1)) (fun _ _ => rfl)) ja_nil)) (j_lst ja_nil))))
theorem ok_Web_faces_M0 (B : Blt K mg) {f : Addr} {fd : FuncData} (D : Dm K "faces" "Web.faces" s_Web_faces [] [] f fd) {C : Addr} (T : ClsT K mg "Web" C) (M : Meth K C "faces" f) : OkM P w K mg base 1 "Web" "faces" 2 [] F_Web_faces := okM_of T M D (fn_Web_faces B D) (fun _ _ _ _ _ _ us hl => match us, hl with | [_, _], _ => rfl)
theorem sc_Map_image : FnScope ["self", "face", "point"] ["self", "face"] (defScope s_Map_image) := ⟨rfl, rfl, rfl, by decide +kernel, rfl, by decide +kernel, by decide +kernel⟩
theorem fn_Map_image (B : Blt K mg) {f : Addr} {fd : FuncData} (D : Dm K "image" "Map.image" s_Map_image [] [] f fd) : FnOk P w K mg base (L2N.CX P w) 1 f fd ["self", "face"] (spF ⟨K, mg⟩ 2 F_Map_image) :=
  fnokM_of (k := 0) (N := ["self", "face", "point"]) (n := 3) D sc_Map_image rfl (by decide) rfl fun cdv A outer s H E hr =>
      (js_one (js_ret (j_callTy cr_tupleJ (by rfl) B.n_tuple (by decide +kernel) (ja_cons (j_sortSc rfl sc_Map_image.nd (by rfl) B.n_sorted (ji_seq (j_var 1 (pv 1))) (blkOk_by (own := [("point", 2)]) (by kernel_rfl)) (fun _ _ _ _ _ => (pg_name (i := 2) sc_Map_image.nd rfl (by first | exact Or.inl rfl | exact Or.inr rfl))) (pat_nm 2) (fun _ _ _ _ _ => (j_kget hr (j_fld B.f_Map_lead (j_var 0 (pv 0))) (j_var 2 (pv 2)) (fun _ _ => rfl)))) ja_nil))))
theorem ok_Map_image_M0 (B : Blt K mg) {f : Addr} {fd : FuncData} (D : Dm K "image" "Map.image" s_Map_image [] [] f fd) {C : Addr} (T : ClsT K mg "Map" C) (M : Meth K C "image" f) : OkM P w K mg base 1 "Map" "image" 2 [] F_Map_image := okM_of T M D (fn_Map_image B D) (fun _ _ _ _ _ _ us hl => match us, hl with | [_, _], _ => rfl)
theorem sc_Map_init : FnScope ["self", "one", "other", "pairs", "mine", "every", "at", "face", "size", "point", "there"] ["self", "one", "other", "pairs"] (defScope s_Map_init) := ⟨rfl, rfl, rfl, by decide +kernel, rfl, by decide +kernel, by decide +kernel⟩
theorem fn_Map_init (B : Blt K mg) {f : Addr} {fd : FuncData} (D : Dm K "__init__" "Map.__init__" s_Map_init [] [] f fd) (O_Web_faces_M0 : OkM P w K mg base 1 "Web" "faces" 2 [] F_Web_faces) (O_Web_has_M0 : OkM P w K mg base 1 "Web" "has" 2 [] F_Web_has) (O_Map_image_M0 : OkM P w K mg base 1 "Map" "image" 2 [] F_Map_image) : FnOk P w K mg base (L2N.CX P w) 2 f fd ["self", "one", "other", "pairs"] (spF ⟨K, mg⟩ 4 F_Map_init) :=
  fnokM_of (k := 1) (N := ["self", "one", "other", "pairs", "mine", "every", "at", "face", "size", "point", "there"]) (n := 11) D sc_Map_init rfl (by decide) rfl fun cdv A outer s H E hr =>
      (js_cons (js_fld B.f_Map_one (j_var 0 (pv 0)) (j_var 1 (pv 1)))
      (js_cons (js_fld B.f_Map_other (j_var 0 (pv 0)) (j_var 2 (pv 2)))
      (js_cons (js_fld B.f_Map_lead (j_var 0 (pv 0)) (j_dc1 rfl sc_Map_init.nd (ji_seq (j_var 3 (pv 3))) (blkOk_by (own := [("point", 9), ("there", 10)]) (by kernel_rfl)) (fun _ _ _ _ _ => (pg_tup rfl (pgs_cons (pg_name (i := 9) sc_Map_init.nd rfl (by first | exact Or.inl rfl | exact Or.inr rfl)) (pgs_cons (pg_name (i := 10) sc_Map_init.nd rfl (by first | exact Or.inl rfl | exact Or.inr rfl)) pgs_nil)))) (pat_tup (pats_cons (pat_nm 9) (pats_cons (pat_nm 10) pats_nil))) (fun _ _ _ _ _ => (j_var 9 (pv 9))) (fun _ _ _ _ _ => (j_var 10 (pv 10)))))
      (js_cons (js_setLc (i := 4) rfl sc_Map_init.nd rfl rfl (sw_true rfl rfl rfl (by decide +kernel)) (ji_seq (j_meth O_Web_faces_M0 (hr.mono (by decide)) (j_var 1 (pv 1)) (ja_cons j_int ja_nil))) (blkOk_by (own := [("face", 7)]) (by kernel_rfl)) (fun _ _ _ _ _ => (pg_name (i := 7) sc_Map_init.nd rfl (by first | exact Or.inl rfl | exact Or.inr rfl))) (pat_nm 7) (fun _ _ _ _ _ => jts_nil) (fun _ _ _ _ _ => (j_ix ir_ix (j_var 7 (pv 7)) j_int (fun _ _ => rfl))))
      (js_cons (js_if (PW.pt (jw_or (jt_cmp (or_ne hr) (j_callB cr_len (by rfl) B.n_len (by decide +kernel) (ja_cons (j_var 3 (pv 3)) ja_nil)) (j_callB cr_lenK (by rfl) B.n_len (by decide +kernel) (ja_cons (j_fld B.f_Map_lead (j_var 0 (pv 0))) ja_nil)) (nomark _)) (jw_or1 (jt_cmp (or_ne hr) (j_callB (cr_sortedJ hr.units) (by rfl) B.n_sorted (by decide +kernel) (ja_cons (j_callTy (cr_listK rfl) (by rfl) B.n_list (by decide +kernel) (ja_cons (j_fld B.f_Map_lead (j_var 0 (pv 0))) ja_nil)) ja_nil)) (j_var 4 (pv 4)) (nomark _))))) (js_one js_never) js_nil)
      (js_cons (js_if (jt_not (jt_val (j_callB (cr_allJ rfl) (by rfl) B.n_all (by decide +kernel) (ja_cons (j_lc rfl sc_Map_init.nd (ji_seq (j_var 4 (pv 4))) (blkOk_by (own := [("point", 9)]) (by kernel_rfl)) (fun _ _ _ _ _ => (pg_name (i := 9) sc_Map_init.nd rfl (by first | exact Or.inl rfl | exact Or.inr rfl))) (pat_nm 9) (fun _ _ _ _ _ => jts_nil) (fun _ _ _ _ _ => (j_meth O_Web_has_M0 (hr.mono (by decide)) (j_var 2 (pv 2)) (ja_cons (j_tup (ja_cons (j_kget hr (j_fld B.f_Map_lead (j_var 0 (pv 0))) (j_var 9 (pv 9)) (fun _ _ => rfl)) ja_nil)) ja_nil)))) ja_nil)))) (js_one js_never) js_nil)
      (js_cons (js_setLc2 (i := 5) rfl sc_Map_init.nd rfl rfl (sw_true rfl rfl rfl (by decide +kernel)) (ji_range1 (by rfl) B.n_range (j_bin or_add (j_globI (by rfl) B.g_SIZE_MOST) j_int)) (blkOk_by (own := [("size", 8), ("face", 7)]) (by kernel_rfl)) (fun _ _ _ _ _ => (pg_name (i := 8) sc_Map_init.nd rfl (by first | exact Or.inl rfl | exact Or.inr rfl))) (pat_nm 8) (by decide) (fun _ _ _ _ _ => jts_nil) (fun _ _ _ _ _ => (ji_seq (j_meth O_Web_faces_M0 (hr.mono (by decide)) (j_var 1 (pv 1)) (ja_cons (j_var 8 (pv 8)) ja_nil)))) (fun _ _ _ _ _ => (pg_name (i := 7) sc_Map_init.nd rfl (by first | exact Or.inl rfl | exact Or.inr rfl))) (pat_nm 7) (by decide) (fun _ _ _ _ _ => jts_nil) (fun _ _ _ _ _ => (j_var 7 (pv 7))))
      (js_one (js_for (passes_of rfl) rfl (ji_enum (by rfl) B.n_enumerate (ja_cons (j_var 5 (pv 5)) ja_nil)) (pg_tup rfl (pgs_cons (pg_name (i := 6) sc_Map_init.nd rfl (by first | exact Or.inl rfl | exact Or.inr rfl)) (pgs_cons (pg_name (i := 7) sc_Map_init.nd rfl (by first | exact Or.inl rfl | exact Or.inr rfl)) pgs_nil))) (pat_tup (pats_cons (pat_nm 6) (pats_cons (pat_nm 7) pats_nil))) (js_one (js_if (jt_not (jt_val (j_meth O_Web_has_M0 (hr.mono (by decide)) (j_var 2 (pv 2)) (ja_cons (j_meth O_Map_image_M0 (hr.mono (by decide)) (j_var 0 (pv 0)) (ja_cons (j_var 7 (pv 7)) ja_nil)) ja_nil)))) (js_one js_never) js_nil)))))))))))
theorem ok_Map_init_C (B : Blt K mg) {f : Addr} {fd : FuncData} (D : Dm K "__init__" "Map.__init__" s_Map_init [] [] f fd) (O_Web_faces_M0 : OkM P w K mg base 1 "Web" "faces" 2 [] F_Web_faces) (O_Web_has_M0 : OkM P w K mg base 1 "Web" "has" 2 [] F_Web_has) (O_Map_image_M0 : OkM P w K mg base 1 "Map" "image" 2 [] F_Map_image) {C : Addr} (T : ClsT K mg "Map" C) (M : Mk K C f) : OkC P w K mg base 2 "Map" 4 [] F_Map_init := okC_of T M D (fn_Map_init B D O_Web_faces_M0 O_Web_has_M0 O_Map_image_M0) (fun _ _ _ _ _ _ us hl => match us, hl with | [_, _, _, _], _ => rfl)
theorem sc_Step_init : FnScope ["self", "elder", "later", "pairs", "moved"] ["self", "elder", "later", "pairs", "moved"] (defScope s_Step_init) := ⟨rfl, rfl, rfl, by decide +kernel, rfl, by decide +kernel, by decide +kernel⟩
theorem fn_Step_init (B : Blt K mg) {f : Addr} {fd : FuncData} (D : Dm K "__init__" "Step.__init__" s_Step_init [] [] f fd) (O_Map_init_C : OkC P w K mg base 2 "Map" 4 [] F_Map_init) : FnOk P w K mg base (L2N.CX P w) 4 f fd ["self", "elder", "later", "pairs", "moved"] (spF ⟨K, mg⟩ 5 F_Step_init) :=
  fnokM_of (k := 3) (N := ["self", "elder", "later", "pairs", "moved"]) (n := 5) D sc_Step_init rfl (by decide) rfl fun cdv A outer s H E hr =>
      (js_cons (js_fld B.f_Step_elder (j_var 0 (pv 0)) (j_var 1 (pv 1)))
      (js_cons (js_fld B.f_Step_later (j_var 0 (pv 0)) (j_var 2 (pv 2)))
      (js_cons (js_fld B.f_Step_home (j_var 0 (pv 0)) (j_make O_Map_init_C (hr.mono (by decide)) (by rfl) (ja_cons (j_var 2 (pv 2)) (ja_cons (j_var 1 (pv 1)) (ja_cons (j_var 3 (pv 3)) ja_nil)))))
      (js_one (js_fld B.f_Step_moved (j_var 0 (pv 0)) (j_var 4 (pv 4)))))))
theorem ok_Step_init_C (B : Blt K mg) {f : Addr} {fd : FuncData} (D : Dm K "__init__" "Step.__init__" s_Step_init [] [] f fd) (O_Map_init_C : OkC P w K mg base 2 "Map" 4 [] F_Map_init) {C : Addr} (T : ClsT K mg "Step" C) (M : Mk K C f) : OkC P w K mg base 4 "Step" 5 [] F_Step_init := okC_of T M D (fn_Step_init B D O_Map_init_C) (fun _ _ _ _ _ _ us hl => match us, hl with | [_, _, _, _, _], _ => rfl)
theorem sc_lesser : FnScope ["web", "face", "inner", "above", "by", "rest_of", "later", "pairs", "other", "spot", "number", "side"] ["web", "face"] (defScope s_lesser) := ⟨rfl, rfl, rfl, by decide +kernel, rfl, by decide +kernel, by decide +kernel⟩
theorem fn_lesser (B : Blt K mg) {f : Addr} {fd : FuncData} (D : Dm K "lesser" "lesser" s_lesser [] [] f fd) (O_Web_has_M0 : OkM P w K mg base 1 "Web" "has" 2 [] F_Web_has) (O_Web_around_M0 : OkM P w K mg base 2 "Web" "around" 2 [] F_Web_around) (O_sides_L0 : Ok1 P w K mg base 2 "sides" 1 [] F_sides) (O_Web_without_M0 : OkM P w K mg base 4 "Web" "without" 2 [] F_Web_without) (O_Web_faces_M0 : OkM P w K mg base 1 "Web" "faces" 2 [] F_Web_faces) (O_Step_init_C : OkC P w K mg base 4 "Step" 5 [] F_Step_init) : FnOk P w K mg base (L2N.CX P w) 6 f fd ["web", "face"] (spF ⟨K, mg⟩ 2 F_lesser) :=
  fnokM_of (k := 5) (N := ["web", "face", "inner", "above", "by", "rest_of", "later", "pairs", "other", "spot", "number", "side"]) (n := 12) D sc_lesser rfl (by decide) rfl fun cdv A outer s H E hr =>
      (js_cons (js_if (jt_not (jt_val (j_meth O_Web_has_M0 (hr.mono (by decide)) (j_var 0 (pv 0)) (ja_cons (j_var 1 (pv 1)) ja_nil)))) (js_one js_never) js_nil)
      (js_cons (js_set (i := 2) sc_lesser.nd rfl (by first | exact Or.inl rfl | exact Or.inr rfl) (j_callTy cr_tupleJ (by rfl) B.n_tuple (by decide +kernel) (ja_cons (j_callB (cr_sortedJ hr.units) (by rfl) B.n_sorted (by decide +kernel) (ja_cons (j_var 1 (pv 1)) ja_nil)) ja_nil)))
      (js_cons (js_setLc (i := 3) rfl sc_lesser.nd rfl rfl (sw_true rfl rfl rfl (by decide +kernel)) (ji_seq (j_meth O_Web_around_M0 (hr.mono (by decide)) (j_var 0 (pv 0)) (ja_cons (j_var 2 (pv 2)) ja_nil))) (blkOk_by (own := [("other", 8)]) (by kernel_rfl)) (fun _ _ _ _ _ => (pg_name (i := 8) sc_lesser.nd rfl (by first | exact Or.inl rfl | exact Or.inr rfl))) (pat_nm 8) (fun _ _ _ _ _ => (jts_one (jt_cmp (or_ne hr) (j_var 8 (pv 8)) (j_var 2 (pv 2)) (nomark _)))) (fun _ _ _ _ _ => (j_var 8 (pv 8))))
      (js_cons (js_if (jt_cmp (or_ne hr) (j_callB cr_len (by rfl) B.n_len (by decide +kernel) (ja_cons (j_var 3 (pv 3)) ja_nil)) j_int (nomark _)) (js_one js_never) js_nil)
      (js_cons (js_set (i := 4) sc_lesser.nd rfl (by first | exact Or.inl rfl | exact Or.inr rfl) (j_callB (cr_sumJ rfl) (by rfl) B.n_sum (by decide +kernel) (ja_cons (j_lc rfl sc_lesser.nd (ji_seq (j_callO O_sides_L0 (hr.mono (by decide)) (by rfl) (L2N.takes_of rfl rfl rfl rfl) (ja_cons (j_ix ir_ix (j_var 3 (pv 3)) j_int (fun _ _ => rfl)) ja_nil))) (blkOk_by (own := [("number", 10), ("side", 11)]) (by kernel_rfl)) (fun _ _ _ _ _ => (pg_tup rfl (pgs_cons (pg_name (i := 10) sc_lesser.nd rfl (by first | exact Or.inl rfl | exact Or.inr rfl)) (pgs_cons (pg_name (i := 11) sc_lesser.nd rfl (by first | exact Or.inl rfl | exact Or.inr rfl)) pgs_nil)))) (pat_tup (pats_cons (pat_nm 10) (pats_cons (pat_nm 11) pats_nil))) (fun _ _ _ _ _ => (jts_one (jt_cmp (or_eq hr) (j_var 11 (pv 11)) (j_var 2 (pv 2)) (nomark _)))) (fun _ _ _ _ _ => (j_var 10 (pv 10)))) ja_nil)))
      (js_cons (js_setLc (i := 5) rfl sc_lesser.nd rfl rfl (sw_true rfl rfl rfl (by decide +kernel)) (ji_seq (j_callO O_sides_L0 (hr.mono (by decide)) (by rfl) (L2N.takes_of rfl rfl rfl rfl) (ja_cons (j_ix ir_ix (j_var 3 (pv 3)) j_int (fun _ _ => rfl)) ja_nil))) (blkOk_by (own := [("number", 10), ("side", 11)]) (by kernel_rfl)) (fun _ _ _ _ _ => (pg_tup rfl (pgs_cons (pg_name (i := 10) sc_lesser.nd rfl (by first | exact Or.inl rfl | exact Or.inr rfl)) (pgs_cons (pg_name (i := 11) sc_lesser.nd rfl (by first | exact Or.inl rfl | exact Or.inr rfl)) pgs_nil)))) (pat_tup (pats_cons (pat_nm 10) (pats_cons (pat_nm 11) pats_nil))) (fun _ _ _ _ _ => (jts_one (jt_cmp (or_ne hr) (j_var 11 (pv 11)) (j_var 2 (pv 2)) (nomark _)))) (fun _ _ _ _ _ => (j_tup (ja_cons (j_bin or_mul (j_un ur_neg (j_var 4 (pv 4))) (j_var 10 (pv 10))) (ja_cons (j_var 11 (pv 11)) ja_nil)))))
      (js_cons (js_set (i := 6) sc_lesser.nd rfl (by first | exact Or.inl rfl | exact Or.inr rfl) (j_meth O_Web_without_M0 (hr.mono (by decide)) (j_var 0 (pv 0)) (ja_cons (j_var 2 (pv 2)) ja_nil)))
      (js_cons (js_setLc (i := 7) rfl sc_lesser.nd rfl rfl (sw_true rfl rfl rfl (by decide +kernel)) (ji_seq (j_meth O_Web_faces_M0 (hr.mono (by decide)) (j_var 6 (pv 6)) (ja_cons j_int ja_nil))) (blkOk_by (own := [("spot", 9)]) (by kernel_rfl)) (fun _ _ _ _ _ => (pg_name (i := 9) sc_lesser.nd rfl (by first | exact Or.inl rfl | exact Or.inr rfl))) (pat_nm 9) (fun _ _ _ _ _ => jts_nil) (fun _ _ _ _ _ => (j_tup (ja_cons (j_ix ir_ix (j_var 9 (pv 9)) j_int (fun _ _ => rfl)) (ja_cons (j_ix ir_ix (j_var 9 (pv 9)) j_int (fun _ _ => rfl)) ja_nil)))))
      (js_one (js_ret (j_make O_Step_init_C (hr.mono (by decide)) (by rfl) (ja_cons (j_var 0 (pv 0)) (ja_cons (j_var 6 (pv 6)) (ja_cons (j_var 7 (pv 7)) (ja_cons (j_frzD (j_dispT hr (j_var 2 (pv 2)) (j_callTy cr_tupleJ (by rfl) B.n_tuple (by decide +kernel) (ja_cons (j_var 5 (pv 5)) ja_nil)) (j_ix ir_ix (j_var 3 (pv 3)) j_int (fun _ _ => rfl)) (j_tup ja_nil))) ja_nil)))))))))))))))
theorem ok_lesser_L0 (B : Blt K mg) {f : Addr} {fd : FuncData} (D : Dm K "lesser" "lesser" s_lesser [] [] f fd) (O_Web_has_M0 : OkM P w K mg base 1 "Web" "has" 2 [] F_Web_has) (O_Web_around_M0 : OkM P w K mg base 2 "Web" "around" 2 [] F_Web_around) (O_sides_L0 : Ok1 P w K mg base 2 "sides" 1 [] F_sides) (O_Web_without_M0 : OkM P w K mg base 4 "Web" "without" 2 [] F_Web_without) (O_Web_faces_M0 : OkM P w K mg base 1 "Web" "faces" 2 [] F_Web_faces) (O_Step_init_C : OkC P w K mg base 4 "Step" 5 [] F_Step_init) (hm : mg "lesser" = some (.ref f)) : Ok1 P w K mg base 6 "lesser" 2 [] F_lesser := ok_of ⟨D.F, hm⟩ (fn_lesser B D O_Web_has_M0 O_Web_around_M0 O_sides_L0 O_Web_without_M0 O_Web_faces_M0 O_Step_init_C) (fun _ _ _ _ _ _ us hl => match us, hl with | [_, _], _ => rfl)
theorem sc_law_drawn_rests : FnScope ["_law_box_here", "_law_way"] ["_law_box_here"] (defScope s_law_drawn_rests) := ⟨rfl, rfl, rfl, by decide +kernel, rfl, by decide +kernel, by decide +kernel⟩
theorem fn_law_drawn_rests (B : Blt K mg) {f : Addr} {fd : FuncData} (D : Dm K "_law_drawn_rests" "_law_drawn_rests" s_law_drawn_rests [] [] f fd) (O_law_take_L0 : Ok1 P w K mg base 2 "_law_take" 2 [] F_law_take) : FnOk P w K mg base (L2N.CX P w) 3 f fd ["_law_box_here"] (spF ⟨K, mg⟩ 1 F_law_drawn_rests) :=
  fnokM_of (k := 2) (N := ["_law_box_here", "_law_way"]) (n := 2) D sc_law_drawn_rests rfl (by decide) rfl fun cdv A outer s H E hr =>
      (js_cons (js_set (i := 1) sc_law_drawn_rests.nd rfl (by first | exact Or.inl rfl | exact Or.inr rfl) (j_callO O_law_take_L0 (hr.mono (by decide)) (by rfl) (L2N.takes_of rfl rfl rfl rfl) (ja_cons (j_var 0 (pv 0)) (ja_cons j_int ja_nil))))
      (js_cons (js_if (jt_cmp or_lt (j_var 1 (pv 1)) j_int (nomark _)) (js_one (js_ret j_int)) js_nil)
      (js_one (js_ret (j_ix ir_ix (j_lst (ja_cons j_int (ja_cons j_int (ja_cons (j_bin or_add j_int (j_callO O_law_take_L0 (hr.mono (by decide)) (by rfl) (L2N.takes_of rfl rfl rfl rfl) (ja_cons (j_var 0 (pv 0)) (ja_cons j_int ja_nil)))) ja_nil)))) (j_bin or_sub (j_var 1 (pv 1)) j_int) (fun _ _ => rfl))))))
theorem ok_law_drawn_rests_L0 (B : Blt K mg) {f : Addr} {fd : FuncData} (D : Dm K "_law_drawn_rests" "_law_drawn_rests" s_law_drawn_rests [] [] f fd) (O_law_take_L0 : Ok1 P w K mg base 2 "_law_take" 2 [] F_law_take) (hm : mg "_law_drawn_rests" = some (.ref f)) : Ok1 P w K mg base 3 "_law_drawn_rests" 1 [] F_law_drawn_rests := ok_of ⟨D.F, hm⟩ (fn_law_drawn_rests B D O_law_take_L0) (fun _ _ _ _ _ _ us hl => match us, hl with | [_], _ => rfl)
theorem sc_law_sized : FnScope ["_law_every", "_law_size", "_law_face"] ["_law_every", "_law_size"] (defScope s_law_sized) := ⟨rfl, rfl, rfl, by decide +kernel, rfl, by decide +kernel, by decide +kernel⟩
theorem fn_law_sized (B : Blt K mg) {f : Addr} {fd : FuncData} (D : Dm K "_law_sized" "_law_sized" s_law_sized [] [] f fd) : FnOk P w K mg base (L2N.CX P w) 1 f fd ["_law_every", "_law_size"] (spF ⟨K, mg⟩ 2 F_law_sized) :=
  fnokM_of (k := 0) (N := ["_law_every", "_law_size", "_law_face"]) (n := 3) D sc_law_sized rfl (by decide) rfl fun cdv A outer s H E hr =>
      (js_one (js_ret (j_lc rfl sc_law_sized.nd (ji_seq (j_var 0 (pv 0))) (blkOk_by (own := [("_law_face", 2)]) (by kernel_rfl)) (fun _ _ _ _ _ => (pg_name (i := 2) sc_law_sized.nd rfl (by first | exact Or.inl rfl | exact Or.inr rfl))) (pat_nm 2) (fun _ _ _ _ _ => (jts_one (jt_cmp (or_eq hr) (j_callB cr_len (by rfl) B.n_len (by decide +kernel) (ja_cons (j_var 2 (pv 2)) ja_nil)) (j_bin or_add (j_var 1 (pv 1)) j_int) (nomark _)))) (fun _ _ _ _ _ => (j_var 2 (pv 2))))))
theorem ok_law_sized_L0 (B : Blt K mg) {f : Addr} {fd : FuncData} (D : Dm K "_law_sized" "_law_sized" s_law_sized [] [] f fd) (hm : mg "_law_sized" = some (.ref f)) : Ok1 P w K mg base 1 "_law_sized" 2 [] F_law_sized := ok_of ⟨D.F, hm⟩ (fn_law_sized B D) (fun _ _ _ _ _ _ us hl => match us, hl with | [_, _], _ => rfl)
theorem sc_law_few : FnScope ["_law_box_here", "_law_many", "_law_most", "_law_k"] ["_law_box_here", "_law_many", "_law_most"] (defScope s_law_few) := ⟨rfl, rfl, rfl, by decide +kernel, rfl, by decide +kernel, by decide +kernel⟩
theorem fn_law_few (B : Blt K mg) {f : Addr} {fd : FuncData} (D : Dm K "_law_few" "_law_few" s_law_few [] [] f fd) (O_law_take_L0 : Ok1 P w K mg base 2 "_law_take" 2 [] F_law_take) : FnOk P w K mg base (L2N.CX P w) 3 f fd ["_law_box_here", "_law_many", "_law_most"] (spF ⟨K, mg⟩ 3 F_law_few) :=
  fnokM_of (k := 2) (N := ["_law_box_here", "_law_many", "_law_most", "_law_k"]) (n := 4) D sc_law_few rfl (by decide) rfl fun cdv A outer s H E hr =>
      (js_one (js_ret (j_lc rfl sc_law_few.nd (ji_range1 (by rfl) B.n_range (j_var 1 (pv 1))) (blkOk_by (own := [("_law_k", 3)]) (by kernel_rfl)) (fun _ _ _ _ _ => (pg_name (i := 3) sc_law_few.nd rfl (by first | exact Or.inl rfl | exact Or.inr rfl))) (pat_nm 3) (fun _ _ _ _ _ => jts_nil) (fun _ _ _ _ _ => (j_bin or_sub (j_callO O_law_take_L0 (hr.mono (by decide)) (by rfl) takesN0 (ja_cons (j_var 0 (pv 0)) (ja_cons (j_bin or_add (j_bin or_mul j_int (j_var 2 (pv 2))) j_int) ja_nil))) (j_var 2 (pv 2)))))))
theorem ok_law_few_L0 (B : Blt K mg) {f : Addr} {fd : FuncData} (D : Dm K "_law_few" "_law_few" s_law_few [] [] f fd) (O_law_take_L0 : Ok1 P w K mg base 2 "_law_take" 2 [] F_law_take) (hm : mg "_law_few" = some (.ref f)) : Ok1 P w K mg base 3 "_law_few" 3 [] F_law_few := ok_of ⟨D.F, hm⟩ (fn_law_few B D O_law_take_L0) (fun _ _ _ _ _ _ us hl => match us, hl with | [_, _, _], _ => rfl)
theorem sc_law_sides : FnScope ["_law_face", "_law_found", "_law_at"] ["_law_face"] (defScope s_law_sides) := ⟨rfl, rfl, rfl, by decide +kernel, rfl, by decide +kernel, by decide +kernel⟩
theorem fn_law_sides (B : Blt K mg) {f : Addr} {fd : FuncData} (D : Dm K "_law_sides" "_law_sides" s_law_sides [] [] f fd) : FnOk P w K mg base (L2N.CX P w) 1 f fd ["_law_face"] (spF ⟨K, mg⟩ 1 F_law_sides) :=
  fnokM_of (k := 0) (N := ["_law_face", "_law_found", "_law_at"]) (n := 3) D sc_law_sides rfl (by decide) rfl fun cdv A outer s H E hr =>
      (js_cons (js_set (i := 1) sc_law_sides.nd rfl (by first | exact Or.inl rfl | exact Or.inr rfl) (j_lstO ja_nil))
      (js_cons (js_for (passes_of rfl) rfl (ji_range1 (by rfl) B.n_range (j_bin or_mul (j_callB cr_len (by rfl) B.n_len (by decide +kernel) (ja_cons (j_var 0 (pv 0)) ja_nil)) (j_callTy cr_intJ (by rfl) B.n_int (by decide +kernel) (ja_cons (j_cmp or_gt (j_callB cr_len (by rfl) B.n_len (by decide +kernel) (ja_cons (j_var 0 (pv 0)) ja_nil)) j_int (nomark _)) ja_nil)))) (pg_name (i := 2) sc_law_sides.nd rfl (by first | exact Or.inl rfl | exact Or.inr rfl)) (pat_nm 2) (js_one (js_expr (j_app (j_var 1 (pv 1)) (j_tup (ja_cons (j_bin or_sub j_int (j_bin or_mul j_int (j_bin or_mod (j_var 2 (pv 2)) j_int))) (ja_cons (j_bin or_add (j_sl (j_var 0 (pv 0)) jo_none (jo_some (j_var 2 (pv 2)))) (j_sl (j_var 0 (pv 0)) (jo_some (j_bin or_add (j_var 2 (pv 2)) j_int)) jo_none)) ja_nil)))))))
      (js_one (js_ret (j_frzD (j_var 1 (pv 1)))))))
theorem ok_law_sides_L0 (B : Blt K mg) {f : Addr} {fd : FuncData} (D : Dm K "_law_sides" "_law_sides" s_law_sides [] [] f fd) (hm : mg "_law_sides" = some (.ref f)) : Ok1 P w K mg base 1 "_law_sides" 1 [] F_law_sides := ok_of ⟨D.F, hm⟩ (fn_law_sides B D) (fun _ _ _ _ _ _ us hl => match us, hl with | [_], _ => rfl)
theorem sc_law_lesser_row : FnScope ["_law_every", "_law_fewer", "_law_face", "_law_above", "_law_size", "_law_row", "_law_faces", "_law_found", "_law_by", "_law_one", "_law_number", "_law_parts", "_law_times", "_law_there", "_law_side"] ["_law_every", "_law_fewer", "_law_face", "_law_above", "_law_size", "_law_row"] (defScope s_law_lesser_row) := ⟨rfl, rfl, rfl, by decide +kernel, rfl, by decide +kernel, by decide +kernel⟩
theorem fn_law_lesser_row (B : Blt K mg) {f : Addr} {fd : FuncData} (D : Dm K "_law_lesser_row" "_law_lesser_row" s_law_lesser_row [] [] f fd) (O_law_sized_L0 : Ok1 P w K mg base 1 "_law_sized" 2 [] F_law_sized) (O_law_sides_L0 : Ok1 P w K mg base 1 "_law_sides" 1 [] F_law_sides) : FnOk P w K mg base (L2N.CX P w) 2 f fd ["_law_every", "_law_fewer", "_law_face", "_law_above", "_law_size", "_law_row"] (spF ⟨K, mg⟩ 6 F_law_lesser_row) :=
  fnokM_of (k := 1) (N := ["_law_every", "_law_fewer", "_law_face", "_law_above", "_law_size", "_law_row", "_law_faces", "_law_found", "_law_by", "_law_one", "_law_number", "_law_parts", "_law_times", "_law_there", "_law_side"]) (n := 15) D sc_law_lesser_row rfl (by decide) rfl fun cdv A outer s H E hr =>
      (js_cons (js_set (i := 6) sc_law_lesser_row.nd rfl (by first | exact Or.inl rfl | exact Or.inr rfl) (j_callO O_law_sized_L0 (hr.mono (by decide)) (by rfl) (L2N.takes_of rfl rfl rfl rfl) (ja_cons (j_var 1 (pv 1)) (ja_cons (j_var 4 (pv 4)) ja_nil))))
      (js_cons (js_set (i := 7) sc_law_lesser_row.nd rfl (by first | exact Or.inl rfl | exact Or.inr rfl) (j_repO (j_lst (ja_cons j_int ja_nil)) (j_callB cr_len (by rfl) B.n_len (by decide +kernel) (ja_cons (j_var 6 (pv 6)) ja_nil))))
      (js_cons (js_set (i := 8) sc_law_lesser_row.nd rfl (by first | exact Or.inl rfl | exact Or.inr rfl) (j_ix ir_ix (j_lc rfl sc_law_lesser_row.nd (ji_seq (j_callO O_law_sides_L0 (hr.mono (by decide)) (by rfl) (L2N.takes_of rfl rfl rfl rfl) (ja_cons (j_var 3 (pv 3)) ja_nil))) (blkOk_by (own := [("_law_number", 10), ("_law_side", 14)]) (by kernel_rfl)) (fun _ _ _ _ _ => (pg_tup rfl (pgs_cons (pg_name (i := 10) sc_law_lesser_row.nd rfl (by first | exact Or.inl rfl | exact Or.inr rfl)) (pgs_cons (pg_name (i := 14) sc_law_lesser_row.nd rfl (by first | exact Or.inl rfl | exact Or.inr rfl)) pgs_nil)))) (pat_tup (pats_cons (pat_nm 10) (pats_cons (pat_nm 14) pats_nil))) (fun _ _ _ _ _ => (jts_one (jt_cmp (or_eq hr) (j_var 14 (pv 14)) (j_var 2 (pv 2)) (nomark _)))) (fun _ _ _ _ _ => (j_var 10 (pv 10)))) j_int (fun _ _ => rfl)))
      (js_cons (js_for (passes_of rfl) rfl (ji_zip (by rfl) B.n_zip (ja_cons (j_callO O_law_sized_L0 (hr.mono (by decide)) (by rfl) (L2N.takes_of rfl rfl rfl rfl) (ja_cons (j_var 0 (pv 0)) (ja_cons (j_var 4 (pv 4)) ja_nil))) (ja_cons (j_var 5 (pv 5)) ja_nil))) (pg_tup rfl (pgs_cons (pg_name (i := 9) sc_law_lesser_row.nd rfl (by first | exact Or.inl rfl | exact Or.inr rfl)) (pgs_cons (pg_name (i := 10) sc_law_lesser_row.nd rfl (by first | exact Or.inl rfl | exact Or.inr rfl)) pgs_nil))) (pat_tup (pats_cons (pat_nm 9) (pats_cons (pat_nm 10) pats_nil))) (js_cons (js_set (i := 11) sc_law_lesser_row.nd rfl (by first | exact Or.inl rfl | exact Or.inr rfl) (j_if (jt_cmp (or_ne hr) (j_var 9 (pv 9)) (j_var 3 (pv 3)) (nomark _)) (j_lst (ja_cons (j_tup (ja_cons j_int (ja_cons (j_var 9 (pv 9)) ja_nil))) ja_nil)) (j_lst ja_nil)))
      (js_cons (js_if (jt_cmp (or_eq hr) (j_var 9 (pv 9)) (j_var 2 (pv 2)) (nomark _)) (js_one (js_setLc (i := 11) rfl sc_law_lesser_row.nd rfl rfl (sw_true rfl rfl rfl (by decide +kernel)) (ji_seq (j_callO O_law_sides_L0 (hr.mono (by decide)) (by rfl) (L2N.takes_of rfl rfl rfl rfl) (ja_cons (j_var 3 (pv 3)) ja_nil))) (blkOk_by (own := [("_law_times", 12), ("_law_side", 14)]) (by kernel_rfl)) (fun _ _ _ _ _ => (pg_tup rfl (pgs_cons (pg_name (i := 12) sc_law_lesser_row.nd rfl (by first | exact Or.inl rfl | exact Or.inr rfl)) (pgs_cons (pg_name (i := 14) sc_law_lesser_row.nd rfl (by first | exact Or.inl rfl | exact Or.inr rfl)) pgs_nil)))) (pat_tup (pats_cons (pat_nm 12) (pats_cons (pat_nm 14) pats_nil))) (fun _ _ _ _ _ => (jts_one (jt_cmp (or_ne hr) (j_var 14 (pv 14)) (j_var 2 (pv 2)) (nomark _)))) (fun _ _ _ _ _ => (j_tup (ja_cons (j_bin or_mul (j_un ur_neg (j_var 8 (pv 8))) (j_var 12 (pv 12))) (ja_cons (j_var 14 (pv 14)) ja_nil)))))) js_nil)
      (js_one (js_for (passes_of rfl) rfl (ji_seq (j_var 11 (pv 11))) (pg_tup rfl (pgs_cons (pg_name (i := 12) sc_law_lesser_row.nd rfl (by first | exact Or.inl rfl | exact Or.inr rfl)) (pgs_cons (pg_name (i := 13) sc_law_lesser_row.nd rfl (by first | exact Or.inl rfl | exact Or.inr rfl)) pgs_nil))) (pat_tup (pats_cons (pat_nm 12) (pats_cons (pat_nm 13) pats_nil))) (js_one (js_augI (j_var 7 (pv 7)) (j_idx hr (j_var 6 (pv 6)) (j_var 13 (pv 13))) (j_bin or_mul (j_var 12 (pv 12)) (j_var 10 (pv 10))))))))))
      (js_one (js_ret (j_frzD (j_var 7 (pv 7)))))))))
theorem ok_law_lesser_row_L0 (B : Blt K mg) {f : Addr} {fd : FuncData} (D : Dm K "_law_lesser_row" "_law_lesser_row" s_law_lesser_row [] [] f fd) (O_law_sized_L0 : Ok1 P w K mg base 1 "_law_sized" 2 [] F_law_sized) (O_law_sides_L0 : Ok1 P w K mg base 1 "_law_sides" 1 [] F_law_sides) (hm : mg "_law_lesser_row" = some (.ref f)) : Ok1 P w K mg base 2 "_law_lesser_row" 6 [] F_law_lesser_row := ok_of ⟨D.F, hm⟩ (fn_law_lesser_row B D O_law_sized_L0 O_law_sides_L0) (fun _ _ _ _ _ _ us hl => match us, hl with | [_, _, _, _, _, _], _ => rfl)
theorem sc_look_rests : FnScope ["rests"] ["rests"] (defScope s_look_rests) := ⟨rfl, rfl, rfl, by decide +kernel, rfl, by decide +kernel, by decide +kernel⟩
theorem fn_look_rests (B : Blt K mg) {f : Addr} {fd : FuncData} (D : Dm K "look_rests" "look_rests" s_look_rests [] [] f fd) : FnOk P w K mg base (L2N.CX P w) 1 f fd ["rests"] (spF ⟨K, mg⟩ 1 F_look_rests) :=
  fnokM_of (k := 0) (N := ["rests"]) (n := 1) D sc_look_rests rfl (by decide) rfl fun cdv A outer s H E hr =>
      (js_one (js_if (PW.pt (jw_and (jt_cmp (or_ne hr) (j_var 0 (pv 0)) (j_globI (by rfl) B.g_WHOLE) (nomark _)) (jw_and1 (jt_not (jt_chain or_le or_le j_int (j_var 0 (pv 0)) (j_globI (by rfl) B.g_RESTS_MOST)))))) (js_one js_never) js_nil))
theorem ok_look_rests_L0 (B : Blt K mg) {f : Addr} {fd : FuncData} (D : Dm K "look_rests" "look_rests" s_look_rests [] [] f fd) (hm : mg "look_rests" = some (.ref f)) : Ok1 P w K mg base 1 "look_rests" 1 [] F_look_rests := ok_of ⟨D.F, hm⟩ (fn_look_rests B D) (fun _ _ _ _ _ _ us hl => match us, hl with | [_], _ => rfl)
theorem sc_Web_many : FnScope ["self", "size"] ["self", "size"] (defScope s_Web_many) := ⟨rfl, rfl, rfl, by decide +kernel, rfl, by decide +kernel, by decide +kernel⟩
theorem fn_Web_many (B : Blt K mg) {f : Addr} {fd : FuncData} (D : Dm K "many" "Web.many" s_Web_many [] [] f fd) : FnOk P w K mg base (L2N.CX P w) 1 f fd ["self", "size"] (spF ⟨K, mg⟩ 2 F_Web_many) :=
  fnokM_of (k := 0) (N := ["self", "size"]) (n := 2) D sc_Web_many rfl (by decide) rfl fun cdv A outer s H E hr =>
      (js_one (js_ret (j_if (jt_chain or_le or_le j_int (j_var 1 (pv 1)) (j_globI (by rfl) B.g_SIZE_MOST)) (j_callB cr_len (by rfl) B.n_len (by decide +kernel) (ja_cons (j_ix ir_ix (j_fld B.f_Web_table (j_var 0 (pv 0))) (j_var 1 (pv 1)) (fun _ _ => rfl)) ja_nil)) j_int)))
theorem ok_Web_many_M0 (B : Blt K mg) {f : Addr} {fd : FuncData} (D : Dm K "many" "Web.many" s_Web_many [] [] f fd) {C : Addr} (T : ClsT K mg "Web" C) (M : Meth K C "many" f) : OkM P w K mg base 1 "Web" "many" 2 [] F_Web_many := okM_of T M D (fn_Web_many B D) (fun _ _ _ _ _ _ us hl => match us, hl with | [_, _], _ => rfl)
theorem sc_look_row : FnScope ["web", "size", "row", "rests"] ["web", "size", "row", "rests"] (defScope s_look_row) := ⟨rfl, rfl, rfl, by decide +kernel, rfl, by decide +kernel, by decide +kernel⟩
theorem fn_look_row (B : Blt K mg) {f : Addr} {fd : FuncData} (D : Dm K "look_row" "look_row" s_look_row [] [] f fd) (O_look_rests_L0 : Ok1 P w K mg base 1 "look_rests" 1 [] F_look_rests) (O_Web_many_M0 : OkM P w K mg base 1 "Web" "many" 2 [] F_Web_many) : FnOk P w K mg base (L2N.CX P w) 2 f fd ["web", "size", "row", "rests"] (spF ⟨K, mg⟩ 4 F_look_row) :=
  fnokM_of (k := 1) (N := ["web", "size", "row", "rests"]) (n := 4) D sc_look_row rfl (by decide) rfl fun cdv A outer s H E hr =>
      (js_cons (js_if (jt_not (jt_chain or_le or_le j_int (j_var 1 (pv 1)) (j_globI (by rfl) B.g_SIZE_MOST))) (js_one js_never) js_nil)
      (js_cons (js_expr (j_callO O_look_rests_L0 (hr.mono (by decide)) (by rfl) (L2N.takes_of rfl rfl rfl rfl) (ja_cons (j_var 3 (pv 3)) ja_nil)))
      (js_one (js_if (jt_cmp (or_ne hr) (j_callB cr_len (by rfl) B.n_len (by decide +kernel) (ja_cons (j_var 2 (pv 2)) ja_nil)) (j_meth O_Web_many_M0 (hr.mono (by decide)) (j_var 0 (pv 0)) (ja_cons (j_var 1 (pv 1)) ja_nil)) (nomark _)) (js_one js_never) js_nil))))
theorem ok_look_row_L0 (B : Blt K mg) {f : Addr} {fd : FuncData} (D : Dm K "look_row" "look_row" s_look_row [] [] f fd) (O_look_rests_L0 : Ok1 P w K mg base 1 "look_rests" 1 [] F_look_rests) (O_Web_many_M0 : OkM P w K mg base 1 "Web" "many" 2 [] F_Web_many) (hm : mg "look_row" = some (.ref f)) : Ok1 P w K mg base 2 "look_row" 4 [] F_look_row := ok_of ⟨D.F, hm⟩ (fn_look_row B D O_look_rests_L0 O_Web_many_M0) (fun _ _ _ _ _ _ us hl => match us, hl with | [_, _, _, _], _ => rfl)
theorem sc_Step_parts : FnScope ["self", "face"] ["self", "face"] (defScope s_Step_parts) := ⟨rfl, rfl, rfl, by decide +kernel, rfl, by decide +kernel, by decide +kernel⟩
theorem fn_Step_parts (B : Blt K mg) {f : Addr} {fd : FuncData} (D : Dm K "parts" "Step.parts" s_Step_parts [] [] f fd) : FnOk P w K mg base (L2N.CX P w) 1 f fd ["self", "face"] (spF ⟨K, mg⟩ 2 F_Step_parts) :=
  fnokM_of (k := 0) (N := ["self", "face"]) (n := 2) D sc_Step_parts rfl (by decide) rfl fun cdv A outer s H E hr =>
      (js_one (js_ret (j_if (jt_cmp (or_in hr) (j_var 1 (pv 1)) (j_fld B.f_Step_moved (j_var 0 (pv 0))) rfl) (j_callTy cr_listJ (by rfl) B.n_list (by decide +kernel) (ja_cons (j_dget hr (j_fld B.f_Step_moved (j_var 0 (pv 0))) (j_var 1 (pv 1)) (fun _ _ => rfl)) ja_nil)) (j_lst (ja_cons (j_tup (ja_cons j_int (ja_cons (j_var 1 (pv 1)) ja_nil))) ja_nil)))))
theorem ok_Step_parts_M0 (B : Blt K mg) {f : Addr} {fd : FuncData} (D : Dm K "parts" "Step.parts" s_Step_parts [] [] f fd) {C : Addr} (T : ClsT K mg "Step" C) (M : Meth K C "parts" f) : OkM P w K mg base 1 "Step" "parts" 2 [] F_Step_parts := okM_of T M D (fn_Step_parts B D) (fun _ _ _ _ _ _ us hl => match us, hl with | [_, _], _ => rfl)
theorem sc_Web_place : FnScope ["self", "face"] ["self", "face"] (defScope s_Web_place) := ⟨rfl, rfl, rfl, by decide +kernel, rfl, by decide +kernel, by decide +kernel⟩
theorem fn_Web_place (B : Blt K mg) {f : Addr} {fd : FuncData} (D : Dm K "place" "Web.place" s_Web_place [] [] f fd) (O_Web_has_M0 : OkM P w K mg base 1 "Web" "has" 2 [] F_Web_has) : FnOk P w K mg base (L2N.CX P w) 2 f fd ["self", "face"] (spF ⟨K, mg⟩ 2 F_Web_place) :=
  fnokM_of (k := 1) (N := ["self", "face"]) (n := 2) D sc_Web_place rfl (by decide) rfl fun cdv A outer s H E hr =>
      (js_cons (js_if (jt_not (jt_val (j_meth O_Web_has_M0 (hr.mono (by decide)) (j_var 0 (pv 0)) (ja_cons (j_var 1 (pv 1)) ja_nil)))) (js_one js_never) js_nil)
      (js_one (js_ret (j_dget hr (j_fld B.f_Web_places (j_var 0 (pv 0))) (j_callTy cr_tupleJ (by rfl) B.n_tuple (by decide +kernel) (ja_cons (j_callB (cr_sortedJ hr.units) (by rfl) B.n_sorted (by decide +kernel) (ja_cons (j_var 1 (pv 1)) ja_nil)) ja_nil)) (fun _ _ => rfl)))))
theorem ok_Web_place_M0 (B : Blt K mg) {f : Addr} {fd : FuncData} (D : Dm K "place" "Web.place" s_Web_place [] [] f fd) (O_Web_has_M0 : OkM P w K mg base 1 "Web" "has" 2 [] F_Web_has) {C : Addr} (T : ClsT K mg "Web" C) (M : Meth K C "place" f) : OkM P w K mg base 2 "Web" "place" 2 [] F_Web_place := okM_of T M D (fn_Web_place B D O_Web_has_M0) (fun _ _ _ _ _ _ us hl => match us, hl with | [_, _], _ => rfl)
theorem sc_rest : FnScope ["number", "rests"] ["number", "rests"] (defScope s_rest) := ⟨rfl, rfl, rfl, by decide +kernel, rfl, by decide +kernel, by decide +kernel⟩
theorem fn_rest (B : Blt K mg) {f : Addr} {fd : FuncData} (D : Dm K "rest" "rest" s_rest [V.int 0] [] f fd) : FnOk P w K mg base (L2N.CX P w) 1 f fd ["number", "rests"] (spF ⟨K, mg⟩ 2 F_rest) :=
  fnokM_of (k := 0) (N := ["number", "rests"]) (n := 2) D sc_rest rfl (by decide) rfl fun cdv A outer s H E hr =>
      (js_one (js_ret (j_if (jt_cmp (or_eq hr) (j_var 1 (pv 1)) (j_globI (by rfl) B.g_WHOLE) (nomark _)) (j_var 0 (pv 0)) (j_bin or_mod (j_var 0 (pv 0)) (j_var 1 (pv 1))))))
theorem ok_rest_L0 (B : Blt K mg) {f : Addr} {fd : FuncData} (D : Dm K "rest" "rest" s_rest [V.int 0] [] f fd) (hm : mg "rest" = some (.ref f)) : Ok1 P w K mg base 1 "rest" 2 [] F_rest := okD_of ⟨D.F, hm⟩ (fn_rest B D) 2 1 (by simp) rfl (fun _ _ _ _ _ _ _ us its h1 h2 => match us, h1, its, h2 with | [_, _], _, [_], _ => ⟨_, rfl, rfl⟩) (fun _ _ => rfl)
theorem sc_rested : FnScope ["row", "rests", "number"] ["row", "rests"] (defScope s_rested) := ⟨rfl, rfl, rfl, by decide +kernel, rfl, by decide +kernel, by decide +kernel⟩
theorem fn_rested (B : Blt K mg) {f : Addr} {fd : FuncData} (D : Dm K "rested" "rested" s_rested [V.int 0] [] f fd) (O_rest_L0 : Ok1 P w K mg base 1 "rest" 2 [] F_rest) : FnOk P w K mg base (L2N.CX P w) 2 f fd ["row", "rests"] (spF ⟨K, mg⟩ 2 F_rested) :=
  fnokM_of (k := 1) (N := ["row", "rests", "number"]) (n := 3) D sc_rested rfl (by decide) rfl fun cdv A outer s H E hr =>
      (js_one (js_ret (j_lc rfl sc_rested.nd (ji_seq (j_var 0 (pv 0))) (blkOk_by (own := [("number", 2)]) (by kernel_rfl)) (fun _ _ _ _ _ => (pg_name (i := 2) sc_rested.nd rfl (by first | exact Or.inl rfl | exact Or.inr rfl))) (pat_nm 2) (fun _ _ _ _ _ => jts_nil) (fun _ _ _ _ _ => (j_callO O_rest_L0 (hr.mono (by decide)) (by rfl) takesN0 (ja_cons (j_var 2 (pv 2)) (ja_cons (j_var 1 (pv 1)) ja_nil)))))))
theorem ok_rested_L0 (B : Blt K mg) {f : Addr} {fd : FuncData} (D : Dm K "rested" "rested" s_rested [V.int 0] [] f fd) (O_rest_L0 : Ok1 P w K mg base 1 "rest" 2 [] F_rest) (hm : mg "rested" = some (.ref f)) : Ok1 P w K mg base 2 "rested" 2 [] F_rested := okD_of ⟨D.F, hm⟩ (fn_rested B D O_rest_L0) 2 1 (by simp) rfl (fun _ _ _ _ _ _ _ us its h1 h2 => match us, h1, its, h2 with | [_, _], _, [_], _ => ⟨_, rfl, rfl⟩) (fun _ _ => rfl)
theorem sc_Step_forth : FnScope ["self", "size", "row", "rests", "found", "face", "number", "by", "there"] ["self", "size", "row", "rests"] (defScope s_Step_forth) := ⟨rfl, rfl, rfl, by decide +kernel, rfl, by decide +kernel, by decide +kernel⟩
theorem fn_Step_forth (B : Blt K mg) {f : Addr} {fd : FuncData} (D : Dm K "forth" "Step.forth" s_Step_forth [] [("rests", V.int 0)] f fd) (O_look_row_L0 : Ok1 P w K mg base 2 "look_row" 4 [] F_look_row) (O_Web_many_M0 : OkM P w K mg base 1 "Web" "many" 2 [] F_Web_many) (O_Web_faces_M0 : OkM P w K mg base 1 "Web" "faces" 2 [] F_Web_faces) (O_Step_parts_M0 : OkM P w K mg base 1 "Step" "parts" 2 [] F_Step_parts) (O_Web_place_M0 : OkM P w K mg base 2 "Web" "place" 2 [] F_Web_place) (O_rested_L0 : Ok1 P w K mg base 2 "rested" 2 [] F_rested) : FnOk P w K mg base (L2N.CX P w) 3 f fd ["self", "size", "row", "rests"] (spF ⟨K, mg⟩ 4 F_Step_forth) :=
  fnokM_of (k := 2) (N := ["self", "size", "row", "rests", "found", "face", "number", "by", "there"]) (n := 9) D sc_Step_forth rfl (by decide) rfl fun cdv A outer s H E hr =>
      (js_cons (js_expr (j_callO O_look_row_L0 (hr.mono (by decide)) (by rfl) (L2N.takes_of rfl rfl rfl rfl) (ja_cons (j_fld B.f_Step_elder (j_var 0 (pv 0))) (ja_cons (j_var 1 (pv 1)) (ja_cons (j_var 2 (pv 2)) (ja_cons (j_var 3 (pv 3)) ja_nil))))))
      (js_cons (js_set (i := 4) sc_Step_forth.nd rfl (by first | exact Or.inl rfl | exact Or.inr rfl) (j_repO (j_lst (ja_cons j_int ja_nil)) (j_meth O_Web_many_M0 (hr.mono (by decide)) (j_fld B.f_Step_later (j_var 0 (pv 0))) (ja_cons (j_var 1 (pv 1)) ja_nil))))
      (js_cons (js_for (passes_of rfl) rfl (ji_zip (by rfl) B.n_zip (ja_cons (j_meth O_Web_faces_M0 (hr.mono (by decide)) (j_fld B.f_Step_elder (j_var 0 (pv 0))) (ja_cons (j_var 1 (pv 1)) ja_nil)) (ja_cons (j_var 2 (pv 2)) ja_nil))) (pg_tup rfl (pgs_cons (pg_name (i := 5) sc_Step_forth.nd rfl (by first | exact Or.inl rfl | exact Or.inr rfl)) (pgs_cons (pg_name (i := 6) sc_Step_forth.nd rfl (by first | exact Or.inl rfl | exact Or.inr rfl)) pgs_nil))) (pat_tup (pats_cons (pat_nm 5) (pats_cons (pat_nm 6) pats_nil))) (js_one (js_for (passes_of rfl) rfl (ji_seq (j_meth O_Step_parts_M0 (hr.mono (by decide)) (j_var 0 (pv 0)) (ja_cons (j_var 5 (pv 5)) ja_nil))) (pg_tup rfl (pgs_cons (pg_name (i := 7) sc_Step_forth.nd rfl (by first | exact Or.inl rfl | exact Or.inr rfl)) (pgs_cons (pg_name (i := 8) sc_Step_forth.nd rfl (by first | exact Or.inl rfl | exact Or.inr rfl)) pgs_nil))) (pat_tup (pats_cons (pat_nm 7) (pats_cons (pat_nm 8) pats_nil))) (js_one (js_augI (j_var 4 (pv 4)) (j_meth O_Web_place_M0 (hr.mono (by decide)) (j_fld B.f_Step_later (j_var 0 (pv 0))) (ja_cons (j_var 8 (pv 8)) ja_nil)) (j_bin or_mul (j_var 7 (pv 7)) (j_var 6 (pv 6))))))))
      (js_one (js_ret (j_callO O_rested_L0 (hr.mono (by decide)) (by rfl) (L2N.takes_of rfl rfl rfl rfl) (ja_cons (j_frzD (j_var 4 (pv 4))) (ja_cons (j_var 3 (pv 3)) ja_nil))))))))
theorem ok_Step_forth_MK (B : Blt K mg) {f : Addr} {fd : FuncData} (D : Dm K "forth" "Step.forth" s_Step_forth [] [("rests", V.int 0)] f fd) (O_look_row_L0 : Ok1 P w K mg base 2 "look_row" 4 [] F_look_row) (O_Web_many_M0 : OkM P w K mg base 1 "Web" "many" 2 [] F_Web_many) (O_Web_faces_M0 : OkM P w K mg base 1 "Web" "faces" 2 [] F_Web_faces) (O_Step_parts_M0 : OkM P w K mg base 1 "Step" "parts" 2 [] F_Step_parts) (O_Web_place_M0 : OkM P w K mg base 2 "Web" "place" 2 [] F_Web_place) (O_rested_L0 : Ok1 P w K mg base 2 "rested" 2 [] F_rested) {C : Addr} (T : ClsT K mg "Step" C) (M : Meth K C "forth" f) : OkMK P w K mg base 3 "Step" "forth" 2 ["rests"] 4 F_Step_forth := okMK_of T M D (fn_Step_forth B D O_look_row_L0 O_Web_many_M0 O_Web_faces_M0 O_Step_parts_M0 O_Web_place_M0 O_rested_L0) 2 ["rests"] (fun _ _ _ _ _ _ us ws h1 h2 => match us, h1, ws, h2 with | [_, _, _], _, [_], _ => rfl)
theorem ok_Step_forth_M1 (B : Blt K mg) {f : Addr} {fd : FuncData} (D : Dm K "forth" "Step.forth" s_Step_forth [] [("rests", V.int 0)] f fd) (O_look_row_L0 : Ok1 P w K mg base 2 "look_row" 4 [] F_look_row) (O_Web_many_M0 : OkM P w K mg base 1 "Web" "many" 2 [] F_Web_many) (O_Web_faces_M0 : OkM P w K mg base 1 "Web" "faces" 2 [] F_Web_faces) (O_Step_parts_M0 : OkM P w K mg base 1 "Step" "parts" 2 [] F_Step_parts) (O_Web_place_M0 : OkM P w K mg base 2 "Web" "place" 2 [] F_Web_place) (O_rested_L0 : Ok1 P w K mg base 2 "rested" 2 [] F_rested) {C : Addr} (T : ClsT K mg "Step" C) (M : Meth K C "forth" f) : OkM P w K mg base 3 "Step" "forth" 4 [.int 0] F_Step_forth := okM0_of T M D (fn_Step_forth B D O_look_row_L0 O_Web_many_M0 O_Web_faces_M0 O_Step_parts_M0 O_Web_place_M0 O_rested_L0) 3 (by simp) rfl (fun _ _ _ _ _ _ us ks h1 h2 => match us, h1, ks, h2 with | [_, _, _], _, [_], _ => ⟨_, _, _, _, _, _, rfl, rfl, rfl⟩) (fun _ _ => ⟨_, _, rfl, rt_int, rfl⟩)
theorem sc_law_rest : FnScope ["_law_number", "_law_fold"] ["_law_number", "_law_fold"] (defScope s_law_rest) := ⟨rfl, rfl, rfl, by decide +kernel, rfl, by decide +kernel, by decide +kernel⟩
theorem fn_law_rest (B : Blt K mg) {f : Addr} {fd : FuncData} (D : Dm K "_law_rest" "_law_rest" s_law_rest [] [] f fd) : FnOk P w K mg base (L2N.CX P w) 1 f fd ["_law_number", "_law_fold"] (spF ⟨K, mg⟩ 2 F_law_rest) :=
  fnokM_of (k := 0) (N := ["_law_number", "_law_fold"]) (n := 2) D sc_law_rest rfl (by decide) rfl fun cdv A outer s H E hr =>
      (js_one (js_ret (j_if (jt_cmp (or_eq hr) (j_var 1 (pv 1)) j_int (nomark _)) (j_var 0 (pv 0)) (j_bin or_mod (j_var 0 (pv 0)) (j_var 1 (pv 1))))))
theorem ok_law_rest_L0 (B : Blt K mg) {f : Addr} {fd : FuncData} (D : Dm K "_law_rest" "_law_rest" s_law_rest [] [] f fd) (hm : mg "_law_rest" = some (.ref f)) : Ok1 P w K mg base 1 "_law_rest" 2 [] F_law_rest := ok_of ⟨D.F, hm⟩ (fn_law_rest B D) (fun _ _ _ _ _ _ us hl => match us, hl with | [_, _], _ => rfl)
theorem sc_law_rested : FnScope ["_law_row", "_law_fold", "_law_number"] ["_law_row", "_law_fold"] (defScope s_law_rested) := ⟨rfl, rfl, rfl, by decide +kernel, rfl, by decide +kernel, by decide +kernel⟩
theorem fn_law_rested (B : Blt K mg) {f : Addr} {fd : FuncData} (D : Dm K "_law_rested" "_law_rested" s_law_rested [] [] f fd) (O_law_rest_L0 : Ok1 P w K mg base 1 "_law_rest" 2 [] F_law_rest) : FnOk P w K mg base (L2N.CX P w) 2 f fd ["_law_row", "_law_fold"] (spF ⟨K, mg⟩ 2 F_law_rested) :=
  fnokM_of (k := 1) (N := ["_law_row", "_law_fold", "_law_number"]) (n := 3) D sc_law_rested rfl (by decide) rfl fun cdv A outer s H E hr =>
      (js_one (js_ret (j_lc rfl sc_law_rested.nd (ji_seq (j_var 0 (pv 0))) (blkOk_by (own := [("_law_number", 2)]) (by kernel_rfl)) (fun _ _ _ _ _ => (pg_name (i := 2) sc_law_rested.nd rfl (by first | exact Or.inl rfl | exact Or.inr rfl))) (pat_nm 2) (fun _ _ _ _ _ => jts_nil) (fun _ _ _ _ _ => (j_callO O_law_rest_L0 (hr.mono (by decide)) (by rfl) takesN0 (ja_cons (j_var 2 (pv 2)) (ja_cons (j_var 1 (pv 1)) ja_nil)))))))
theorem ok_law_rested_L0 (B : Blt K mg) {f : Addr} {fd : FuncData} (D : Dm K "_law_rested" "_law_rested" s_law_rested [] [] f fd) (O_law_rest_L0 : Ok1 P w K mg base 1 "_law_rest" 2 [] F_law_rest) (hm : mg "_law_rested" = some (.ref f)) : Ok1 P w K mg base 2 "_law_rested" 2 [] F_law_rested := ok_of ⟨D.F, hm⟩ (fn_law_rested B D O_law_rest_L0) (fun _ _ _ _ _ _ us hl => match us, hl with | [_, _], _ => rfl)
theorem sc_law_alike : FnScope ["_law_found", "_law_due", "_law_one", "_law_other"] ["_law_found", "_law_due"] (defScope s_law_alike) := ⟨rfl, rfl, rfl, by decide +kernel, rfl, by decide +kernel, by decide +kernel⟩
theorem fn_law_alike (B : Blt K mg) {f : Addr} {fd : FuncData} (D : Dm K "_law_alike" "_law_alike" s_law_alike [] [] f fd) (hm : mg "_law_alike" = some (.ref f)) : ∀ d : Nat, FnOk P w K mg base (L2N.CX P w) (0 + d) f fd ["_law_found", "_law_due"] (spF ⟨K, mg⟩ 2 (F_law_alike d))
  | 0 => fn_no rfl
  | d + 1 => by
    have OkR : Ok1 P w K mg base (0 + d) "_law_alike" 2 [] (F_law_alike d) := ok_of ⟨D.F, hm⟩ (fn_law_alike B D hm d) (fun _ _ _ _ _ _ us hl => match us, hl with | [_, _], _ => rfl)
    exact fnokM_of (k := 0 + d) (N := ["_law_found", "_law_due", "_law_one", "_law_other"]) (n := 4) D sc_law_alike rfl (by decide) rfl fun cdv A outer s H E hr =>
      (js_cons (js_if (PW.pt (jw_or (jt_val (j_callB cr_isi (by rfl) B.n_isinstance (by decide +kernel) (ja_cons (j_var 1 (pv 1)) (ja_cons (j_ty (by rfl) B.n_list (by decide +kernel)) ja_nil)))) (jw_or1 (jt_val (j_callB cr_isi (by rfl) B.n_isinstance (by decide +kernel) (ja_cons (j_var 1 (pv 1)) (ja_cons (j_ty (by rfl) B.n_tuple (by decide +kernel)) ja_nil))))))) (js_cons (js_if (PW.pt (jw_or (jt_cmp (or_ne hr) (j_callB cr_isi (by rfl) B.n_isinstance (by decide +kernel) (ja_cons (j_var 0 (pv 0)) (ja_cons (j_ty (by rfl) B.n_list (by decide +kernel)) ja_nil))) (j_callB cr_isi (by rfl) B.n_isinstance (by decide +kernel) (ja_cons (j_var 1 (pv 1)) (ja_cons (j_ty (by rfl) B.n_list (by decide +kernel)) ja_nil))) (nomark _)) (jw_or1 (jt_cmp (or_ne hr) (j_callB cr_isi (by rfl) B.n_isinstance (by decide +kernel) (ja_cons (j_var 0 (pv 0)) (ja_cons (j_ty (by rfl) B.n_tuple (by decide +kernel)) ja_nil))) (j_callB cr_isi (by rfl) B.n_isinstance (by decide +kernel) (ja_cons (j_var 1 (pv 1)) (ja_cons (j_ty (by rfl) B.n_tuple (by decide +kernel)) ja_nil))) (nomark _))))) (js_one (js_ret j_bl)) js_nil)
      (js_one (js_ret (j_and (j_cmp (or_eq hr) (j_callB cr_len (by rfl) B.n_len (by decide +kernel) (ja_cons (j_var 0 (pv 0)) ja_nil)) (j_callB cr_len (by rfl) B.n_len (by decide +kernel) (ja_cons (j_var 1 (pv 1)) ja_nil)) (nomark _)) (j_one (j_callB (cr_allJ rfl) (by rfl) B.n_all (by decide +kernel) (ja_cons (j_lc rfl sc_law_alike.nd (ji_zip (by rfl) B.n_zip (ja_cons (j_var 0 (pv 0)) (ja_cons (j_var 1 (pv 1)) ja_nil))) (blkOk_by (own := [("_law_one", 2), ("_law_other", 3)]) (by kernel_rfl)) (fun _ _ _ _ _ => (pg_tup rfl (pgs_cons (pg_name (i := 2) sc_law_alike.nd rfl (by first | exact Or.inl rfl | exact Or.inr rfl)) (pgs_cons (pg_name (i := 3) sc_law_alike.nd rfl (by first | exact Or.inl rfl | exact Or.inr rfl)) pgs_nil)))) (pat_tup (pats_cons (pat_nm 2) (pats_cons (pat_nm 3) pats_nil))) (fun _ _ _ _ _ => jts_nil) (fun _ _ _ _ _ => (j_callO OkR hr (by rfl) takesN0 (ja_cons (j_var 2 (pv 2)) (ja_cons (j_var 3 (pv 3)) ja_nil))))) ja_nil))))))) js_nil)
      (js_cons (js_if (PW.pt (jw_or (jt_cmp or_isN (j_var 1 (pv 1)) j_non (nomark _)) (jw_or1 (jt_cmp or_isN (j_var 0 (pv 0)) j_non (nomark _))))) (js_one (js_ret (j_and (j_cmp or_isN (j_var 0 (pv 0)) j_non (nomark _)) (j_one (j_cmp or_isN (j_var 1 (pv 1)) j_non (nomark _)))))) js_nil)
      (js_cons (js_if (PW.pt (jw_or (jt_cmp (or_ne hr) (j_callB cr_isi (by rfl) B.n_isinstance (by decide +kernel) (ja_cons (j_var 0 (pv 0)) (ja_cons (j_ty (by rfl) B.n_bool (by decide +kernel)) ja_nil))) (j_callB cr_isi (by rfl) B.n_isinstance (by decide +kernel) (ja_cons (j_var 1 (pv 1)) (ja_cons (j_ty (by rfl) B.n_bool (by decide +kernel)) ja_nil))) (nomark _)) (jw_or1 (jt_cmp (or_ne hr) (j_callB cr_isi (by rfl) B.n_isinstance (by decide +kernel) (ja_cons (j_var 0 (pv 0)) (ja_cons (j_ty (by rfl) B.n_int (by decide +kernel)) ja_nil))) (j_callB cr_isi (by rfl) B.n_isinstance (by decide +kernel) (ja_cons (j_var 1 (pv 1)) (ja_cons (j_ty (by rfl) B.n_int (by decide +kernel)) ja_nil))) (nomark _))))) (js_one (js_ret j_bl)) js_nil)
      (js_one (js_ret (j_and (j_cmp (or_eq hr) (j_callB cr_isi (by rfl) B.n_isinstance (by decide +kernel) (ja_cons (j_var 0 (pv 0)) (ja_cons (j_ty (by rfl) B.n_str (by decide +kernel)) ja_nil))) (j_callB cr_isi (by rfl) B.n_isinstance (by decide +kernel) (ja_cons (j_var 1 (pv 1)) (ja_cons (j_ty (by rfl) B.n_str (by decide +kernel)) ja_nil))) (nomark _)) (j_one (j_cmp (or_eq hr) (j_var 0 (pv 0)) (j_var 1 (pv 1)) (nomark _)))))))))
theorem ok_law_alike_L0 (B : Blt K mg) {f : Addr} {fd : FuncData} (D : Dm K "_law_alike" "_law_alike" s_law_alike [] [] f fd) (hm : mg "_law_alike" = some (.ref f)) : Ok1 P w K mg base 4 "_law_alike" 2 [] (F_law_alike 4) := ok_of ⟨D.F, hm⟩ (fn_law_alike B D hm 4) (fun _ _ _ _ _ _ us hl => match us, hl with | [_, _], _ => rfl)
theorem sc_law_border : FnScope ["_law_every", "_law_size", "_law_row", "_law_rims", "_law_found", "_law_face", "_law_number", "_law_by", "_law_side"] ["_law_every", "_law_size", "_law_row"] (defScope s_law_border) := ⟨rfl, rfl, rfl, by decide +kernel, rfl, by decide +kernel, by decide +kernel⟩
theorem fn_law_border (B : Blt K mg) {f : Addr} {fd : FuncData} (D : Dm K "_law_border" "_law_border" s_law_border [] [] f fd) (O_law_sized_L0 : Ok1 P w K mg base 1 "_law_sized" 2 [] F_law_sized) (O_law_sides_L0 : Ok1 P w K mg base 1 "_law_sides" 1 [] F_law_sides) : FnOk P w K mg base (L2N.CX P w) 2 f fd ["_law_every", "_law_size", "_law_row"] (spF ⟨K, mg⟩ 3 F_law_border) :=
  fnokM_of (k := 1) (N := ["_law_every", "_law_size", "_law_row", "_law_rims", "_law_found", "_law_face", "_law_number", "_law_by", "_law_side"]) (n := 9) D sc_law_border rfl (by decide) rfl fun cdv A outer s H E hr =>
      (js_cons (js_set (i := 3) sc_law_border.nd rfl (by first | exact Or.inl rfl | exact Or.inr rfl) (j_callO O_law_sized_L0 (hr.mono (by decide)) (by rfl) (L2N.takes_of rfl rfl rfl rfl) (ja_cons (j_var 0 (pv 0)) (ja_cons (j_bin or_sub (j_var 1 (pv 1)) j_int) ja_nil))))
      (js_cons (js_set (i := 4) sc_law_border.nd rfl (by first | exact Or.inl rfl | exact Or.inr rfl) (j_repO (j_lst (ja_cons j_int ja_nil)) (j_callB cr_len (by rfl) B.n_len (by decide +kernel) (ja_cons (j_var 3 (pv 3)) ja_nil))))
      (js_cons (js_for (passes_of rfl) rfl (ji_zip (by rfl) B.n_zip (ja_cons (j_callO O_law_sized_L0 (hr.mono (by decide)) (by rfl) (L2N.takes_of rfl rfl rfl rfl) (ja_cons (j_var 0 (pv 0)) (ja_cons (j_var 1 (pv 1)) ja_nil))) (ja_cons (j_var 2 (pv 2)) ja_nil))) (pg_tup rfl (pgs_cons (pg_name (i := 5) sc_law_border.nd rfl (by first | exact Or.inl rfl | exact Or.inr rfl)) (pgs_cons (pg_name (i := 6) sc_law_border.nd rfl (by first | exact Or.inl rfl | exact Or.inr rfl)) pgs_nil))) (pat_tup (pats_cons (pat_nm 5) (pats_cons (pat_nm 6) pats_nil))) (js_one (js_for (passes_of rfl) rfl (ji_seq (j_callO O_law_sides_L0 (hr.mono (by decide)) (by rfl) (L2N.takes_of rfl rfl rfl rfl) (ja_cons (j_var 5 (pv 5)) ja_nil))) (pg_tup rfl (pgs_cons (pg_name (i := 7) sc_law_border.nd rfl (by first | exact Or.inl rfl | exact Or.inr rfl)) (pgs_cons (pg_name (i := 8) sc_law_border.nd rfl (by first | exact Or.inl rfl | exact Or.inr rfl)) pgs_nil))) (pat_tup (pats_cons (pat_nm 7) (pats_cons (pat_nm 8) pats_nil))) (js_one (js_augI (j_var 4 (pv 4)) (j_idx hr (j_var 3 (pv 3)) (j_var 8 (pv 8))) (j_bin or_mul (j_var 7 (pv 7)) (j_var 6 (pv 6))))))))
      (js_one (js_ret (j_frzD (j_var 4 (pv 4))))))))
theorem ok_law_border_L0 (B : Blt K mg) {f : Addr} {fd : FuncData} (D : Dm K "_law_border" "_law_border" s_law_border [] [] f fd) (O_law_sized_L0 : Ok1 P w K mg base 1 "_law_sized" 2 [] F_law_sized) (O_law_sides_L0 : Ok1 P w K mg base 1 "_law_sides" 1 [] F_law_sides) (hm : mg "_law_border" = some (.ref f)) : Ok1 P w K mg base 2 "_law_border" 3 [] F_law_border := ok_of ⟨D.F, hm⟩ (fn_law_border B D O_law_sized_L0 O_law_sides_L0) (fun _ _ _ _ _ _ us hl => match us, hl with | [_, _, _], _ => rfl)
theorem sc_Step_back : FnScope ["self", "size", "row", "rests", "found", "face", "by", "there"] ["self", "size", "row", "rests"] (defScope s_Step_back) := ⟨rfl, rfl, rfl, by decide +kernel, rfl, by decide +kernel, by decide +kernel⟩
theorem fn_Step_back (B : Blt K mg) {f : Addr} {fd : FuncData} (D : Dm K "back" "Step.back" s_Step_back [] [("rests", V.int 0)] f fd) (O_look_row_L0 : Ok1 P w K mg base 2 "look_row" 4 [] F_look_row) (O_Web_faces_M0 : OkM P w K mg base 1 "Web" "faces" 2 [] F_Web_faces) (O_Step_parts_M0 : OkM P w K mg base 1 "Step" "parts" 2 [] F_Step_parts) (O_Web_place_M0 : OkM P w K mg base 2 "Web" "place" 2 [] F_Web_place) (O_rested_L0 : Ok1 P w K mg base 2 "rested" 2 [] F_rested) : FnOk P w K mg base (L2N.CX P w) 3 f fd ["self", "size", "row", "rests"] (spF ⟨K, mg⟩ 4 F_Step_back) :=
  fnokM_of (k := 2) (N := ["self", "size", "row", "rests", "found", "face", "by", "there"]) (n := 8) D sc_Step_back rfl (by decide) rfl fun cdv A outer s H E hr =>
      (js_cons (js_expr (j_callO O_look_row_L0 (hr.mono (by decide)) (by rfl) (L2N.takes_of rfl rfl rfl rfl) (ja_cons (j_fld B.f_Step_later (j_var 0 (pv 0))) (ja_cons (j_var 1 (pv 1)) (ja_cons (j_var 2 (pv 2)) (ja_cons (j_var 3 (pv 3)) ja_nil))))))
      (js_cons (js_set (i := 4) sc_Step_back.nd rfl (by first | exact Or.inl rfl | exact Or.inr rfl) (j_lstO ja_nil))
      (js_cons (js_for (passes_of rfl) rfl (ji_seq (j_meth O_Web_faces_M0 (hr.mono (by decide)) (j_fld B.f_Step_elder (j_var 0 (pv 0))) (ja_cons (j_var 1 (pv 1)) ja_nil))) (pg_name (i := 5) sc_Step_back.nd rfl (by first | exact Or.inl rfl | exact Or.inr rfl)) (pat_nm 5) (js_one (js_expr (j_app (j_var 4 (pv 4)) (j_callB (cr_sumJ rfl) (by rfl) B.n_sum (by decide +kernel) (ja_cons (j_lc rfl sc_Step_back.nd (ji_seq (j_meth O_Step_parts_M0 (hr.mono (by decide)) (j_var 0 (pv 0)) (ja_cons (j_var 5 (pv 5)) ja_nil))) (blkOk_by (own := [("by", 6), ("there", 7)]) (by kernel_rfl)) (fun _ _ _ _ _ => (pg_tup rfl (pgs_cons (pg_name (i := 6) sc_Step_back.nd rfl (by first | exact Or.inl rfl | exact Or.inr rfl)) (pgs_cons (pg_name (i := 7) sc_Step_back.nd rfl (by first | exact Or.inl rfl | exact Or.inr rfl)) pgs_nil)))) (pat_tup (pats_cons (pat_nm 6) (pats_cons (pat_nm 7) pats_nil))) (fun _ _ _ _ _ => jts_nil) (fun _ _ _ _ _ => (j_bin or_mul (j_var 6 (pv 6)) (j_ix ir_ix (j_var 2 (pv 2)) (j_meth O_Web_place_M0 (hr.mono (by decide)) (j_fld B.f_Step_later (j_var 0 (pv 0))) (ja_cons (j_var 7 (pv 7)) ja_nil)) (fun _ _ => rfl))))) ja_nil))))))
      (js_one (js_ret (j_callO O_rested_L0 (hr.mono (by decide)) (by rfl) (L2N.takes_of rfl rfl rfl rfl) (ja_cons (j_frzD (j_var 4 (pv 4))) (ja_cons (j_var 3 (pv 3)) ja_nil))))))))
theorem ok_Step_back_M1 (B : Blt K mg) {f : Addr} {fd : FuncData} (D : Dm K "back" "Step.back" s_Step_back [] [("rests", V.int 0)] f fd) (O_look_row_L0 : Ok1 P w K mg base 2 "look_row" 4 [] F_look_row) (O_Web_faces_M0 : OkM P w K mg base 1 "Web" "faces" 2 [] F_Web_faces) (O_Step_parts_M0 : OkM P w K mg base 1 "Step" "parts" 2 [] F_Step_parts) (O_Web_place_M0 : OkM P w K mg base 2 "Web" "place" 2 [] F_Web_place) (O_rested_L0 : Ok1 P w K mg base 2 "rested" 2 [] F_rested) {C : Addr} (T : ClsT K mg "Step" C) (M : Meth K C "back" f) : OkM P w K mg base 3 "Step" "back" 4 [.int 0] F_Step_back := okM0_of T M D (fn_Step_back B D O_look_row_L0 O_Web_faces_M0 O_Step_parts_M0 O_Web_place_M0 O_rested_L0) 3 (by simp) rfl (fun _ _ _ _ _ _ us ks h1 h2 => match us, h1, ks, h2 with | [_, _, _], _, [_], _ => ⟨_, _, _, _, _, _, rfl, rfl, rfl⟩) (fun _ _ => ⟨_, _, rfl, rt_int, rfl⟩)
theorem ok_Step_back_MK (B : Blt K mg) {f : Addr} {fd : FuncData} (D : Dm K "back" "Step.back" s_Step_back [] [("rests", V.int 0)] f fd) (O_look_row_L0 : Ok1 P w K mg base 2 "look_row" 4 [] F_look_row) (O_Web_faces_M0 : OkM P w K mg base 1 "Web" "faces" 2 [] F_Web_faces) (O_Step_parts_M0 : OkM P w K mg base 1 "Step" "parts" 2 [] F_Step_parts) (O_Web_place_M0 : OkM P w K mg base 2 "Web" "place" 2 [] F_Web_place) (O_rested_L0 : Ok1 P w K mg base 2 "rested" 2 [] F_rested) {C : Addr} (T : ClsT K mg "Step" C) (M : Meth K C "back" f) : OkMK P w K mg base 3 "Step" "back" 2 ["rests"] 4 F_Step_back := okMK_of T M D (fn_Step_back B D O_look_row_L0 O_Web_faces_M0 O_Step_parts_M0 O_Web_place_M0 O_rested_L0) 2 ["rests"] (fun _ _ _ _ _ _ us ws h1 h2 => match us, h1, ws, h2 with | [_, _, _], _, [_], _ => rfl)
theorem sc_law_whole_list : FnScope ["_law_found", "_law_many", "_law_one"] ["_law_found", "_law_many"] (defScope s_law_whole_list) := ⟨rfl, rfl, rfl, by decide +kernel, rfl, by decide +kernel, by decide +kernel⟩
theorem fn_law_whole_list (B : Blt K mg) {f : Addr} {fd : FuncData} (D : Dm K "_law_whole_list" "_law_whole_list" s_law_whole_list [] [] f fd) : FnOk P w K mg base (L2N.CX P w) 1 f fd ["_law_found", "_law_many"] (spF ⟨K, mg⟩ 2 F_law_whole_list) :=
  fnokM_of (k := 0) (N := ["_law_found", "_law_many", "_law_one"]) (n := 3) D sc_law_whole_list rfl (by decide) rfl fun cdv A outer s H E hr =>
      (js_cons (js_if (PW.pt (jw_or (jt_not (jt_val (j_callB cr_isi (by rfl) B.n_isinstance (by decide +kernel) (ja_cons (j_var 0 (pv 0)) (ja_cons (j_ty (by rfl) B.n_list (by decide +kernel)) ja_nil))))) (jw_or1 (jt_cmp (or_ne hr) (j_callB cr_len (by rfl) B.n_len (by decide +kernel) (ja_cons (j_var 0 (pv 0)) ja_nil)) (j_var 1 (pv 1)) (nomark _))))) (js_one (js_ret j_bl)) js_nil)
      (js_one (js_ret (j_callB (cr_allJ rfl) (by rfl) B.n_all (by decide +kernel) (ja_cons (j_lc rfl sc_law_whole_list.nd (ji_seq (j_var 0 (pv 0))) (blkOk_by (own := [("_law_one", 2)]) (by kernel_rfl)) (fun _ _ _ _ _ => (pg_name (i := 2) sc_law_whole_list.nd rfl (by first | exact Or.inl rfl | exact Or.inr rfl))) (pat_nm 2) (fun _ _ _ _ _ => jts_nil) (fun _ _ _ _ _ => (j_and (j_callB cr_isi (by rfl) B.n_isinstance (by decide +kernel) (ja_cons (j_var 2 (pv 2)) (ja_cons (j_ty (by rfl) B.n_int (by decide +kernel)) ja_nil))) (j_one (j_not (j_callB cr_isi (by rfl) B.n_isinstance (by decide +kernel) (ja_cons (j_var 2 (pv 2)) (ja_cons (j_ty (by rfl) B.n_bool (by decide +kernel)) ja_nil)))))))) ja_nil)))))
theorem ok_law_whole_list_L0 (B : Blt K mg) {f : Addr} {fd : FuncData} (D : Dm K "_law_whole_list" "_law_whole_list" s_law_whole_list [] [] f fd) (hm : mg "_law_whole_list" = some (.ref f)) : Ok1 P w K mg base 1 "_law_whole_list" 2 [] F_law_whole_list := ok_of ⟨D.F, hm⟩ (fn_law_whole_list B D) (fun _ _ _ _ _ _ us hl => match us, hl with | [_, _], _ => rfl)
theorem sc_law_sum : FnScope ["_law_one", "_law_other", "_law_a", "_law_b"] ["_law_one", "_law_other"] (defScope s_law_sum) := ⟨rfl, rfl, rfl, by decide +kernel, rfl, by decide +kernel, by decide +kernel⟩
theorem fn_law_sum (B : Blt K mg) {f : Addr} {fd : FuncData} (D : Dm K "_law_sum" "_law_sum" s_law_sum [] [] f fd) : FnOk P w K mg base (L2N.CX P w) 1 f fd ["_law_one", "_law_other"] (spF ⟨K, mg⟩ 2 F_law_sum) :=
  fnokM_of (k := 0) (N := ["_law_one", "_law_other", "_law_a", "_law_b"]) (n := 4) D sc_law_sum rfl (by decide) rfl fun cdv A outer s H E hr =>
      (js_one (js_ret (j_callB (cr_sumJ rfl) (by rfl) B.n_sum (by decide +kernel) (ja_cons (j_lc rfl sc_law_sum.nd (ji_zip (by rfl) B.n_zip (ja_cons (j_var 0 (pv 0)) (ja_cons (j_var 1 (pv 1)) ja_nil))) (blkOk_by (own := [("_law_a", 2), ("_law_b", 3)]) (by kernel_rfl)) (fun _ _ _ _ _ => (pg_tup rfl (pgs_cons (pg_name (i := 2) sc_law_sum.nd rfl (by first | exact Or.inl rfl | exact Or.inr rfl)) (pgs_cons (pg_name (i := 3) sc_law_sum.nd rfl (by first | exact Or.inl rfl | exact Or.inr rfl)) pgs_nil)))) (pat_tup (pats_cons (pat_nm 2) (pats_cons (pat_nm 3) pats_nil))) (fun _ _ _ _ _ => jts_nil) (fun _ _ _ _ _ => (j_bin or_mul (j_var 2 (pv 2)) (j_var 3 (pv 3))))) ja_nil))))
theorem ok_law_sum_L0 (B : Blt K mg) {f : Addr} {fd : FuncData} (D : Dm K "_law_sum" "_law_sum" s_law_sum [] [] f fd) (hm : mg "_law_sum" = some (.ref f)) : Ok1 P w K mg base 1 "_law_sum" 2 [] F_law_sum := ok_of ⟨D.F, hm⟩ (fn_law_sum B D) (fun _ _ _ _ _ _ us hl => match us, hl with | [_, _], _ => rfl)
theorem sc_law_rise : FnScope ["_law_every", "_law_size", "_law_row", "_law_mine", "_law_found", "_law_face", "_law_by", "_law_side"] ["_law_every", "_law_size", "_law_row"] (defScope s_law_rise) := ⟨rfl, rfl, rfl, by decide +kernel, rfl, by decide +kernel, by decide +kernel⟩
theorem fn_law_rise (B : Blt K mg) {f : Addr} {fd : FuncData} (D : Dm K "_law_rise" "_law_rise" s_law_rise [] [] f fd) (O_law_sized_L0 : Ok1 P w K mg base 1 "_law_sized" 2 [] F_law_sized) (O_law_sides_L0 : Ok1 P w K mg base 1 "_law_sides" 1 [] F_law_sides) : FnOk P w K mg base (L2N.CX P w) 2 f fd ["_law_every", "_law_size", "_law_row"] (spF ⟨K, mg⟩ 3 F_law_rise) :=
  fnokM_of (k := 1) (N := ["_law_every", "_law_size", "_law_row", "_law_mine", "_law_found", "_law_face", "_law_by", "_law_side"]) (n := 8) D sc_law_rise rfl (by decide) rfl fun cdv A outer s H E hr =>
      (js_cons (js_set (i := 3) sc_law_rise.nd rfl (by first | exact Or.inl rfl | exact Or.inr rfl) (j_callO O_law_sized_L0 (hr.mono (by decide)) (by rfl) (L2N.takes_of rfl rfl rfl rfl) (ja_cons (j_var 0 (pv 0)) (ja_cons (j_var 1 (pv 1)) ja_nil))))
      (js_cons (js_set (i := 4) sc_law_rise.nd rfl (by first | exact Or.inl rfl | exact Or.inr rfl) (j_lstO ja_nil))
      (js_cons (js_for (passes_of rfl) rfl (ji_seq (j_callO O_law_sized_L0 (hr.mono (by decide)) (by rfl) (L2N.takes_of rfl rfl rfl rfl) (ja_cons (j_var 0 (pv 0)) (ja_cons (j_bin or_add (j_var 1 (pv 1)) j_int) ja_nil)))) (pg_name (i := 5) sc_law_rise.nd rfl (by first | exact Or.inl rfl | exact Or.inr rfl)) (pat_nm 5) (js_one (js_expr (j_app (j_var 4 (pv 4)) (j_callB (cr_sumJ rfl) (by rfl) B.n_sum (by decide +kernel) (ja_cons (j_lc rfl sc_law_rise.nd (ji_seq (j_callO O_law_sides_L0 (hr.mono (by decide)) (by rfl) (L2N.takes_of rfl rfl rfl rfl) (ja_cons (j_var 5 (pv 5)) ja_nil))) (blkOk_by (own := [("_law_by", 6), ("_law_side", 7)]) (by kernel_rfl)) (fun _ _ _ _ _ => (pg_tup rfl (pgs_cons (pg_name (i := 6) sc_law_rise.nd rfl (by first | exact Or.inl rfl | exact Or.inr rfl)) (pgs_cons (pg_name (i := 7) sc_law_rise.nd rfl (by first | exact Or.inl rfl | exact Or.inr rfl)) pgs_nil)))) (pat_tup (pats_cons (pat_nm 6) (pats_cons (pat_nm 7) pats_nil))) (fun _ _ _ _ _ => jts_nil) (fun _ _ _ _ _ => (j_bin or_mul (j_var 6 (pv 6)) (j_ix ir_ix (j_var 2 (pv 2)) (j_idx hr (j_var 3 (pv 3)) (j_var 7 (pv 7))) (fun _ _ => rfl))))) ja_nil))))))
      (js_one (js_ret (j_frzD (j_var 4 (pv 4))))))))
theorem ok_law_rise_L0 (B : Blt K mg) {f : Addr} {fd : FuncData} (D : Dm K "_law_rise" "_law_rise" s_law_rise [] [] f fd) (O_law_sized_L0 : Ok1 P w K mg base 1 "_law_sized" 2 [] F_law_sized) (O_law_sides_L0 : Ok1 P w K mg base 1 "_law_sides" 1 [] F_law_sides) (hm : mg "_law_rise" = some (.ref f)) : Ok1 P w K mg base 2 "_law_rise" 3 [] F_law_rise := ok_of ⟨D.F, hm⟩ (fn_law_rise B D O_law_sized_L0 O_law_sides_L0) (fun _ _ _ _ _ _ us hl => match us, hl with | [_, _, _], _ => rfl)
theorem sc_in_order : FnScope ["points", "turns", "other", "point", "at", "one"] ["points"] (defScope s_in_order) := ⟨rfl, rfl, rfl, by decide +kernel, rfl, by decide +kernel, by decide +kernel⟩
theorem fn_in_order (B : Blt K mg) {f : Addr} {fd : FuncData} (D : Dm K "in_order" "in_order" s_in_order [] [] f fd) (O_sign_L0 : Ok1 P w K mg base 1 "sign" 1 [] F_sign) : FnOk P w K mg base (L2N.CX P w) 2 f fd ["points"] (spF ⟨K, mg⟩ 1 F_in_order) :=
  fnokM_of (k := 1) (N := ["points", "turns", "other", "point", "at", "one"]) (n := 6) D sc_in_order rfl (by decide) rfl fun cdv A outer s H E hr =>
      (js_cons (js_if (jt_cmp or_lt (j_lenSc rfl sc_in_order.nd (by rfl) B.n_len (ji_seq (j_var 0 (pv 0))) (blkOk_by (own := [("point", 3)]) (by kernel_rfl)) (fun _ _ _ _ _ => (pg_name (i := 3) sc_in_order.nd rfl (by first | exact Or.inl rfl | exact Or.inr rfl))) (pat_nm 3) (fun _ _ _ _ _ => (j_var 3 (pv 3)))) (j_callB cr_len (by rfl) B.n_len (by decide +kernel) (ja_cons (j_var 0 (pv 0)) ja_nil)) (nomark _)) (js_one (js_ret (j_tup (ja_cons j_int (ja_cons (j_tup ja_nil) ja_nil))))) js_nil)
      (js_cons (js_set (i := 1) sc_in_order.nd rfl (by first | exact Or.inl rfl | exact Or.inr rfl) (j_callB (cr_sumJ rfl) (by rfl) B.n_sum (by decide +kernel) (ja_cons (j_lc2 rfl sc_in_order.nd (ji_enum (by rfl) B.n_enumerate (ja_cons (j_var 0 (pv 0)) ja_nil)) (blkOk_by (own := [("at", 4), ("one", 5), ("other", 2)]) (by kernel_rfl)) (fun _ _ _ _ _ => (pg_tup rfl (pgs_cons (pg_name (i := 4) sc_in_order.nd rfl (by first | exact Or.inl rfl | exact Or.inr rfl)) (pgs_cons (pg_name (i := 5) sc_in_order.nd rfl (by first | exact Or.inl rfl | exact Or.inr rfl)) pgs_nil)))) (pat_tup (pats_cons (pat_nm 4) (pats_cons (pat_nm 5) pats_nil))) (by decide) (fun _ _ _ _ _ => jts_nil) (fun _ _ _ _ _ => (ji_seq (j_sl (j_var 0 (pv 0)) (jo_some (j_bin or_add (j_var 4 (pv 4)) j_int)) jo_none))) (fun _ _ _ _ _ => (pg_name (i := 2) sc_in_order.nd rfl (by first | exact Or.inl rfl | exact Or.inr rfl))) (pat_nm 2) (by decide) (fun _ _ _ _ _ => (jts_one (jt_cmp or_lt (j_var 2 (pv 2)) (j_var 5 (pv 5)) (nomark _)))) (fun _ _ _ _ _ => j_int)) ja_nil)))
      (js_one (js_ret (j_tup (ja_cons (j_callO O_sign_L0 (hr.mono (by decide)) (by rfl) (L2N.takes_of rfl rfl rfl rfl) (ja_cons (j_var 1 (pv 1)) ja_nil)) (ja_cons (j_callTy cr_tupleJ (by rfl) B.n_tuple (by decide +kernel) (ja_cons (j_callB (cr_sortedJ hr.units) (by rfl) B.n_sorted (by decide +kernel) (ja_cons (j_var 0 (pv 0)) ja_nil)) ja_nil)) ja_nil)))))))
theorem ok_in_order_L0 (B : Blt K mg) {f : Addr} {fd : FuncData} (D : Dm K "in_order" "in_order" s_in_order [] [] f fd) (O_sign_L0 : Ok1 P w K mg base 1 "sign" 1 [] F_sign) (hm : mg "in_order" = some (.ref f)) : Ok1 P w K mg base 2 "in_order" 1 [] F_in_order := ok_of ⟨D.F, hm⟩ (fn_in_order B D O_sign_L0) (fun _ _ _ _ _ _ us hl => match us, hl with | [_], _ => rfl)
theorem sc_Map_led : FnScope ["self", "face", "point"] ["self", "face"] (defScope s_Map_led) := ⟨rfl, rfl, rfl, by decide +kernel, rfl, by decide +kernel, by decide +kernel⟩
theorem fn_Map_led (B : Blt K mg) {f : Addr} {fd : FuncData} (D : Dm K "led" "Map.led" s_Map_led [] [] f fd) (O_in_order_L0 : Ok1 P w K mg base 2 "in_order" 1 [] F_in_order) : FnOk P w K mg base (L2N.CX P w) 3 f fd ["self", "face"] (spF ⟨K, mg⟩ 2 F_Map_led) :=
  fnokM_of (k := 2) (N := ["self", "face", "point"]) (n := 3) D sc_Map_led rfl (by decide) rfl fun cdv A outer s H E hr =>
      (js_one (js_ret (j_callO O_in_order_L0 (hr.mono (by decide)) (by rfl) (L2N.takes_of rfl rfl rfl rfl) (ja_cons (j_lc rfl sc_Map_led.nd (ji_seq (j_var 1 (pv 1))) (blkOk_by (own := [("point", 2)]) (by kernel_rfl)) (fun _ _ _ _ _ => (pg_name (i := 2) sc_Map_led.nd rfl (by first | exact Or.inl rfl | exact Or.inr rfl))) (pat_nm 2) (fun _ _ _ _ _ => jts_nil) (fun _ _ _ _ _ => (j_kget hr (j_fld B.f_Map_lead (j_var 0 (pv 0))) (j_var 2 (pv 2)) (fun _ _ => rfl)))) ja_nil))))
theorem ok_Map_led_M0 (B : Blt K mg) {f : Addr} {fd : FuncData} (D : Dm K "led" "Map.led" s_Map_led [] [] f fd) (O_in_order_L0 : Ok1 P w K mg base 2 "in_order" 1 [] F_in_order) {C : Addr} (T : ClsT K mg "Map" C) (M : Meth K C "led" f) : OkM P w K mg base 3 "Map" "led" 2 [] F_Map_led := okM_of T M D (fn_Map_led B D O_in_order_L0) (fun _ _ _ _ _ _ us hl => match us, hl with | [_, _], _ => rfl)
theorem sc_Map_forth : FnScope ["self", "size", "row", "rests", "found", "face", "number", "by", "there"] ["self", "size", "row", "rests"] (defScope s_Map_forth) := ⟨rfl, rfl, rfl, by decide +kernel, rfl, by decide +kernel, by decide +kernel⟩
theorem fn_Map_forth (B : Blt K mg) {f : Addr} {fd : FuncData} (D : Dm K "forth" "Map.forth" s_Map_forth [] [("rests", V.int 0)] f fd) (O_look_row_L0 : Ok1 P w K mg base 2 "look_row" 4 [] F_look_row) (O_Web_many_M0 : OkM P w K mg base 1 "Web" "many" 2 [] F_Web_many) (O_Web_faces_M0 : OkM P w K mg base 1 "Web" "faces" 2 [] F_Web_faces) (O_Map_led_M0 : OkM P w K mg base 3 "Map" "led" 2 [] F_Map_led) (O_Web_place_M0 : OkM P w K mg base 2 "Web" "place" 2 [] F_Web_place) (O_rested_L0 : Ok1 P w K mg base 2 "rested" 2 [] F_rested) : FnOk P w K mg base (L2N.CX P w) 4 f fd ["self", "size", "row", "rests"] (spF ⟨K, mg⟩ 4 F_Map_forth) :=
  fnokM_of (k := 3) (N := ["self", "size", "row", "rests", "found", "face", "number", "by", "there"]) (n := 9) D sc_Map_forth rfl (by decide) rfl fun cdv A outer s H E hr =>
      (js_cons (js_expr (j_callO O_look_row_L0 (hr.mono (by decide)) (by rfl) (L2N.takes_of rfl rfl rfl rfl) (ja_cons (j_fld B.f_Map_one (j_var 0 (pv 0))) (ja_cons (j_var 1 (pv 1)) (ja_cons (j_var 2 (pv 2)) (ja_cons (j_var 3 (pv 3)) ja_nil))))))
      (js_cons (js_set (i := 4) sc_Map_forth.nd rfl (by first | exact Or.inl rfl | exact Or.inr rfl) (j_repO (j_lst (ja_cons j_int ja_nil)) (j_meth O_Web_many_M0 (hr.mono (by decide)) (j_fld B.f_Map_other (j_var 0 (pv 0))) (ja_cons (j_var 1 (pv 1)) ja_nil))))
      (js_cons (js_for (passes_of rfl) rfl (ji_zip (by rfl) B.n_zip (ja_cons (j_meth O_Web_faces_M0 (hr.mono (by decide)) (j_fld B.f_Map_one (j_var 0 (pv 0))) (ja_cons (j_var 1 (pv 1)) ja_nil)) (ja_cons (j_var 2 (pv 2)) ja_nil))) (pg_tup rfl (pgs_cons (pg_name (i := 5) sc_Map_forth.nd rfl (by first | exact Or.inl rfl | exact Or.inr rfl)) (pgs_cons (pg_name (i := 6) sc_Map_forth.nd rfl (by first | exact Or.inl rfl | exact Or.inr rfl)) pgs_nil))) (pat_tup (pats_cons (pat_nm 5) (pats_cons (pat_nm 6) pats_nil))) (js_cons (js_asg (j_meth O_Map_led_M0 (hr.mono (by decide)) (j_var 0 (pv 0)) (ja_cons (j_var 5 (pv 5)) ja_nil)) (pg_tup rfl (pgs_cons (pg_name (i := 7) sc_Map_forth.nd rfl (by first | exact Or.inl rfl | exact Or.inr rfl)) (pgs_cons (pg_name (i := 8) sc_Map_forth.nd rfl (by first | exact Or.inl rfl | exact Or.inr rfl)) pgs_nil))) (pat_tup (pats_cons (pat_nm 7) (pats_cons (pat_nm 8) pats_nil))))
      (js_one (js_if (jt_cmp (or_ne hr) (j_var 7 (pv 7)) j_int (nomark _)) (js_one (js_augI (j_var 4 (pv 4)) (j_meth O_Web_place_M0 (hr.mono (by decide)) (j_fld B.f_Map_other (j_var 0 (pv 0))) (ja_cons (j_var 8 (pv 8)) ja_nil)) (j_bin or_mul (j_var 7 (pv 7)) (j_var 6 (pv 6))))) js_nil))))
      (js_one (js_ret (j_callO O_rested_L0 (hr.mono (by decide)) (by rfl) (L2N.takes_of rfl rfl rfl rfl) (ja_cons (j_frzD (j_var 4 (pv 4))) (ja_cons (j_var 3 (pv 3)) ja_nil))))))))
theorem ok_Map_forth_M1 (B : Blt K mg) {f : Addr} {fd : FuncData} (D : Dm K "forth" "Map.forth" s_Map_forth [] [("rests", V.int 0)] f fd) (O_look_row_L0 : Ok1 P w K mg base 2 "look_row" 4 [] F_look_row) (O_Web_many_M0 : OkM P w K mg base 1 "Web" "many" 2 [] F_Web_many) (O_Web_faces_M0 : OkM P w K mg base 1 "Web" "faces" 2 [] F_Web_faces) (O_Map_led_M0 : OkM P w K mg base 3 "Map" "led" 2 [] F_Map_led) (O_Web_place_M0 : OkM P w K mg base 2 "Web" "place" 2 [] F_Web_place) (O_rested_L0 : Ok1 P w K mg base 2 "rested" 2 [] F_rested) {C : Addr} (T : ClsT K mg "Map" C) (M : Meth K C "forth" f) : OkM P w K mg base 4 "Map" "forth" 4 [.int 0] F_Map_forth := okM0_of T M D (fn_Map_forth B D O_look_row_L0 O_Web_many_M0 O_Web_faces_M0 O_Map_led_M0 O_Web_place_M0 O_rested_L0) 3 (by simp) rfl (fun _ _ _ _ _ _ us ks h1 h2 => match us, h1, ks, h2 with | [_, _, _], _, [_], _ => ⟨_, _, _, _, _, _, rfl, rfl, rfl⟩) (fun _ _ => ⟨_, _, rfl, rt_int, rfl⟩)
theorem sc_law : FnScope ["_law_script", "_law_box_here", "_law_every", "_law_free_here", "_law_face", "_law_above", "_law_fewer", "_law_step", "_law_fold", "_law_size", "_law_row", "_law_due", "_law_handed", "_law_found", "_law_low", "_law_cut", "_law_back", "_law_high", "_law_other"] ["_law_script"] (defScope s_law) := ⟨rfl, rfl, rfl, by decide +kernel, rfl, by decide +kernel, by decide +kernel⟩
theorem fn_law (B : Blt K mg) {f : Addr} {fd : FuncData} (D : Dm K "law" "law" s_law [] [] f fd) (O_law_box_L0 : Ok1 P w K mg base 1 "_law_box" 1 [] F_law_box) (O_law_small_tops_L0 : Ok1 P w K mg base 5 "_law_small_tops" 1 [] F_law_small_tops) (O_law_closed_L0 : Ok1 P w K mg base 2 "_law_closed" 1 [] F_law_closed) (O_law_free_L0 : Ok1 P w K mg base 1 "_law_free" 1 [] F_law_free) (O_law_take_L0 : Ok1 P w K mg base 2 "_law_take" 2 [] F_law_take) (O_Web_init_C : OkC P w K mg base 2 "Web" 2 [] F_Web_init) (O_lesser_L0 : Ok1 P w K mg base 6 "lesser" 2 [] F_lesser) (O_law_drawn_rests_L0 : Ok1 P w K mg base 3 "_law_drawn_rests" 1 [] F_law_drawn_rests) (O_law_sized_L0 : Ok1 P w K mg base 1 "_law_sized" 2 [] F_law_sized) (O_law_few_L0 : Ok1 P w K mg base 3 "_law_few" 3 [] F_law_few) (O_law_lesser_row_L0 : Ok1 P w K mg base 2 "_law_lesser_row" 6 [] F_law_lesser_row) (O_Step_forth_MK : OkMK P w K mg base 3 "Step" "forth" 2 ["rests"] 4 F_Step_forth) (O_Step_forth_M1 : OkM P w K mg base 3 "Step" "forth" 4 [.int 0] F_Step_forth) (O_law_rested_L0 : Ok1 P w K mg base 2 "_law_rested" 2 [] F_law_rested) (O_law_alike_L0 : Ok1 P w K mg base 4 "_law_alike" 2 [] (F_law_alike 4)) (O_law_border_L0 : Ok1 P w K mg base 2 "_law_border" 3 [] F_law_border) (O_Step_back_M1 : OkM P w K mg base 3 "Step" "back" 4 [.int 0] F_Step_back) (O_law_whole_list_L0 : Ok1 P w K mg base 1 "_law_whole_list" 2 [] F_law_whole_list) (O_law_sum_L0 : Ok1 P w K mg base 1 "_law_sum" 2 [] F_law_sum) (O_Step_back_MK : OkMK P w K mg base 3 "Step" "back" 2 ["rests"] 4 F_Step_back) (O_law_rise_L0 : Ok1 P w K mg base 2 "_law_rise" 3 [] F_law_rise) (O_Map_forth_M1 : OkM P w K mg base 4 "Map" "forth" 4 [.int 0] F_Map_forth) : FnOk P w K mg base (L2N.CX P w) 7 f fd ["_law_script"] (spF ⟨K, mg⟩ 1 F_law) :=
  fnokM_of (k := 6) (N := ["_law_script", "_law_box_here", "_law_every", "_law_free_here", "_law_face", "_law_above", "_law_fewer", "_law_step", "_law_fold", "_law_size", "_law_row", "_law_due", "_law_handed", "_law_found", "_law_low", "_law_cut", "_law_back", "_law_high", "_law_other"]) (n := 19) D sc_law rfl (by decide) rfl fun cdv A outer s H E hr =>
      (js_cons (js_set (i := 1) sc_law.nd rfl (by first | exact Or.inl rfl | exact Or.inr rfl) (j_callO O_law_box_L0 (hr.mono (by decide)) (by rfl) (L2N.takes_of rfl rfl rfl rfl) (ja_cons (j_var 0 (pv 0)) ja_nil)))
      (js_cons (js_set (i := 2) sc_law.nd rfl (by first | exact Or.inl rfl | exact Or.inr rfl) (j_callO O_law_closed_L0 (hr.mono (by decide)) (by rfl) (L2N.takes_of rfl rfl rfl rfl) (ja_cons (j_callO O_law_small_tops_L0 (hr.mono (by decide)) (by rfl) (L2N.takes_of rfl rfl rfl rfl) (ja_cons (j_var 1 (pv 1)) ja_nil)) ja_nil)))
      (js_cons (js_set (i := 3) sc_law.nd rfl (by first | exact Or.inl rfl | exact Or.inr rfl) (j_callO O_law_free_L0 (hr.mono (by decide)) (by rfl) (L2N.takes_of rfl rfl rfl rfl) (ja_cons (j_var 2 (pv 2)) ja_nil)))
      (js_cons (js_if (jt_cmp (or_eq hr) (j_var 3 (pv 3)) (j_lst ja_nil) (nomark _)) (js_one (js_ret j_bl)) js_nil)
      (js_cons (js_set (i := 4) sc_law.nd rfl (by first | exact Or.inl rfl | exact Or.inr rfl) (j_ix ir_ix (j_var 3 (pv 3)) (j_callO O_law_take_L0 (hr.mono (by decide)) (by rfl) (L2N.takes_of rfl rfl rfl rfl) (ja_cons (j_var 1 (pv 1)) (ja_cons (j_callB cr_len (by rfl) B.n_len (by decide +kernel) (ja_cons (j_var 3 (pv 3)) ja_nil)) ja_nil))) (fun _ _ => rfl)))
      (js_cons (js_set (i := 5) sc_law.nd rfl (by first | exact Or.inl rfl | exact Or.inr rfl) (j_ix ir_ix (j_lc rfl sc_law.nd (ji_seq (j_var 2 (pv 2))) (blkOk_by (own := [("_law_other", 18)]) (by kernel_rfl)) (fun _ _ _ _ _ => (pg_name (i := 18) sc_law.nd rfl (by first | exact Or.inl rfl | exact Or.inr rfl))) (pat_nm 18) (fun _ _ _ _ _ => (jts_one (PW.pt (jw_and (jt_setSub (ne := false) hr rfl (by rfl) B.n_set (j_var 4 (pv 4)) (pv 18)) (jw_and1 (jt_cmp (or_ne hr) (j_var 18 (pv 18)) (j_var 4 (pv 4)) (nomark _))))))) (fun _ _ _ _ _ => (j_var 18 (pv 18)))) j_int (fun _ _ => rfl)))
      (js_cons (js_setLc (i := 6) rfl sc_law.nd rfl rfl (sw_true rfl rfl rfl (by decide +kernel)) (ji_seq (j_var 2 (pv 2))) (blkOk_by (own := [("_law_other", 18)]) (by kernel_rfl)) (fun _ _ _ _ _ => (pg_name (i := 18) sc_law.nd rfl (by first | exact Or.inl rfl | exact Or.inr rfl))) (pat_nm 18) (fun _ _ _ _ _ => (jts_one (jt_cmp (or_notInT hr) (j_var 18 (pv 18)) (j_tup (ja_cons (j_var 4 (pv 4)) (ja_cons (j_var 5 (pv 5)) ja_nil))) rfl))) (fun _ _ _ _ _ => (j_var 18 (pv 18))))
      (js_cons (js_set (i := 7) sc_law.nd rfl (by first | exact Or.inl rfl | exact Or.inr rfl) (j_callO O_lesser_L0 (hr.mono (by decide)) (by rfl) (L2N.takes_of rfl rfl rfl rfl) (ja_cons (j_make O_Web_init_C (hr.mono (by decide)) (by rfl) (ja_cons (j_callTy cr_listJ (by rfl) B.n_list (by decide +kernel) (ja_cons (j_var 2 (pv 2)) ja_nil)) ja_nil)) (ja_cons (j_var 4 (pv 4)) ja_nil))))
      (js_cons (js_set (i := 8) sc_law.nd rfl (by first | exact Or.inl rfl | exact Or.inr rfl) (j_callO O_law_drawn_rests_L0 (hr.mono (by decide)) (by rfl) (L2N.takes_of rfl rfl rfl rfl) (ja_cons (j_var 1 (pv 1)) ja_nil)))
      (js_cons (js_for (passes_of rfl) rfl (ji_range1 (by rfl) B.n_range j_int) (pg_name (i := 9) sc_law.nd rfl (by first | exact Or.inl rfl | exact Or.inr rfl)) (pat_nm 9) (js_cons (js_set (i := 10) sc_law.nd rfl (by first | exact Or.inl rfl | exact Or.inr rfl) (j_callO O_law_few_L0 (hr.mono (by decide)) (by rfl) (L2N.takes_of rfl rfl rfl rfl) (ja_cons (j_var 1 (pv 1)) (ja_cons (j_callB cr_len (by rfl) B.n_len (by decide +kernel) (ja_cons (j_callO O_law_sized_L0 (hr.mono (by decide)) (by rfl) (L2N.takes_of rfl rfl rfl rfl) (ja_cons (j_var 2 (pv 2)) (ja_cons (j_var 9 (pv 9)) ja_nil))) ja_nil)) (ja_cons j_int ja_nil)))))
      (js_cons (js_set (i := 11) sc_law.nd rfl (by first | exact Or.inl rfl | exact Or.inr rfl) (j_callO O_law_lesser_row_L0 (hr.mono (by decide)) (by rfl) (L2N.takes_of rfl rfl rfl rfl) (ja_cons (j_var 2 (pv 2)) (ja_cons (j_var 6 (pv 6)) (ja_cons (j_var 4 (pv 4)) (ja_cons (j_var 5 (pv 5)) (ja_cons (j_var 9 (pv 9)) (ja_cons (j_var 10 (pv 10)) ja_nil))))))))
      (js_cons (js_set (i := 12) sc_law.nd rfl (by first | exact Or.inl rfl | exact Or.inr rfl) (j_callTy cr_listJ (by rfl) B.n_list (by decide +kernel) (ja_cons (j_var 10 (pv 10)) ja_nil)))
      (js_cons (js_set (i := 13) sc_law.nd rfl (by first | exact Or.inl rfl | exact Or.inr rfl) (j_lst (ja_cons (j_meth O_Step_forth_M1 (hr.mono (by decide)) (j_var 7 (pv 7)) (ja_cons (j_var 9 (pv 9)) (ja_cons (j_var 12 (pv 12)) ja_nil))) (ja_cons (j_methKw O_Step_forth_MK (hr.mono (by decide)) (j_var 7 (pv 7)) (ja_cons (j_var 9 (pv 9)) (ja_cons (j_var 12 (pv 12)) ja_nil)) (jk_cons (j_var 8 (pv 8)) jk_nil)) ja_nil))))
      (js_cons (js_if (PW.pt (jw_or (jt_not (jt_val (j_callO O_law_alike_L0 (hr.mono (by decide)) (by rfl) (L2N.takes_of rfl rfl rfl rfl) (ja_cons (j_var 13 (pv 13)) (ja_cons (j_lst (ja_cons (j_var 11 (pv 11)) (ja_cons (j_callO O_law_rested_L0 (hr.mono (by decide)) (by rfl) (L2N.takes_of rfl rfl rfl rfl) (ja_cons (j_var 11 (pv 11)) (ja_cons (j_var 8 (pv 8)) ja_nil))) ja_nil))) ja_nil))))) (jw_or1 (jt_cmp (or_ne hr) (j_var 12 (pv 12)) (j_var 10 (pv 10)) (nomark _))))) (js_one (js_ret j_bl)) js_nil)
      (js_cons (js_set (i := 14) sc_law.nd rfl (by first | exact Or.inl rfl | exact Or.inr rfl) (j_callO O_law_border_L0 (hr.mono (by decide)) (by rfl) (L2N.takes_of rfl rfl rfl rfl) (ja_cons (j_var 2 (pv 2)) (ja_cons (j_var 9 (pv 9)) (ja_cons (j_var 10 (pv 10)) ja_nil)))))
      (js_cons (js_if (PW.pt (jw_and (jt_cmp or_gt (j_var 9 (pv 9)) j_int (nomark _)) (jw_and1 (jt_cmp (or_ne hr) (j_meth O_Step_forth_M1 (hr.mono (by decide)) (j_var 7 (pv 7)) (ja_cons (j_bin or_sub (j_var 9 (pv 9)) j_int) (ja_cons (j_var 14 (pv 14)) ja_nil))) (j_callO O_law_border_L0 (hr.mono (by decide)) (by rfl) (L2N.takes_of rfl rfl rfl rfl) (ja_cons (j_var 6 (pv 6)) (ja_cons (j_var 9 (pv 9)) (ja_cons (j_var 11 (pv 11)) ja_nil)))) (nomark _))))) (js_one (js_ret j_bl)) js_nil)
      (js_cons (js_set (i := 15) sc_law.nd rfl (by first | exact Or.inl rfl | exact Or.inr rfl) (j_callO O_law_few_L0 (hr.mono (by decide)) (by rfl) (L2N.takes_of rfl rfl rfl rfl) (ja_cons (j_var 1 (pv 1)) (ja_cons (j_callB cr_len (by rfl) B.n_len (by decide +kernel) (ja_cons (j_var 11 (pv 11)) ja_nil)) (ja_cons j_int ja_nil)))))
      (js_cons (js_set (i := 16) sc_law.nd rfl (by first | exact Or.inl rfl | exact Or.inr rfl) (j_meth O_Step_back_M1 (hr.mono (by decide)) (j_var 7 (pv 7)) (ja_cons (j_var 9 (pv 9)) (ja_cons (j_var 15 (pv 15)) ja_nil))))
      (js_cons (js_if (PW.pt (jw_or (jt_not (jt_val (j_callO O_law_whole_list_L0 (hr.mono (by decide)) (by rfl) (L2N.takes_of rfl rfl rfl rfl) (ja_cons (j_var 16 (pv 16)) (ja_cons (j_callB cr_len (by rfl) B.n_len (by decide +kernel) (ja_cons (j_var 10 (pv 10)) ja_nil)) ja_nil))))) (jw_or1 (jt_cmp (or_ne hr) (j_callO O_law_sum_L0 (hr.mono (by decide)) (by rfl) (L2N.takes_of rfl rfl rfl rfl) (ja_cons (j_var 16 (pv 16)) (ja_cons (j_var 10 (pv 10)) ja_nil))) (j_callO O_law_sum_L0 (hr.mono (by decide)) (by rfl) (L2N.takes_of rfl rfl rfl rfl) (ja_cons (j_var 15 (pv 15)) (ja_cons (j_var 11 (pv 11)) ja_nil))) (nomark _))))) (js_one (js_ret j_bl)) js_nil)
      (js_cons (js_if (jt_not (jt_val (j_callO O_law_alike_L0 (hr.mono (by decide)) (by rfl) (L2N.takes_of rfl rfl rfl rfl) (ja_cons (j_methKw O_Step_back_MK (hr.mono (by decide)) (j_var 7 (pv 7)) (ja_cons (j_var 9 (pv 9)) (ja_cons (j_var 15 (pv 15)) ja_nil)) (jk_cons (j_var 8 (pv 8)) jk_nil)) (ja_cons (j_callO O_law_rested_L0 (hr.mono (by decide)) (by rfl) (L2N.takes_of rfl rfl rfl rfl) (ja_cons (j_var 16 (pv 16)) (ja_cons (j_var 8 (pv 8)) ja_nil))) ja_nil))))) (js_one (js_ret j_bl)) js_nil)
      (js_cons (js_set (i := 17) sc_law.nd rfl (by first | exact Or.inl rfl | exact Or.inr rfl) (j_callO O_law_rise_L0 (hr.mono (by decide)) (by rfl) (L2N.takes_of rfl rfl rfl rfl) (ja_cons (j_var 6 (pv 6)) (ja_cons (j_var 9 (pv 9)) (ja_cons (j_var 15 (pv 15)) ja_nil)))))
      (js_cons (js_if (PW.pt (jw_and (jt_cmp or_lt (j_var 9 (pv 9)) j_int (nomark _)) (jw_and1 (jt_cmp (or_ne hr) (j_meth O_Step_back_M1 (hr.mono (by decide)) (j_var 7 (pv 7)) (ja_cons (j_bin or_add (j_var 9 (pv 9)) j_int) (ja_cons (j_var 17 (pv 17)) ja_nil))) (j_callO O_law_rise_L0 (hr.mono (by decide)) (by rfl) (L2N.takes_of rfl rfl rfl rfl) (ja_cons (j_var 2 (pv 2)) (ja_cons (j_var 9 (pv 9)) (ja_cons (j_var 16 (pv 16)) ja_nil)))) (nomark _))))) (js_one (js_ret j_bl)) js_nil)
      (js_one (js_if (jt_not (jt_val (j_callO O_law_alike_L0 (hr.mono (by decide)) (by rfl) (L2N.takes_of rfl rfl rfl rfl) (ja_cons (j_meth O_Step_forth_M1 (hr.mono (by decide)) (j_var 7 (pv 7)) (ja_cons (j_var 9 (pv 9)) (ja_cons (j_meth O_Map_forth_M1 (hr.mono (by decide)) (j_fld B.f_Step_home (j_var 7 (pv 7))) (ja_cons (j_var 9 (pv 9)) (ja_cons (j_var 15 (pv 15)) ja_nil))) ja_nil))) (ja_cons (j_var 15 (pv 15)) ja_nil))))) (js_one (js_ret j_bl)) js_nil))))))))))))))))
      (js_one (js_ret j_bl))))))))))))
end
theorem all_mk {P : Program} {w : World} {K : PySem.W.Frag} {h : Heap} {mg : Str → Option Value} {fa : Addr} (X : K.In h) (G : h.Ns mainGlobals mg) (hfa : mg "law" = some (.ref fa))
    {C_Web : Addr}
    {C_Step : Addr}
    {C_Map : Addr}
    {yt_FACES_MOST : Tok}
    {yt_POINTS_MOST : Tok}
    {yt_RESTS_MOST : Tok}
    {yt_SIZE_MOST : Tok}
    {yt_WHOLE : Tok}
    {f0 : Addr} {od0 an0 : Option Addr} {sl0 : Array (Option Value)} {oc0 kV0 dc0 pm0 cd0 ct0 : Value}
    {f1 : Addr} {od1 an1 : Option Addr} {sl1 : Array (Option Value)} {oc1 kV1 dc1 pm1 cd1 ct1 : Value}
    {f2 : Addr} {od2 an2 : Option Addr} {sl2 : Array (Option Value)} {oc2 kV2 dc2 pm2 cd2 ct2 : Value}
    {f3 : Addr} {od3 an3 : Option Addr} {sl3 : Array (Option Value)} {oc3 kV3 dc3 pm3 cd3 ct3 : Value}
    {f4 : Addr} {od4 an4 : Option Addr} {sl4 : Array (Option Value)} {oc4 kV4 dc4 pm4 cd4 ct4 : Value}
    {f5 : Addr} {od5 an5 : Option Addr} {sl5 : Array (Option Value)} {oc5 kV5 dc5 pm5 cd5 ct5 : Value}
    {f6 : Addr} {od6 an6 : Option Addr} {sl6 : Array (Option Value)} {oc6 kV6 dc6 pm6 cd6 ct6 : Value}
    {f7 : Addr} {od7 an7 : Option Addr} {sl7 : Array (Option Value)} {oc7 kV7 dc7 pm7 cd7 ct7 : Value}
    {f8 : Addr} {od8 an8 : Option Addr} {sl8 : Array (Option Value)} {oc8 kV8 dc8 pm8 cd8 ct8 : Value}
    {f9 : Addr} {od9 an9 : Option Addr} {sl9 : Array (Option Value)} {oc9 kV9 dc9 pm9 cd9 ct9 : Value}
    {f10 : Addr} {od10 an10 : Option Addr} {sl10 : Array (Option Value)} {oc10 kV10 dc10 pm10 cd10 ct10 : Value}
    {f11 : Addr} {od11 an11 : Option Addr} {sl11 : Array (Option Value)} {oc11 kV11 dc11 pm11 cd11 ct11 : Value}
    {f12 : Addr} {od12 an12 : Option Addr} {sl12 : Array (Option Value)} {oc12 kV12 dc12 pm12 cd12 ct12 : Value}
    {f13 : Addr} {od13 an13 : Option Addr} {sl13 : Array (Option Value)} {oc13 kV13 dc13 pm13 cd13 ct13 : Value}
    {tp13_0 : Addr}
    {T13 : Addr} {dO13 : Obj} {dn13 : Nat}
    {f14 : Addr} {od14 an14 : Option Addr} {sl14 : Array (Option Value)} {oc14 kV14 dc14 pm14 cd14 ct14 : Value}
    {f15 : Addr} {od15 an15 : Option Addr} {sl15 : Array (Option Value)} {oc15 kV15 dc15 pm15 cd15 ct15 : Value}
    {f16 : Addr} {od16 an16 : Option Addr} {sl16 : Array (Option Value)} {oc16 kV16 dc16 pm16 cd16 ct16 : Value}
    {f17 : Addr} {od17 an17 : Option Addr} {sl17 : Array (Option Value)} {oc17 kV17 dc17 pm17 cd17 ct17 : Value}
    {f18 : Addr} {od18 an18 : Option Addr} {sl18 : Array (Option Value)} {oc18 kV18 dc18 pm18 cd18 ct18 : Value}
    {f19 : Addr} {od19 an19 : Option Addr} {sl19 : Array (Option Value)} {oc19 kV19 dc19 pm19 cd19 ct19 : Value}
    {f20 : Addr} {od20 an20 : Option Addr} {sl20 : Array (Option Value)} {oc20 kV20 dc20 pm20 cd20 ct20 : Value}
    {f21 : Addr} {od21 an21 : Option Addr} {sl21 : Array (Option Value)} {oc21 kV21 dc21 pm21 cd21 ct21 : Value}
    {f22 : Addr} {od22 an22 : Option Addr} {sl22 : Array (Option Value)} {oc22 kV22 dc22 pm22 cd22 ct22 : Value}
    {f23 : Addr} {od23 an23 : Option Addr} {sl23 : Array (Option Value)} {oc23 kV23 dc23 pm23 cd23 ct23 : Value}
    {f24 : Addr} {od24 an24 : Option Addr} {sl24 : Array (Option Value)} {oc24 kV24 dc24 pm24 cd24 ct24 : Value}
    {f25 : Addr} {od25 an25 : Option Addr} {sl25 : Array (Option Value)} {oc25 kV25 dc25 pm25 cd25 ct25 : Value}
    {f26 : Addr} {od26 an26 : Option Addr} {sl26 : Array (Option Value)} {oc26 kV26 dc26 pm26 cd26 ct26 : Value}
    {f27 : Addr} {od27 an27 : Option Addr} {sl27 : Array (Option Value)} {oc27 kV27 dc27 pm27 cd27 ct27 : Value}
    {f28 : Addr} {od28 an28 : Option Addr} {sl28 : Array (Option Value)} {oc28 kV28 dc28 pm28 cd28 ct28 : Value}
    {f29 : Addr} {od29 an29 : Option Addr} {sl29 : Array (Option Value)} {oc29 kV29 dc29 pm29 cd29 ct29 : Value}
    {f30 : Addr} {od30 an30 : Option Addr} {sl30 : Array (Option Value)} {oc30 kV30 dc30 pm30 cd30 ct30 : Value}
    {f31 : Addr} {od31 an31 : Option Addr} {sl31 : Array (Option Value)} {oc31 kV31 dc31 pm31 cd31 ct31 : Value}
    {f32 : Addr} {od32 an32 : Option Addr} {sl32 : Array (Option Value)} {oc32 kV32 dc32 pm32 cd32 ct32 : Value}
    {f33 : Addr} {od33 an33 : Option Addr} {sl33 : Array (Option Value)} {oc33 kV33 dc33 pm33 cd33 ct33 : Value}
    {f34 : Addr} {od34 an34 : Option Addr} {sl34 : Array (Option Value)} {oc34 kV34 dc34 pm34 cd34 ct34 : Value}
    {f35 : Addr} {od35 an35 : Option Addr} {sl35 : Array (Option Value)} {oc35 kV35 dc35 pm35 cd35 ct35 : Value}
    {dt35_0 : Tok}
    {T35 : Addr} {dO35 : Obj} {dn35 : Nat}
    {f36 : Addr} {od36 an36 : Option Addr} {sl36 : Array (Option Value)} {oc36 kV36 dc36 pm36 cd36 ct36 : Value}
    {dt36_0 : Tok}
    {T36 : Addr} {dO36 : Obj} {dn36 : Nat}
    {f37 : Addr} {od37 an37 : Option Addr} {sl37 : Array (Option Value)} {oc37 dc37 pm37 cd37 ct37 : Value}
    {E37 : Addr} {et37 : Tok}
    {f38 : Addr} {od38 an38 : Option Addr} {sl38 : Array (Option Value)} {oc38 kV38 dc38 pm38 cd38 ct38 : Value}
    {f39 : Addr} {od39 an39 : Option Addr} {sl39 : Array (Option Value)} {oc39 kV39 dc39 pm39 cd39 ct39 : Value}
    {f40 : Addr} {od40 an40 : Option Addr} {sl40 : Array (Option Value)} {oc40 kV40 dc40 pm40 cd40 ct40 : Value}
    {f41 : Addr} {od41 an41 : Option Addr} {sl41 : Array (Option Value)} {oc41 kV41 dc41 pm41 cd41 ct41 : Value}
    {f42 : Addr} {od42 an42 : Option Addr} {sl42 : Array (Option Value)} {oc42 dc42 pm42 cd42 ct42 : Value}
    {E42 : Addr} {et42 : Tok}
    {f43 : Addr} {od43 an43 : Option Addr} {sl43 : Array (Option Value)} {oc43 kV43 dc43 pm43 cd43 ct43 : Value}
    {f44 : Addr} {od44 an44 : Option Addr} {sl44 : Array (Option Value)} {oc44 kV44 dc44 pm44 cd44 ct44 : Value}
    {f45 : Addr} {od45 an45 : Option Addr} {sl45 : Array (Option Value)} {oc45 kV45 dc45 pm45 cd45 ct45 : Value}
    {f46 : Addr} {od46 an46 : Option Addr} {sl46 : Array (Option Value)} {oc46 kV46 dc46 pm46 cd46 ct46 : Value}
    {f47 : Addr} {od47 an47 : Option Addr} {sl47 : Array (Option Value)} {oc47 kV47 dc47 pm47 cd47 ct47 : Value}
    {f48 : Addr} {od48 an48 : Option Addr} {sl48 : Array (Option Value)} {oc48 dc48 pm48 cd48 ct48 : Value}
    {E48 : Addr} {et48 : Tok}
    {f49 : Addr} {od49 an49 : Option Addr} {sl49 : Array (Option Value)} {oc49 kV49 dc49 pm49 cd49 ct49 : Value}
    {cL PL : Addr} {eL : Value} {dL : Option Addr} {vL : Array Value} {sL : Array (Option Value)}
    (ac_Web : PySem.W.nsIn K mainGlobals "Web" = some (some (.ref C_Web))) (pg_Web : PySem.W.plainGet K C_Web Str.empty = true) (hd_Web : PySem.W.hasDictIn K C_Web = true) (po_Web : PySem.W.plainOver K C_Web = true) (sa_Web : PySem.W.findIn K (.ref C_Web) "__setattr__" = some (some (.builtin "object.__setattr__")))
    (mk_Web : PySem.W.makesIn K C_Web = true) (kc_Web : PySem.W.keepIn K (.ref C_Web) = true)
    (ac_Step : PySem.W.nsIn K mainGlobals "Step" = some (some (.ref C_Step))) (pg_Step : PySem.W.plainGet K C_Step Str.empty = true) (hd_Step : PySem.W.hasDictIn K C_Step = true) (po_Step : PySem.W.plainOver K C_Step = true) (sa_Step : PySem.W.findIn K (.ref C_Step) "__setattr__" = some (some (.builtin "object.__setattr__")))
    (mk_Step : PySem.W.makesIn K C_Step = true) (kc_Step : PySem.W.keepIn K (.ref C_Step) = true)
    (ac_Map : PySem.W.nsIn K mainGlobals "Map" = some (some (.ref C_Map))) (pg_Map : PySem.W.plainGet K C_Map Str.empty = true) (hd_Map : PySem.W.hasDictIn K C_Map = true) (po_Map : PySem.W.plainOver K C_Map = true) (sa_Map : PySem.W.findIn K (.ref C_Map) "__setattr__" = some (some (.builtin "object.__setattr__")))
    (mk_Map : PySem.W.makesIn K C_Map = true) (kc_Map : PySem.W.keepIn K (.ref C_Map) = true)
    (nf_Map_lead : PySem.W.findIn K (.ref C_Map) "lead" = some none)
    (nf_Map_one : PySem.W.findIn K (.ref C_Map) "one" = some none)
    (nf_Map_other : PySem.W.findIn K (.ref C_Map) "other" = some none)
    (nf_Step_elder : PySem.W.findIn K (.ref C_Step) "elder" = some none)
    (nf_Step_home : PySem.W.findIn K (.ref C_Step) "home" = some none)
    (nf_Step_later : PySem.W.findIn K (.ref C_Step) "later" = some none)
    (nf_Step_moved : PySem.W.findIn K (.ref C_Step) "moved" = some none)
    (nf_Web_places : PySem.W.findIn K (.ref C_Web) "places" = some none)
    (nf_Web_table : PySem.W.findIn K (.ref C_Web) "table" = some none)
    (z_all : PySem.W.nsIn K mainGlobals "all" = some none)
    (z_bool : PySem.W.nsIn K mainGlobals "bool" = some none)
    (z_enumerate : PySem.W.nsIn K mainGlobals "enumerate" = some none)
    (z_int : PySem.W.nsIn K mainGlobals "int" = some none)
    (z_isinstance : PySem.W.nsIn K mainGlobals "isinstance" = some none)
    (z_len : PySem.W.nsIn K mainGlobals "len" = some none)
    (z_list : PySem.W.nsIn K mainGlobals "list" = some none)
    (z_min : PySem.W.nsIn K mainGlobals "min" = some none)
    (z_range : PySem.W.nsIn K mainGlobals "range" = some none)
    (z_set : PySem.W.nsIn K mainGlobals "set" = some none)
    (z_sorted : PySem.W.nsIn K mainGlobals "sorted" = some none)
    (z_str : PySem.W.nsIn K mainGlobals "str" = some none)
    (z_sum : PySem.W.nsIn K mainGlobals "sum" = some none)
    (z_tuple : PySem.W.nsIn K mainGlobals "tuple" = some none)
    (z_zip : PySem.W.nsIn K mainGlobals "zip" = some none)
    (y_FACES_MOST : PySem.W.nsIn K mainGlobals "FACES_MOST" = some (some (.int 120 yt_FACES_MOST)))
    (y_POINTS_MOST : PySem.W.nsIn K mainGlobals "POINTS_MOST" = some (some (.int 15 yt_POINTS_MOST)))
    (y_RESTS_MOST : PySem.W.nsIn K mainGlobals "RESTS_MOST" = some (some (.int 60 yt_RESTS_MOST)))
    (y_SIZE_MOST : PySem.W.nsIn K mainGlobals "SIZE_MOST" = some (some (.int 3 yt_SIZE_MOST)))
    (y_WHOLE : PySem.W.nsIn K mainGlobals "WHOLE" = some (some (.int 0 yt_WHOLE)))
    (a0 : PySem.W.nsIn K mainGlobals "_law_box" = some (some (.ref f0)))
    (l0 : K.lookup f0 = some ⟨oc0, od0, .func (PySem.W.fnOf "_law_box" "_law_box" (defArgs s_law_box) (defBody s_law_box) (defScope s_law_box) .none kV0 dc0 pm0 an0 cd0 ct0), sl0⟩) (c0 : PySem.W.codeIn K cd0 "_law_box" = true) (k0 : PySem.W.keepIn K (.ref f0) = true)
    (a1 : PySem.W.nsIn K mainGlobals "_law_mixed" = some (some (.ref f1)))
    (l1 : K.lookup f1 = some ⟨oc1, od1, .func (PySem.W.fnOf "_law_mixed" "_law_mixed" (defArgs s_law_mixed) (defBody s_law_mixed) (defScope s_law_mixed) .none kV1 dc1 pm1 an1 cd1 ct1), sl1⟩) (c1 : PySem.W.codeIn K cd1 "_law_mixed" = true) (k1 : PySem.W.keepIn K (.ref f1) = true)
    (a2 : PySem.W.nsIn K mainGlobals "_law_take" = some (some (.ref f2)))
    (l2 : K.lookup f2 = some ⟨oc2, od2, .func (PySem.W.fnOf "_law_take" "_law_take" (defArgs s_law_take) (defBody s_law_take) (defScope s_law_take) .none kV2 dc2 pm2 an2 cd2 ct2), sl2⟩) (c2 : PySem.W.codeIn K cd2 "_law_take" = true) (k2 : PySem.W.keepIn K (.ref f2) = true)
    (a3 : PySem.W.nsIn K mainGlobals "_law_points" = some (some (.ref f3)))
    (l3 : K.lookup f3 = some ⟨oc3, od3, .func (PySem.W.fnOf "_law_points" "_law_points" (defArgs s_law_points) (defBody s_law_points) (defScope s_law_points) .none kV3 dc3 pm3 an3 cd3 ct3), sl3⟩) (c3 : PySem.W.codeIn K cd3 "_law_points" = true) (k3 : PySem.W.keepIn K (.ref f3) = true)
    (a4 : PySem.W.nsIn K mainGlobals "_law_drawn_face" = some (some (.ref f4)))
    (l4 : K.lookup f4 = some ⟨oc4, od4, .func (PySem.W.fnOf "_law_drawn_face" "_law_drawn_face" (defArgs s_law_drawn_face) (defBody s_law_drawn_face) (defScope s_law_drawn_face) .none kV4 dc4 pm4 an4 cd4 ct4), sl4⟩) (c4 : PySem.W.codeIn K cd4 "_law_drawn_face" = true) (k4 : PySem.W.keepIn K (.ref f4) = true)
    (a5 : PySem.W.nsIn K mainGlobals "_law_drawn_tops" = some (some (.ref f5)))
    (l5 : K.lookup f5 = some ⟨oc5, od5, .func (PySem.W.fnOf "_law_drawn_tops" "_law_drawn_tops" (defArgs s_law_drawn_tops) (defBody s_law_drawn_tops) (defScope s_law_drawn_tops) .none kV5 dc5 pm5 an5 cd5 ct5), sl5⟩) (c5 : PySem.W.codeIn K cd5 "_law_drawn_tops" = true) (k5 : PySem.W.keepIn K (.ref f5) = true)
    (a6 : PySem.W.nsIn K mainGlobals "_law_subs" = some (some (.ref f6)))
    (l6 : K.lookup f6 = some ⟨oc6, od6, .func (PySem.W.fnOf "_law_subs" "_law_subs" (defArgs s_law_subs) (defBody s_law_subs) (defScope s_law_subs) .none kV6 dc6 pm6 an6 cd6 ct6), sl6⟩) (c6 : PySem.W.codeIn K cd6 "_law_subs" = true) (k6 : PySem.W.keepIn K (.ref f6) = true)
    (a7 : PySem.W.nsIn K mainGlobals "_law_fourwall" = some (some (.ref f7)))
    (l7 : K.lookup f7 = some ⟨oc7, od7, .func (PySem.W.fnOf "_law_fourwall" "_law_fourwall" (defArgs s_law_fourwall) (defBody s_law_fourwall) (defScope s_law_fourwall) .none kV7 dc7 pm7 an7 cd7 ct7), sl7⟩) (c7 : PySem.W.codeIn K cd7 "_law_fourwall" = true) (k7 : PySem.W.keepIn K (.ref f7) = true)
    (a8 : PySem.W.nsIn K mainGlobals "_law_small_tops" = some (some (.ref f8)))
    (l8 : K.lookup f8 = some ⟨oc8, od8, .func (PySem.W.fnOf "_law_small_tops" "_law_small_tops" (defArgs s_law_small_tops) (defBody s_law_small_tops) (defScope s_law_small_tops) .none kV8 dc8 pm8 an8 cd8 ct8), sl8⟩) (c8 : PySem.W.codeIn K cd8 "_law_small_tops" = true) (k8 : PySem.W.keepIn K (.ref f8) = true)
    (a9 : PySem.W.nsIn K mainGlobals "_law_closed" = some (some (.ref f9)))
    (l9 : K.lookup f9 = some ⟨oc9, od9, .func (PySem.W.fnOf "_law_closed" "_law_closed" (defArgs s_law_closed) (defBody s_law_closed) (defScope s_law_closed) .none kV9 dc9 pm9 an9 cd9 ct9), sl9⟩) (c9 : PySem.W.codeIn K cd9 "_law_closed" = true) (k9 : PySem.W.keepIn K (.ref f9) = true)
    (a10 : PySem.W.nsIn K mainGlobals "_law_free" = some (some (.ref f10)))
    (l10 : K.lookup f10 = some ⟨oc10, od10, .func (PySem.W.fnOf "_law_free" "_law_free" (defArgs s_law_free) (defBody s_law_free) (defScope s_law_free) .none kV10 dc10 pm10 an10 cd10 ct10), sl10⟩) (c10 : PySem.W.codeIn K cd10 "_law_free" = true) (k10 : PySem.W.keepIn K (.ref f10) = true)
    (a11 : PySem.W.nsIn K mainGlobals "is_face" = some (some (.ref f11)))
    (l11 : K.lookup f11 = some ⟨oc11, od11, .func (PySem.W.fnOf "is_face" "is_face" (defArgs s_is_face) (defBody s_is_face) (defScope s_is_face) .none kV11 dc11 pm11 an11 cd11 ct11), sl11⟩) (c11 : PySem.W.codeIn K cd11 "is_face" = true) (k11 : PySem.W.keepIn K (.ref f11) = true)
    (a12 : PySem.W.nsIn K mainGlobals "own_faces" = some (some (.ref f12)))
    (l12 : K.lookup f12 = some ⟨oc12, od12, .func (PySem.W.fnOf "own_faces" "own_faces" (defArgs s_own_faces) (defBody s_own_faces) (defScope s_own_faces) .none kV12 dc12 pm12 an12 cd12 ct12), sl12⟩) (c12 : PySem.W.codeIn K cd12 "own_faces" = true) (k12 : PySem.W.keepIn K (.ref f12) = true)
    (a13 : PySem.W.findIn K (.ref C_Web) "__init__" = some (some (.ref f13))) (i13 : PySem.W.isFn K (.ref f13) = true)
    (l13 : K.lookup f13 = some ⟨oc13, od13, .func (PySem.W.fnOf "__init__" "Web.__init__" (defArgs s_Web_init) (defBody s_Web_init) (defScope s_Web_init) (.ref T13) kV13 dc13 pm13 an13 cd13 ct13), sl13⟩) (c13 : PySem.W.codeIn K cd13 "Web.__init__" = true) (k13 : PySem.W.keepIn K (.ref f13) = true)
    (t13 : K.lookup T13 = some dO13) (u13 : dO13.data = .seq [Value.ref tp13_0].toArray dn13)
    (a14 : PySem.W.findIn K (.ref C_Web) "has" = some (some (.ref f14))) (i14 : PySem.W.isFn K (.ref f14) = true)
    (l14 : K.lookup f14 = some ⟨oc14, od14, .func (PySem.W.fnOf "has" "Web.has" (defArgs s_Web_has) (defBody s_Web_has) (defScope s_Web_has) .none kV14 dc14 pm14 an14 cd14 ct14), sl14⟩) (c14 : PySem.W.codeIn K cd14 "Web.has" = true) (k14 : PySem.W.keepIn K (.ref f14) = true)
    (a15 : PySem.W.nsIn K mainGlobals "within" = some (some (.ref f15)))
    (l15 : K.lookup f15 = some ⟨oc15, od15, .func (PySem.W.fnOf "within" "within" (defArgs s_within) (defBody s_within) (defScope s_within) .none kV15 dc15 pm15 an15 cd15 ct15), sl15⟩) (c15 : PySem.W.codeIn K cd15 "within" = true) (k15 : PySem.W.keepIn K (.ref f15) = true)
    (a16 : PySem.W.findIn K (.ref C_Web) "around" = some (some (.ref f16))) (i16 : PySem.W.isFn K (.ref f16) = true)
    (l16 : K.lookup f16 = some ⟨oc16, od16, .func (PySem.W.fnOf "around" "Web.around" (defArgs s_Web_around) (defBody s_Web_around) (defScope s_Web_around) .none kV16 dc16 pm16 an16 cd16 ct16), sl16⟩) (c16 : PySem.W.codeIn K cd16 "Web.around" = true) (k16 : PySem.W.keepIn K (.ref f16) = true)
    (a17 : PySem.W.nsIn K mainGlobals "sign" = some (some (.ref f17)))
    (l17 : K.lookup f17 = some ⟨oc17, od17, .func (PySem.W.fnOf "sign" "sign" (defArgs s_sign) (defBody s_sign) (defScope s_sign) .none kV17 dc17 pm17 an17 cd17 ct17), sl17⟩) (c17 : PySem.W.codeIn K cd17 "sign" = true) (k17 : PySem.W.keepIn K (.ref f17) = true)
    (a18 : PySem.W.nsIn K mainGlobals "sides" = some (some (.ref f18)))
    (l18 : K.lookup f18 = some ⟨oc18, od18, .func (PySem.W.fnOf "sides" "sides" (defArgs s_sides) (defBody s_sides) (defScope s_sides) .none kV18 dc18 pm18 an18 cd18 ct18), sl18⟩) (c18 : PySem.W.codeIn K cd18 "sides" = true) (k18 : PySem.W.keepIn K (.ref f18) = true)
    (a19 : PySem.W.findIn K (.ref C_Web) "without" = some (some (.ref f19))) (i19 : PySem.W.isFn K (.ref f19) = true)
    (l19 : K.lookup f19 = some ⟨oc19, od19, .func (PySem.W.fnOf "without" "Web.without" (defArgs s_Web_without) (defBody s_Web_without) (defScope s_Web_without) .none kV19 dc19 pm19 an19 cd19 ct19), sl19⟩) (c19 : PySem.W.codeIn K cd19 "Web.without" = true) (k19 : PySem.W.keepIn K (.ref f19) = true)
    (a20 : PySem.W.findIn K (.ref C_Web) "faces" = some (some (.ref f20))) (i20 : PySem.W.isFn K (.ref f20) = true)
    (l20 : K.lookup f20 = some ⟨oc20, od20, .func (PySem.W.fnOf "faces" "Web.faces" (defArgs s_Web_faces) (defBody s_Web_faces) (defScope s_Web_faces) .none kV20 dc20 pm20 an20 cd20 ct20), sl20⟩) (c20 : PySem.W.codeIn K cd20 "Web.faces" = true) (k20 : PySem.W.keepIn K (.ref f20) = true)
    (a21 : PySem.W.findIn K (.ref C_Map) "image" = some (some (.ref f21))) (i21 : PySem.W.isFn K (.ref f21) = true)
    (l21 : K.lookup f21 = some ⟨oc21, od21, .func (PySem.W.fnOf "image" "Map.image" (defArgs s_Map_image) (defBody s_Map_image) (defScope s_Map_image) .none kV21 dc21 pm21 an21 cd21 ct21), sl21⟩) (c21 : PySem.W.codeIn K cd21 "Map.image" = true) (k21 : PySem.W.keepIn K (.ref f21) = true)
    (a22 : PySem.W.findIn K (.ref C_Map) "__init__" = some (some (.ref f22))) (i22 : PySem.W.isFn K (.ref f22) = true)
    (l22 : K.lookup f22 = some ⟨oc22, od22, .func (PySem.W.fnOf "__init__" "Map.__init__" (defArgs s_Map_init) (defBody s_Map_init) (defScope s_Map_init) .none kV22 dc22 pm22 an22 cd22 ct22), sl22⟩) (c22 : PySem.W.codeIn K cd22 "Map.__init__" = true) (k22 : PySem.W.keepIn K (.ref f22) = true)
    (a23 : PySem.W.findIn K (.ref C_Step) "__init__" = some (some (.ref f23))) (i23 : PySem.W.isFn K (.ref f23) = true)
    (l23 : K.lookup f23 = some ⟨oc23, od23, .func (PySem.W.fnOf "__init__" "Step.__init__" (defArgs s_Step_init) (defBody s_Step_init) (defScope s_Step_init) .none kV23 dc23 pm23 an23 cd23 ct23), sl23⟩) (c23 : PySem.W.codeIn K cd23 "Step.__init__" = true) (k23 : PySem.W.keepIn K (.ref f23) = true)
    (a24 : PySem.W.nsIn K mainGlobals "lesser" = some (some (.ref f24)))
    (l24 : K.lookup f24 = some ⟨oc24, od24, .func (PySem.W.fnOf "lesser" "lesser" (defArgs s_lesser) (defBody s_lesser) (defScope s_lesser) .none kV24 dc24 pm24 an24 cd24 ct24), sl24⟩) (c24 : PySem.W.codeIn K cd24 "lesser" = true) (k24 : PySem.W.keepIn K (.ref f24) = true)
    (a25 : PySem.W.nsIn K mainGlobals "_law_drawn_rests" = some (some (.ref f25)))
    (l25 : K.lookup f25 = some ⟨oc25, od25, .func (PySem.W.fnOf "_law_drawn_rests" "_law_drawn_rests" (defArgs s_law_drawn_rests) (defBody s_law_drawn_rests) (defScope s_law_drawn_rests) .none kV25 dc25 pm25 an25 cd25 ct25), sl25⟩) (c25 : PySem.W.codeIn K cd25 "_law_drawn_rests" = true) (k25 : PySem.W.keepIn K (.ref f25) = true)
    (a26 : PySem.W.nsIn K mainGlobals "_law_sized" = some (some (.ref f26)))
    (l26 : K.lookup f26 = some ⟨oc26, od26, .func (PySem.W.fnOf "_law_sized" "_law_sized" (defArgs s_law_sized) (defBody s_law_sized) (defScope s_law_sized) .none kV26 dc26 pm26 an26 cd26 ct26), sl26⟩) (c26 : PySem.W.codeIn K cd26 "_law_sized" = true) (k26 : PySem.W.keepIn K (.ref f26) = true)
    (a27 : PySem.W.nsIn K mainGlobals "_law_few" = some (some (.ref f27)))
    (l27 : K.lookup f27 = some ⟨oc27, od27, .func (PySem.W.fnOf "_law_few" "_law_few" (defArgs s_law_few) (defBody s_law_few) (defScope s_law_few) .none kV27 dc27 pm27 an27 cd27 ct27), sl27⟩) (c27 : PySem.W.codeIn K cd27 "_law_few" = true) (k27 : PySem.W.keepIn K (.ref f27) = true)
    (a28 : PySem.W.nsIn K mainGlobals "_law_sides" = some (some (.ref f28)))
    (l28 : K.lookup f28 = some ⟨oc28, od28, .func (PySem.W.fnOf "_law_sides" "_law_sides" (defArgs s_law_sides) (defBody s_law_sides) (defScope s_law_sides) .none kV28 dc28 pm28 an28 cd28 ct28), sl28⟩) (c28 : PySem.W.codeIn K cd28 "_law_sides" = true) (k28 : PySem.W.keepIn K (.ref f28) = true)
    (a29 : PySem.W.nsIn K mainGlobals "_law_lesser_row" = some (some (.ref f29)))
    (l29 : K.lookup f29 = some ⟨oc29, od29, .func (PySem.W.fnOf "_law_lesser_row" "_law_lesser_row" (defArgs s_law_lesser_row) (defBody s_law_lesser_row) (defScope s_law_lesser_row) .none kV29 dc29 pm29 an29 cd29 ct29), sl29⟩) (c29 : PySem.W.codeIn K cd29 "_law_lesser_row" = true) (k29 : PySem.W.keepIn K (.ref f29) = true)
    (a30 : PySem.W.nsIn K mainGlobals "look_rests" = some (some (.ref f30)))
    (l30 : K.lookup f30 = some ⟨oc30, od30, .func (PySem.W.fnOf "look_rests" "look_rests" (defArgs s_look_rests) (defBody s_look_rests) (defScope s_look_rests) .none kV30 dc30 pm30 an30 cd30 ct30), sl30⟩) (c30 : PySem.W.codeIn K cd30 "look_rests" = true) (k30 : PySem.W.keepIn K (.ref f30) = true)
    (a31 : PySem.W.findIn K (.ref C_Web) "many" = some (some (.ref f31))) (i31 : PySem.W.isFn K (.ref f31) = true)
    (l31 : K.lookup f31 = some ⟨oc31, od31, .func (PySem.W.fnOf "many" "Web.many" (defArgs s_Web_many) (defBody s_Web_many) (defScope s_Web_many) .none kV31 dc31 pm31 an31 cd31 ct31), sl31⟩) (c31 : PySem.W.codeIn K cd31 "Web.many" = true) (k31 : PySem.W.keepIn K (.ref f31) = true)
    (a32 : PySem.W.nsIn K mainGlobals "look_row" = some (some (.ref f32)))
    (l32 : K.lookup f32 = some ⟨oc32, od32, .func (PySem.W.fnOf "look_row" "look_row" (defArgs s_look_row) (defBody s_look_row) (defScope s_look_row) .none kV32 dc32 pm32 an32 cd32 ct32), sl32⟩) (c32 : PySem.W.codeIn K cd32 "look_row" = true) (k32 : PySem.W.keepIn K (.ref f32) = true)
    (a33 : PySem.W.findIn K (.ref C_Step) "parts" = some (some (.ref f33))) (i33 : PySem.W.isFn K (.ref f33) = true)
    (l33 : K.lookup f33 = some ⟨oc33, od33, .func (PySem.W.fnOf "parts" "Step.parts" (defArgs s_Step_parts) (defBody s_Step_parts) (defScope s_Step_parts) .none kV33 dc33 pm33 an33 cd33 ct33), sl33⟩) (c33 : PySem.W.codeIn K cd33 "Step.parts" = true) (k33 : PySem.W.keepIn K (.ref f33) = true)
    (a34 : PySem.W.findIn K (.ref C_Web) "place" = some (some (.ref f34))) (i34 : PySem.W.isFn K (.ref f34) = true)
    (l34 : K.lookup f34 = some ⟨oc34, od34, .func (PySem.W.fnOf "place" "Web.place" (defArgs s_Web_place) (defBody s_Web_place) (defScope s_Web_place) .none kV34 dc34 pm34 an34 cd34 ct34), sl34⟩) (c34 : PySem.W.codeIn K cd34 "Web.place" = true) (k34 : PySem.W.keepIn K (.ref f34) = true)
    (a35 : PySem.W.nsIn K mainGlobals "rest" = some (some (.ref f35)))
    (l35 : K.lookup f35 = some ⟨oc35, od35, .func (PySem.W.fnOf "rest" "rest" (defArgs s_rest) (defBody s_rest) (defScope s_rest) (.ref T35) kV35 dc35 pm35 an35 cd35 ct35), sl35⟩) (c35 : PySem.W.codeIn K cd35 "rest" = true) (k35 : PySem.W.keepIn K (.ref f35) = true)
    (t35 : K.lookup T35 = some dO35) (u35 : dO35.data = .seq [Value.int 0 dt35_0].toArray dn35)
    (a36 : PySem.W.nsIn K mainGlobals "rested" = some (some (.ref f36)))
    (l36 : K.lookup f36 = some ⟨oc36, od36, .func (PySem.W.fnOf "rested" "rested" (defArgs s_rested) (defBody s_rested) (defScope s_rested) (.ref T36) kV36 dc36 pm36 an36 cd36 ct36), sl36⟩) (c36 : PySem.W.codeIn K cd36 "rested" = true) (k36 : PySem.W.keepIn K (.ref f36) = true)
    (t36 : K.lookup T36 = some dO36) (u36 : dO36.data = .seq [Value.int 0 dt36_0].toArray dn36)
    (a37 : PySem.W.findIn K (.ref C_Step) "forth" = some (some (.ref f37))) (i37 : PySem.W.isFn K (.ref f37) = true)
    (l37 : K.lookup f37 = some ⟨oc37, od37, .func (PySem.W.fnOf "forth" "Step.forth" (defArgs s_Step_forth) (defBody s_Step_forth) (defScope s_Step_forth) .none (.ref E37) dc37 pm37 an37 cd37 ct37), sl37⟩) (c37 : PySem.W.codeIn K cd37 "Step.forth" = true) (k37 : PySem.W.keepIn K (.ref f37) = true)
    (q37 : PySem.W.nsIn K E37 "rests" = some (some (Value.int 0 et37)))
    (a38 : PySem.W.nsIn K mainGlobals "_law_rest" = some (some (.ref f38)))
    (l38 : K.lookup f38 = some ⟨oc38, od38, .func (PySem.W.fnOf "_law_rest" "_law_rest" (defArgs s_law_rest) (defBody s_law_rest) (defScope s_law_rest) .none kV38 dc38 pm38 an38 cd38 ct38), sl38⟩) (c38 : PySem.W.codeIn K cd38 "_law_rest" = true) (k38 : PySem.W.keepIn K (.ref f38) = true)
    (a39 : PySem.W.nsIn K mainGlobals "_law_rested" = some (some (.ref f39)))
    (l39 : K.lookup f39 = some ⟨oc39, od39, .func (PySem.W.fnOf "_law_rested" "_law_rested" (defArgs s_law_rested) (defBody s_law_rested) (defScope s_law_rested) .none kV39 dc39 pm39 an39 cd39 ct39), sl39⟩) (c39 : PySem.W.codeIn K cd39 "_law_rested" = true) (k39 : PySem.W.keepIn K (.ref f39) = true)
    (a40 : PySem.W.nsIn K mainGlobals "_law_alike" = some (some (.ref f40)))
    (l40 : K.lookup f40 = some ⟨oc40, od40, .func (PySem.W.fnOf "_law_alike" "_law_alike" (defArgs s_law_alike) (defBody s_law_alike) (defScope s_law_alike) .none kV40 dc40 pm40 an40 cd40 ct40), sl40⟩) (c40 : PySem.W.codeIn K cd40 "_law_alike" = true) (k40 : PySem.W.keepIn K (.ref f40) = true)
    (a41 : PySem.W.nsIn K mainGlobals "_law_border" = some (some (.ref f41)))
    (l41 : K.lookup f41 = some ⟨oc41, od41, .func (PySem.W.fnOf "_law_border" "_law_border" (defArgs s_law_border) (defBody s_law_border) (defScope s_law_border) .none kV41 dc41 pm41 an41 cd41 ct41), sl41⟩) (c41 : PySem.W.codeIn K cd41 "_law_border" = true) (k41 : PySem.W.keepIn K (.ref f41) = true)
    (a42 : PySem.W.findIn K (.ref C_Step) "back" = some (some (.ref f42))) (i42 : PySem.W.isFn K (.ref f42) = true)
    (l42 : K.lookup f42 = some ⟨oc42, od42, .func (PySem.W.fnOf "back" "Step.back" (defArgs s_Step_back) (defBody s_Step_back) (defScope s_Step_back) .none (.ref E42) dc42 pm42 an42 cd42 ct42), sl42⟩) (c42 : PySem.W.codeIn K cd42 "Step.back" = true) (k42 : PySem.W.keepIn K (.ref f42) = true)
    (q42 : PySem.W.nsIn K E42 "rests" = some (some (Value.int 0 et42)))
    (a43 : PySem.W.nsIn K mainGlobals "_law_whole_list" = some (some (.ref f43)))
    (l43 : K.lookup f43 = some ⟨oc43, od43, .func (PySem.W.fnOf "_law_whole_list" "_law_whole_list" (defArgs s_law_whole_list) (defBody s_law_whole_list) (defScope s_law_whole_list) .none kV43 dc43 pm43 an43 cd43 ct43), sl43⟩) (c43 : PySem.W.codeIn K cd43 "_law_whole_list" = true) (k43 : PySem.W.keepIn K (.ref f43) = true)
    (a44 : PySem.W.nsIn K mainGlobals "_law_sum" = some (some (.ref f44)))
    (l44 : K.lookup f44 = some ⟨oc44, od44, .func (PySem.W.fnOf "_law_sum" "_law_sum" (defArgs s_law_sum) (defBody s_law_sum) (defScope s_law_sum) .none kV44 dc44 pm44 an44 cd44 ct44), sl44⟩) (c44 : PySem.W.codeIn K cd44 "_law_sum" = true) (k44 : PySem.W.keepIn K (.ref f44) = true)
    (a45 : PySem.W.nsIn K mainGlobals "_law_rise" = some (some (.ref f45)))
    (l45 : K.lookup f45 = some ⟨oc45, od45, .func (PySem.W.fnOf "_law_rise" "_law_rise" (defArgs s_law_rise) (defBody s_law_rise) (defScope s_law_rise) .none kV45 dc45 pm45 an45 cd45 ct45), sl45⟩) (c45 : PySem.W.codeIn K cd45 "_law_rise" = true) (k45 : PySem.W.keepIn K (.ref f45) = true)
    (a46 : PySem.W.nsIn K mainGlobals "in_order" = some (some (.ref f46)))
    (l46 : K.lookup f46 = some ⟨oc46, od46, .func (PySem.W.fnOf "in_order" "in_order" (defArgs s_in_order) (defBody s_in_order) (defScope s_in_order) .none kV46 dc46 pm46 an46 cd46 ct46), sl46⟩) (c46 : PySem.W.codeIn K cd46 "in_order" = true) (k46 : PySem.W.keepIn K (.ref f46) = true)
    (a47 : PySem.W.findIn K (.ref C_Map) "led" = some (some (.ref f47))) (i47 : PySem.W.isFn K (.ref f47) = true)
    (l47 : K.lookup f47 = some ⟨oc47, od47, .func (PySem.W.fnOf "led" "Map.led" (defArgs s_Map_led) (defBody s_Map_led) (defScope s_Map_led) .none kV47 dc47 pm47 an47 cd47 ct47), sl47⟩) (c47 : PySem.W.codeIn K cd47 "Map.led" = true) (k47 : PySem.W.keepIn K (.ref f47) = true)
    (a48 : PySem.W.findIn K (.ref C_Map) "forth" = some (some (.ref f48))) (i48 : PySem.W.isFn K (.ref f48) = true)
    (l48 : K.lookup f48 = some ⟨oc48, od48, .func (PySem.W.fnOf "forth" "Map.forth" (defArgs s_Map_forth) (defBody s_Map_forth) (defScope s_Map_forth) .none (.ref E48) dc48 pm48 an48 cd48 ct48), sl48⟩) (c48 : PySem.W.codeIn K cd48 "Map.forth" = true) (k48 : PySem.W.keepIn K (.ref f48) = true)
    (q48 : PySem.W.nsIn K E48 "rests" = some (some (Value.int 0 et48)))
    (a49 : PySem.W.nsIn K mainGlobals "law" = some (some (.ref f49)))
    (l49 : K.lookup f49 = some ⟨oc49, od49, .func (PySem.W.fnOf "law" "law" (defArgs s_law) (defBody s_law) (defScope s_law) .none kV49 dc49 pm49 an49 cd49 ct49), sl49⟩) (c49 : PySem.W.codeIn K cd49 "law" = true) (k49 : PySem.W.keepIn K (.ref f49) = true)
    (tc_L : cd49 = .ref cL) (tl_L : K.lookup cL = some ⟨eL, dL, .fields vL, sL⟩) (tv_L : vL[11]? = some (.ref PL)) (tn_L : K.lookup PL = none)
    : ∃ (fd : FuncData) (cc TT : Addr), PySem.W.tabIn K lamFn = some (cc, TT) ∧ K.lookup TT = none ∧ (∀ (s : Shared) (v : Value), BindsTo s fd ⟨[v], []⟩ [("_law_script", v)]) ∧ ∀ base : Heap, K.In base → base.Ns mainGlobals mg → LamX.TabB base mg cc TT → FnOk P w K mg base (L2N.CX P w) 7 fa fd ["_law_script"] (spF ⟨K, mg⟩ 1 F_law) := by
  have e := hfa.symm.trans (PySem.W.mg_of X G a49)
  cases e
  have T_Web : ClsT K mg "Web" C_Web := ⟨PySem.W.mg_of X G ac_Web, ⟨pg_Web, hd_Web, po_Web, sa_Web⟩⟩
  have T_Step : ClsT K mg "Step" C_Step := ⟨PySem.W.mg_of X G ac_Step, ⟨pg_Step, hd_Step, po_Step, sa_Step⟩⟩
  have T_Map : ClsT K mg "Map" C_Map := ⟨PySem.W.mg_of X G ac_Map, ⟨pg_Map, hd_Map, po_Map, sa_Map⟩⟩
  have B : Blt K mg := ⟨PySem.W.mg_none_of X G z_all, PySem.W.mg_none_of X G z_bool, PySem.W.mg_none_of X G z_enumerate, PySem.W.mg_none_of X G z_int, PySem.W.mg_none_of X G z_isinstance, PySem.W.mg_none_of X G z_len, PySem.W.mg_none_of X G z_list, PySem.W.mg_none_of X G z_min, PySem.W.mg_none_of X G z_range, PySem.W.mg_none_of X G z_set, PySem.W.mg_none_of X G z_sorted, PySem.W.mg_none_of X G z_str, PySem.W.mg_none_of X G z_sum, PySem.W.mg_none_of X G z_tuple, PySem.W.mg_none_of X G z_zip, ⟨_, PySem.W.mg_of X G y_FACES_MOST⟩, ⟨_, PySem.W.mg_of X G y_POINTS_MOST⟩, ⟨_, PySem.W.mg_of X G y_RESTS_MOST⟩, ⟨_, PySem.W.mg_of X G y_SIZE_MOST⟩, ⟨_, PySem.W.mg_of X G y_WHOLE⟩, fld_of T_Map nf_Map_lead, fld_of T_Map nf_Map_one, fld_of T_Map nf_Map_other, fld_of T_Step nf_Step_elder, fld_of T_Step nf_Step_home, fld_of T_Step nf_Step_later, fld_of T_Step nf_Step_moved, fld_of T_Web nf_Web_places, fld_of T_Web nf_Web_table⟩
  have D0 := dm_mk (st := s_law_box) l0 c0 k0
  have hm0 := PySem.W.mg_of X G a0
  have D1 := dm_mk (st := s_law_mixed) l1 c1 k1
  have hm1 := PySem.W.mg_of X G a1
  have D2 := dm_mk (st := s_law_take) l2 c2 k2
  have hm2 := PySem.W.mg_of X G a2
  have D3 := dm_mk (st := s_law_points) l3 c3 k3
  have hm3 := PySem.W.mg_of X G a3
  have D4 := dm_mk (st := s_law_drawn_face) l4 c4 k4
  have hm4 := PySem.W.mg_of X G a4
  have D5 := dm_mk (st := s_law_drawn_tops) l5 c5 k5
  have hm5 := PySem.W.mg_of X G a5
  have D6 := dm_mk (st := s_law_subs) l6 c6 k6
  have hm6 := PySem.W.mg_of X G a6
  have D7 := dm_mk (st := s_law_fourwall) l7 c7 k7
  have hm7 := PySem.W.mg_of X G a7
  have D8 := dm_mk (st := s_law_small_tops) l8 c8 k8
  have hm8 := PySem.W.mg_of X G a8
  have D9 := dm_mk (st := s_law_closed) l9 c9 k9
  have hm9 := PySem.W.mg_of X G a9
  have D10 := dm_mk (st := s_law_free) l10 c10 k10
  have hm10 := PySem.W.mg_of X G a10
  have D11 := dm_mk (st := s_is_face) l11 c11 k11
  have hm11 := PySem.W.mg_of X G a11
  have D12 := dm_mk (st := s_own_faces) l12 c12 k12
  have hm12 := PySem.W.mg_of X G a12
  have D13 := dm_mkD (st := s_Web_init) (dvs := [.ref tp13_0]) (its := [Value.ref tp13_0]) l13 c13 k13 (by simp) t13 u13 (.cons rfl .nil)
  have D14 := dm_mk (st := s_Web_has) l14 c14 k14
  have D15 := dm_mk (st := s_within) l15 c15 k15
  have hm15 := PySem.W.mg_of X G a15
  have D16 := dm_mk (st := s_Web_around) l16 c16 k16
  have D17 := dm_mk (st := s_sign) l17 c17 k17
  have hm17 := PySem.W.mg_of X G a17
  have D18 := dm_mk (st := s_sides) l18 c18 k18
  have hm18 := PySem.W.mg_of X G a18
  have D19 := dm_mk (st := s_Web_without) l19 c19 k19
  have D20 := dm_mk (st := s_Web_faces) l20 c20 k20
  have D21 := dm_mk (st := s_Map_image) l21 c21 k21
  have D22 := dm_mk (st := s_Map_init) l22 c22 k22
  have D23 := dm_mk (st := s_Step_init) l23 c23 k23
  have D24 := dm_mk (st := s_lesser) l24 c24 k24
  have hm24 := PySem.W.mg_of X G a24
  have D25 := dm_mk (st := s_law_drawn_rests) l25 c25 k25
  have hm25 := PySem.W.mg_of X G a25
  have D26 := dm_mk (st := s_law_sized) l26 c26 k26
  have hm26 := PySem.W.mg_of X G a26
  have D27 := dm_mk (st := s_law_few) l27 c27 k27
  have hm27 := PySem.W.mg_of X G a27
  have D28 := dm_mk (st := s_law_sides) l28 c28 k28
  have hm28 := PySem.W.mg_of X G a28
  have D29 := dm_mk (st := s_law_lesser_row) l29 c29 k29
  have hm29 := PySem.W.mg_of X G a29
  have D30 := dm_mk (st := s_look_rests) l30 c30 k30
  have hm30 := PySem.W.mg_of X G a30
  have D31 := dm_mk (st := s_Web_many) l31 c31 k31
  have D32 := dm_mk (st := s_look_row) l32 c32 k32
  have hm32 := PySem.W.mg_of X G a32
  have D33 := dm_mk (st := s_Step_parts) l33 c33 k33
  have D34 := dm_mk (st := s_Web_place) l34 c34 k34
  have D35 := dm_mkD (st := s_rest) (dvs := [V.int 0]) (its := [Value.int 0 dt35_0]) l35 c35 k35 (by simp) t35 u35 (.cons ⟨_, rfl⟩ .nil)
  have hm35 := PySem.W.mg_of X G a35
  have D36 := dm_mkD (st := s_rested) (dvs := [V.int 0]) (its := [Value.int 0 dt36_0]) l36 c36 k36 (by simp) t36 u36 (.cons ⟨_, rfl⟩ .nil)
  have hm36 := PySem.W.mg_of X G a36
  have D37 := dm_mkK (st := s_Step_forth) l37 c37 k37 q37
  have D38 := dm_mk (st := s_law_rest) l38 c38 k38
  have hm38 := PySem.W.mg_of X G a38
  have D39 := dm_mk (st := s_law_rested) l39 c39 k39
  have hm39 := PySem.W.mg_of X G a39
  have D40 := dm_mk (st := s_law_alike) l40 c40 k40
  have hm40 := PySem.W.mg_of X G a40
  have D41 := dm_mk (st := s_law_border) l41 c41 k41
  have hm41 := PySem.W.mg_of X G a41
  have D42 := dm_mkK (st := s_Step_back) l42 c42 k42 q42
  have D43 := dm_mk (st := s_law_whole_list) l43 c43 k43
  have hm43 := PySem.W.mg_of X G a43
  have D44 := dm_mk (st := s_law_sum) l44 c44 k44
  have hm44 := PySem.W.mg_of X G a44
  have D45 := dm_mk (st := s_law_rise) l45 c45 k45
  have hm45 := PySem.W.mg_of X G a45
  have D46 := dm_mk (st := s_in_order) l46 c46 k46
  have hm46 := PySem.W.mg_of X G a46
  have D47 := dm_mk (st := s_Map_led) l47 c47 k47
  have D48 := dm_mkK (st := s_Map_forth) l48 c48 k48 q48
  have D49 := dm_mk (st := s_law) l49 c49 k49
  have hm49 := PySem.W.mg_of X G a49
  have hTab : PySem.W.tabIn K lamFn = some (cL, PL) := tab_mk a49 l49 tc_L tl_L tv_L
  refine ⟨PySem.W.fnOf "law" "law" (defArgs s_law) (defBody s_law) (defScope s_law) .none kV49 dc49 pm49 an49 cd49 ct49, cL, PL, hTab, tn_L, fun s v => .of_eq rfl, fun base _ _ TB => ?_⟩
  have O_law_box_L0 := ok_law_box_L0 (P := P) (w := w) (base := base) B D0 hm0
  have O_law_mixed_L0 := ok_law_mixed_L0 (P := P) (w := w) (base := base) B D1 hm1
  have O_law_take_L0 := ok_law_take_L0 (P := P) (w := w) (base := base) B D2 O_law_mixed_L0 hm2
  have O_law_points_L0 := ok_law_points_L0 (P := P) (w := w) (base := base) B D3 O_law_take_L0 hm3
  have O_law_drawn_face_L0 := ok_law_drawn_face_L0 (P := P) (w := w) (base := base) B D4 O_law_take_L0 hm4
  have O_law_drawn_tops_L0 := ok_law_drawn_tops_L0 (P := P) (w := w) (base := base) B D5 O_law_take_L0 O_law_points_L0 O_law_drawn_face_L0 hm5
  have O_law_subs_L0 := ok_law_subs_L0 (P := P) (w := w) (base := base) B D6 hm6
  have O_law_fourwall_L0 := ok_law_fourwall_L0 (P := P) (w := w) (base := base) B D7 O_law_subs_L0 hm7
  have O_law_small_tops_L0 := ok_law_small_tops_L0 (P := P) (w := w) (base := base) B D8 O_law_take_L0 O_law_drawn_tops_L0 O_law_points_L0 O_law_fourwall_L0 hm8
  have O_law_closed_L0 := ok_law_closed_L0 (P := P) (w := w) (base := base) B D9 O_law_subs_L0 hm9
  have O_law_free_L0 := ok_law_free_L0 (P := P) (w := w) (base := base) B D10 hm10
  have O_is_face_L0 := ok_is_face_L0 (P := P) (w := w) (base := base) B D11 hm11
  have O_own_faces_L0 := ok_own_faces_L0 (P := P) (w := w) (base := base) B D12 hm12
  have O_Web_init_C := ok_Web_init_C (P := P) (w := w) (base := base) B D13 O_is_face_L0 O_own_faces_L0 T_Web ⟨mk_Web, a13, i13, kc_Web⟩
  have O_Web_has_M0 := ok_Web_has_M0 (P := P) (w := w) (base := base) B D14 T_Web ⟨a14, i14, k14⟩
  have O_within_L0 := ok_within_L0 (P := P) (w := w) (base := base) B D15 hm15
  have O_Web_around_M0 := ok_Web_around_M0 (P := P) (w := w) (base := base) B D16 O_within_L0 T_Web ⟨a16, i16, k16⟩
  have O_sign_L0 := ok_sign_L0 (P := P) (w := w) (base := base) B D17 hm17
  have O_sides_L0 := ok_sides_L0 (P := P) (w := w) (base := base) B D18 O_sign_L0 hm18
  have O_Web_without_M0 := ok_Web_without_M0 (P := P) (w := w) (base := base) B D19 O_Web_has_M0 O_Web_init_C O_within_L0 T_Web ⟨a19, i19, k19⟩
  have O_Web_faces_M0 := ok_Web_faces_M0 (P := P) (w := w) (base := base) B D20 T_Web ⟨a20, i20, k20⟩
  have O_Map_image_M0 := ok_Map_image_M0 (P := P) (w := w) (base := base) B D21 T_Map ⟨a21, i21, k21⟩
  have O_Map_init_C := ok_Map_init_C (P := P) (w := w) (base := base) B D22 O_Web_faces_M0 O_Web_has_M0 O_Map_image_M0 T_Map ⟨mk_Map, a22, i22, kc_Map⟩
  have O_Step_init_C := ok_Step_init_C (P := P) (w := w) (base := base) B D23 O_Map_init_C T_Step ⟨mk_Step, a23, i23, kc_Step⟩
  have O_lesser_L0 := ok_lesser_L0 (P := P) (w := w) (base := base) B D24 O_Web_has_M0 O_Web_around_M0 O_sides_L0 O_Web_without_M0 O_Web_faces_M0 O_Step_init_C hm24
  have O_law_drawn_rests_L0 := ok_law_drawn_rests_L0 (P := P) (w := w) (base := base) B D25 O_law_take_L0 hm25
  have O_law_sized_L0 := ok_law_sized_L0 (P := P) (w := w) (base := base) B D26 hm26
  have O_law_few_L0 := ok_law_few_L0 (P := P) (w := w) (base := base) B D27 O_law_take_L0 hm27
  have O_law_sides_L0 := ok_law_sides_L0 (P := P) (w := w) (base := base) B D28 hm28
  have O_law_lesser_row_L0 := ok_law_lesser_row_L0 (P := P) (w := w) (base := base) B D29 O_law_sized_L0 O_law_sides_L0 hm29
  have O_look_rests_L0 := ok_look_rests_L0 (P := P) (w := w) (base := base) B D30 hm30
  have O_Web_many_M0 := ok_Web_many_M0 (P := P) (w := w) (base := base) B D31 T_Web ⟨a31, i31, k31⟩
  have O_look_row_L0 := ok_look_row_L0 (P := P) (w := w) (base := base) B D32 O_look_rests_L0 O_Web_many_M0 hm32
  have O_Step_parts_M0 := ok_Step_parts_M0 (P := P) (w := w) (base := base) B D33 T_Step ⟨a33, i33, k33⟩
  have O_Web_place_M0 := ok_Web_place_M0 (P := P) (w := w) (base := base) B D34 O_Web_has_M0 T_Web ⟨a34, i34, k34⟩
  have O_rest_L0 := ok_rest_L0 (P := P) (w := w) (base := base) B D35 hm35
  have O_rested_L0 := ok_rested_L0 (P := P) (w := w) (base := base) B D36 O_rest_L0 hm36
  have O_Step_forth_MK := ok_Step_forth_MK (P := P) (w := w) (base := base) B D37 O_look_row_L0 O_Web_many_M0 O_Web_faces_M0 O_Step_parts_M0 O_Web_place_M0 O_rested_L0 T_Step ⟨a37, i37, k37⟩
  have O_Step_forth_M1 := ok_Step_forth_M1 (P := P) (w := w) (base := base) B D37 O_look_row_L0 O_Web_many_M0 O_Web_faces_M0 O_Step_parts_M0 O_Web_place_M0 O_rested_L0 T_Step ⟨a37, i37, k37⟩
  have O_law_rest_L0 := ok_law_rest_L0 (P := P) (w := w) (base := base) B D38 hm38
  have O_law_rested_L0 := ok_law_rested_L0 (P := P) (w := w) (base := base) B D39 O_law_rest_L0 hm39
  have O_law_alike_L0 := ok_law_alike_L0 (P := P) (w := w) (base := base) B D40 hm40
  have O_law_border_L0 := ok_law_border_L0 (P := P) (w := w) (base := base) B D41 O_law_sized_L0 O_law_sides_L0 hm41
  have O_Step_back_M1 := ok_Step_back_M1 (P := P) (w := w) (base := base) B D42 O_look_row_L0 O_Web_faces_M0 O_Step_parts_M0 O_Web_place_M0 O_rested_L0 T_Step ⟨a42, i42, k42⟩
  have O_Step_back_MK := ok_Step_back_MK (P := P) (w := w) (base := base) B D42 O_look_row_L0 O_Web_faces_M0 O_Step_parts_M0 O_Web_place_M0 O_rested_L0 T_Step ⟨a42, i42, k42⟩
  have O_law_whole_list_L0 := ok_law_whole_list_L0 (P := P) (w := w) (base := base) B D43 hm43
  have O_law_sum_L0 := ok_law_sum_L0 (P := P) (w := w) (base := base) B D44 hm44
  have O_law_rise_L0 := ok_law_rise_L0 (P := P) (w := w) (base := base) B D45 O_law_sized_L0 O_law_sides_L0 hm45
  have O_in_order_L0 := ok_in_order_L0 (P := P) (w := w) (base := base) B D46 O_sign_L0 hm46
  have O_Map_led_M0 := ok_Map_led_M0 (P := P) (w := w) (base := base) B D47 O_in_order_L0 T_Map ⟨a47, i47, k47⟩
  have O_Map_forth_M1 := ok_Map_forth_M1 (P := P) (w := w) (base := base) B D48 O_look_row_L0 O_Web_many_M0 O_Web_faces_M0 O_Map_led_M0 O_Web_place_M0 O_rested_L0 T_Map ⟨a48, i48, k48⟩
  exact fn_law B D49 O_law_box_L0 O_law_small_tops_L0 O_law_closed_L0 O_law_free_L0 O_law_take_L0 O_Web_init_C O_lesser_L0 O_law_drawn_rests_L0 O_law_sized_L0 O_law_few_L0 O_law_lesser_row_L0 O_Step_forth_MK O_Step_forth_M1 O_law_rested_L0 O_law_alike_L0 O_law_border_L0 O_Step_back_M1 O_law_whole_list_L0 O_law_sum_L0 O_Step_back_MK O_law_rise_L0 O_Map_forth_M1
end L
open PySem PySem.W PyProof.Rows in
set_option maxRecDepth 100000 in
set_option maxHeartbeats 0 in
theorem PySem.Challenge.cw_cupweb_k46_whole_rows_on_lesser_webs_holds : PySem.Challenge.rw_cupweb_k46_whole_rows_on_lesser_webs.Holds := by
  w_on; o_law; k_head; (case hw => w_witness2)
  k_fill
  refine J.walk_J (l := PySem.Challenge.rw_cupweb_k46_whole_rows_on_lesser_webs) (n := 63) (k := 7) (x := "_law_script") (Fm := L.F_law) rfl (by decide) rfl ⟨rfl, by decide, by decide⟩ ?hrec (fun w h Y => PySem.W.kIn_of Y) ?F L.law_true
  case hrec => kernel_rfl
  case F =>
    intro w mg fa h KX G hmg
    refine' L.all_mk KX G hmg ?ac_Web ?pg_Web ?hd_Web ?po_Web ?sa_Web ?mk_Web ?kc_Web ?ac_Step ?pg_Step ?hd_Step ?po_Step ?sa_Step ?mk_Step ?kc_Step ?ac_Map ?pg_Map ?hd_Map ?po_Map ?sa_Map ?mk_Map ?kc_Map ?nf_Map_lead ?nf_Map_one ?nf_Map_other ?nf_Step_elder ?nf_Step_home ?nf_Step_later ?nf_Step_moved ?nf_Web_places ?nf_Web_table ?z_all ?z_bool ?z_enumerate ?z_int ?z_isinstance ?z_len ?z_list ?z_min ?z_range ?z_set ?z_sorted ?z_str ?z_sum ?z_tuple ?z_zip ?y_FACES_MOST ?y_POINTS_MOST ?y_RESTS_MOST ?y_SIZE_MOST ?y_WHOLE ?a0 ?l0 ?c0 ?k0 ?a1 ?l1 ?c1 ?k1 ?a2 ?l2 ?c2 ?k2 ?a3 ?l3 ?c3 ?k3 ?a4 ?l4 ?c4 ?k4 ?a5 ?l5 ?c5 ?k5 ?a6 ?l6 ?c6 ?k6 ?a7 ?l7 ?c7 ?k7 ?a8 ?l8 ?c8 ?k8 ?a9 ?l9 ?c9 ?k9 ?a10 ?l10 ?c10 ?k10 ?a11 ?l11 ?c11 ?k11 ?a12 ?l12 ?c12 ?k12 ?a13 ?i13 ?l13 ?c13 ?k13 ?t13 ?u13 ?a14 ?i14 ?l14 ?c14 ?k14 ?a15 ?l15 ?c15 ?k15 ?a16 ?i16 ?l16 ?c16 ?k16 ?a17 ?l17 ?c17 ?k17 ?a18 ?l18 ?c18 ?k18 ?a19 ?i19 ?l19 ?c19 ?k19 ?a20 ?i20 ?l20 ?c20 ?k20 ?a21 ?i21 ?l21 ?c21 ?k21 ?a22 ?i22 ?l22 ?c22 ?k22 ?a23 ?i23 ?l23 ?c23 ?k23 ?a24 ?l24 ?c24 ?k24 ?a25 ?l25 ?c25 ?k25 ?a26 ?l26 ?c26 ?k26 ?a27 ?l27 ?c27 ?k27 ?a28 ?l28 ?c28 ?k28 ?a29 ?l29 ?c29 ?k29 ?a30 ?l30 ?c30 ?k30 ?a31 ?i31 ?l31 ?c31 ?k31 ?a32 ?l32 ?c32 ?k32 ?a33 ?i33 ?l33 ?c33 ?k33 ?a34 ?i34 ?l34 ?c34 ?k34 ?a35 ?l35 ?c35 ?k35 ?t35 ?u35 ?a36 ?l36 ?c36 ?k36 ?t36 ?u36 ?a37 ?i37 ?l37 ?c37 ?k37 ?q37 ?a38 ?l38 ?c38 ?k38 ?a39 ?l39 ?c39 ?k39 ?a40 ?l40 ?c40 ?k40 ?a41 ?l41 ?c41 ?k41 ?a42 ?i42 ?l42 ?c42 ?k42 ?q42 ?a43 ?l43 ?c43 ?k43 ?a44 ?l44 ?c44 ?k44 ?a45 ?l45 ?c45 ?k45 ?a46 ?l46 ?c46 ?k46 ?a47 ?i47 ?l47 ?c47 ?k47 ?a48 ?i48 ?l48 ?c48 ?k48 ?q48 ?a49 ?l49 ?c49 ?k49 ?tc_L ?tl_L ?tv_L ?tn_L
    (case ac_Web => k_is)
    (case pg_Web => k_is)
    (case hd_Web => k_is)
    (case po_Web => k_is)
    (case sa_Web => k_is)
    (case mk_Web => k_is)
    (case kc_Web => k_is)
    (case ac_Step => k_is)
    (case pg_Step => k_is)
    (case hd_Step => k_is)
    (case po_Step => k_is)
    (case sa_Step => k_is)
    (case mk_Step => k_is)
    (case kc_Step => k_is)
    (case ac_Map => k_is)
    (case pg_Map => k_is)
    (case hd_Map => k_is)
    (case po_Map => k_is)
    (case sa_Map => k_is)
    (case mk_Map => k_is)
    (case kc_Map => k_is)
    (case nf_Map_lead => k_is)
    (case nf_Map_one => k_is)
    (case nf_Map_other => k_is)
    (case nf_Step_elder => k_is)
    (case nf_Step_home => k_is)
    (case nf_Step_later => k_is)
    (case nf_Step_moved => k_is)
    (case nf_Web_places => k_is)
    (case nf_Web_table => k_is)
    (case z_all => k_is)
    (case z_bool => k_is)
    (case z_enumerate => k_is)
    (case z_int => k_is)
    (case z_isinstance => k_is)
    (case z_len => k_is)
    (case z_list => k_is)
    (case z_min => k_is)
    (case z_range => k_is)
    (case z_set => k_is)
    (case z_sorted => k_is)
    (case z_str => k_is)
    (case z_sum => k_is)
    (case z_tuple => k_is)
    (case z_zip => k_is)
    (case y_FACES_MOST => k_is)
    (case y_POINTS_MOST => k_is)
    (case y_RESTS_MOST => k_is)
    (case y_SIZE_MOST => k_is)
    (case y_WHOLE => k_is)
    (case a0 => k_is)
    (case l0 => k_is)
    (case c0 => k_is)
    (case k0 => k_is)
    (case a1 => k_is)
    (case l1 => k_is)
    (case c1 => k_is)
    (case k1 => k_is)
    (case a2 => k_is)
    (case l2 => k_is)
    (case c2 => k_is)
    (case k2 => k_is)
    (case a3 => k_is)
    (case l3 => k_is)
    (case c3 => k_is)
    (case k3 => k_is)
    (case a4 => k_is)
    (case l4 => k_is)
    (case c4 => k_is)
    (case k4 => k_is)
    (case a5 => k_is)
    (case l5 => k_is)
    (case c5 => k_is)
    (case k5 => k_is)
    (case a6 => k_is)
    (case l6 => k_is)
    (case c6 => k_is)
    (case k6 => k_is)
    (case a7 => k_is)
    (case l7 => k_is)
    (case c7 => k_is)
    (case k7 => k_is)
    (case a8 => k_is)
    (case l8 => k_is)
    (case c8 => k_is)
    (case k8 => k_is)
    (case a9 => k_is)
    (case l9 => k_is)
    (case c9 => k_is)
    (case k9 => k_is)
    (case a10 => k_is)
    (case l10 => k_is)
    (case c10 => k_is)
    (case k10 => k_is)
    (case a11 => k_is)
    (case l11 => k_is)
    (case c11 => k_is)
    (case k11 => k_is)
    (case a12 => k_is)
    (case l12 => k_is)
    (case c12 => k_is)
    (case k12 => k_is)
    (case a13 => k_is)
    (case i13 => k_is)
    (case l13 => k_is)
    (case c13 => k_is)
    (case k13 => k_is)
    (case t13 => k_is)
    (case u13 => exact rfl)
    (case a14 => k_is)
    (case i14 => k_is)
    (case l14 => k_is)
    (case c14 => k_is)
    (case k14 => k_is)
    (case a15 => k_is)
    (case l15 => k_is)
    (case c15 => k_is)
    (case k15 => k_is)
    (case a16 => k_is)
    (case i16 => k_is)
    (case l16 => k_is)
    (case c16 => k_is)
    (case k16 => k_is)
    (case a17 => k_is)
    (case l17 => k_is)
    (case c17 => k_is)
    (case k17 => k_is)
    (case a18 => k_is)
    (case l18 => k_is)
    (case c18 => k_is)
    (case k18 => k_is)
    (case a19 => k_is)
    (case i19 => k_is)
    (case l19 => k_is)
    (case c19 => k_is)
    (case k19 => k_is)
    (case a20 => k_is)
    (case i20 => k_is)
    (case l20 => k_is)
    (case c20 => k_is)
    (case k20 => k_is)
    (case a21 => k_is)
    (case i21 => k_is)
    (case l21 => k_is)
    (case c21 => k_is)
    (case k21 => k_is)
    (case a22 => k_is)
    (case i22 => k_is)
    (case l22 => k_is)
    (case c22 => k_is)
    (case k22 => k_is)
    (case a23 => k_is)
    (case i23 => k_is)
    (case l23 => k_is)
    (case c23 => k_is)
    (case k23 => k_is)
    (case a24 => k_is)
    (case l24 => k_is)
    (case c24 => k_is)
    (case k24 => k_is)
    (case a25 => k_is)
    (case l25 => k_is)
    (case c25 => k_is)
    (case k25 => k_is)
    (case a26 => k_is)
    (case l26 => k_is)
    (case c26 => k_is)
    (case k26 => k_is)
    (case a27 => k_is)
    (case l27 => k_is)
    (case c27 => k_is)
    (case k27 => k_is)
    (case a28 => k_is)
    (case l28 => k_is)
    (case c28 => k_is)
    (case k28 => k_is)
    (case a29 => k_is)
    (case l29 => k_is)
    (case c29 => k_is)
    (case k29 => k_is)
    (case a30 => k_is)
    (case l30 => k_is)
    (case c30 => k_is)
    (case k30 => k_is)
    (case a31 => k_is)
    (case i31 => k_is)
    (case l31 => k_is)
    (case c31 => k_is)
    (case k31 => k_is)
    (case a32 => k_is)
    (case l32 => k_is)
    (case c32 => k_is)
    (case k32 => k_is)
    (case a33 => k_is)
    (case i33 => k_is)
    (case l33 => k_is)
    (case c33 => k_is)
    (case k33 => k_is)
    (case a34 => k_is)
    (case i34 => k_is)
    (case l34 => k_is)
    (case c34 => k_is)
    (case k34 => k_is)
    (case a35 => k_is)
    (case l35 => k_is)
    (case c35 => k_is)
    (case k35 => k_is)
    (case t35 => k_is)
    (case u35 => exact rfl)
    (case a36 => k_is)
    (case l36 => k_is)
    (case c36 => k_is)
    (case k36 => k_is)
    (case t36 => k_is)
    (case u36 => exact rfl)
    (case a37 => k_is)
    (case i37 => k_is)
    (case l37 => k_is)
    (case c37 => k_is)
    (case k37 => k_is)
    (case q37 => k_is)
    (case a38 => k_is)
    (case l38 => k_is)
    (case c38 => k_is)
    (case k38 => k_is)
    (case a39 => k_is)
    (case l39 => k_is)
    (case c39 => k_is)
    (case k39 => k_is)
    (case a40 => k_is)
    (case l40 => k_is)
    (case c40 => k_is)
    (case k40 => k_is)
    (case a41 => k_is)
    (case l41 => k_is)
    (case c41 => k_is)
    (case k41 => k_is)
    (case a42 => k_is)
    (case i42 => k_is)
    (case l42 => k_is)
    (case c42 => k_is)
    (case k42 => k_is)
    (case q42 => k_is)
    (case a43 => k_is)
    (case l43 => k_is)
    (case c43 => k_is)
    (case k43 => k_is)
    (case a44 => k_is)
    (case l44 => k_is)
    (case c44 => k_is)
    (case k44 => k_is)
    (case a45 => k_is)
    (case l45 => k_is)
    (case c45 => k_is)
    (case k45 => k_is)
    (case a46 => k_is)
    (case l46 => k_is)
    (case c46 => k_is)
    (case k46 => k_is)
    (case a47 => k_is)
    (case i47 => k_is)
    (case l47 => k_is)
    (case c47 => k_is)
    (case k47 => k_is)
    (case a48 => k_is)
    (case i48 => k_is)
    (case l48 => k_is)
    (case c48 => k_is)
    (case k48 => k_is)
    (case q48 => k_is)
    (case a49 => k_is)
    (case l49 => k_is)
    (case c49 => k_is)
    (case k49 => k_is)
    (case tc_L => exact rfl)
    (case tl_L => k_is)
    (case tv_L => exact rfl)
    (case tn_L => kernel_rfl)
