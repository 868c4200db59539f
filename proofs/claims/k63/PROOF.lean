import PyProof.Rows.All
import Wide.All
import OpenK.AllK
import Wide.FinOn
import HandS.ForMost
import HandS.ForExc
import HandS.CallSlots
import HandS.Defaults
import HandS.Wide
import HandS.IsInst
import HandS.Lambda
import HandS.ExcCtx
import KE.KNest
import HandS.Style
import HandS.Zip
import HandS.TupAny
import HandS.EndTab
import HandS.DictComp
import HandS.SetBool
import HandS.TupSets
import HandS.Conv
import HandS.Strs
import KE.SortData
import HandS.MapObj
import HandS.Small
import HandS.TupLen
import HandS.Sort
import HandS.Deep
import PyProof.ListRange
import HandS.More
import KE.KDictZip
import HandS.ExcInit
import HandS.ClsMeth
import HandS.HotCalls
import HandS.ExcIs
import HandS.ExcField
import HandS.Text
import PyProof.FactsAll.object_2
import HandS.SetFor
import PyProof.FactsAll.set_1
import PyProof.FactsAll.set_2
import KE.KEqDict
import HandS.Head0
import HandS.Head1
import HandS.Head2
import HandS.HeadHook1
import HandS.HeadHook2
import HandS.HeadHook3
import HandS.HeadHook4
import HandS.FStr
import HandS.RaiseMore
import KE.KUnpackStar
import PySem.Challenge.RW_cupweb_k63_deeds_written_and_read
set_option Elab.async false
set_option linter.all false
set_option maxRecDepth 100000
set_option autoImplicit false
set_option exponentiation.threshold 2000
namespace J
open PySem L2
/-! values -/
inductive VV where
  | non | bl (b : Bool) | int (i : Int) | str (x : Str)
  | tup (xs : List VV) | lst (xs : List VV) | scr (xs : List VV)
  | dT (ks : List (List Key)) (vs : List VV)
  | dK (ks : List Key) (vs : List VV)
  | ins (c : Str) (ns : List Str) (vs : List VV)
  | obj (n : Nat)
  | glb (x : Str)
  | ty (n : String)
  | raw (a : Addr)
/-- a mutable root -/
inductive VO where
  | fzn (v : VV)
  | fl (xs : List VV)
  | lo (xs : List VV)
  | dT (ks : List (List Key)) (vs : List VV)
  | dK (ks : List Key) (vs : List VV)
  | ins (c : Str) (ns : List Str) (vs : List VV)
abbrev VH := List VO
abbrev VSt := List (Option VV)
inductive Res (α : Type) where
  | no
  | ok (a : α) (h : VH)
  | exc (x : Str) (ns : List Str) (vs : List VV) (h : VH)
def Res.bind {α β : Type} (r : Res α) (k : α → VH → Res β) : Res β :=
  match r with
  | .no => .no
  | .ok a h => k a h
  | .exc x ns vs h => .exc x ns vs h
structure Ct where
  K : PySem.W.Frag
  mg : Str → Option Value
structure Gh where
  io : List Addr
  fz : Addr → Prop
  kp : Addr → Prop
/-- a tuple: a frozen one -/
def TupAt (_c : Ct) (_ : Addr → Prop) (H : Hp) (p : Addr) (us : List V) : Prop := H p = some (.tup us)
theorem TupAt.sq {c : Ct} {z : Addr → Prop} {H : Hp} {p : Addr} {us : List V} (h : TupAt c z H p us) : SqT c.K H p us := .inl (.inl h)
theorem TupAt.stp {c : Ct} {z z' : Addr → Prop} {H H' : Hp} {p : Addr} {us : List V} (ht : ∀ p us, H p = some (.tup us) → H' p = some (.tup us)) (h : TupAt c z H p us) : TupAt c z' H' p us := ht _ _ h
/-- a list that is only read: a frozen one, or one of the module's -/
def LstAt (c : Ct) (z : Addr → Prop) (H : Hp) (p : Addr) (us : List V) : Prop :=
  (z p ∧ Rd H p (.lst us)) ∨ ∃ (o : Obj) (its : Array Value) (n : Nat), c.K.lookup p = some o ∧ o.cls = .type "list" ∧ o.dict = none ∧ o.data = .seq its n ∧ its.size ≤ sizeLine ∧ Vals us its.toList
theorem LstAt.sq {c : Ct} {z : Addr → Prop} {H : Hp} {p : Addr} {us : List V} (h : LstAt c z H p us) : SqL c.K H p us := by
  rcases h with h | h
  · exact .inl h.2
  · exact .inr h
theorem rd_same {H H' : Hp} {p : Addr} {o : HO} (e : H' p = H p) (h : Rd H p o) : Rd H' p o := by
  rcases h with h | ⟨q, h⟩
  · exact .inl (e.trans h)
  · exact .inr ⟨q, e.trans h⟩
/-- what is frozen stands; a dict may be locked -/
def Ke (o o' : Option HO) : Prop := o' = o ∨ ∃ od kvs, o = some (.dK kvs) ∧ o' = some (.frz od (.dK kvs))
theorem Ke.refl {o : Option HO} : Ke o o := .inl rfl
theorem Ke.trans {a b c : Option HO} (h : Ke a b) (k : Ke b c) : Ke a c := by
  rcases h with h | ⟨od, kvs, h1, h2⟩
  · rw [← h]; exact k
  · rcases k with k | ⟨od2, kvs2, k1, k2⟩
    · exact .inr ⟨od, kvs, h1, k.trans h2⟩
    · rw [h2] at k1; cases k1
theorem Ke.at {o : HO} {a b : Option HO} (h : Ke a b) (e : a = some o) (n : ∀ kvs, o ≠ .dK kvs) : b = some o := by
  rcases h with h | ⟨od, kvs, h1, h2⟩
  · exact h.trans e
  · rw [e] at h1; exact absurd (Option.some.inj h1) (n kvs)
theorem Ke.ex {a b : Option HO} (h : Ke a b) (e : ∃ o, a = some o) : ∃ o, b = some o := by
  obtain ⟨o, e⟩ := e
  rcases h with h | ⟨od, kvs, h1, h2⟩
  · exact ⟨o, h.trans e⟩
  · exact ⟨_, h2⟩
theorem Ke.rd {H H' : Hp} {p : Addr} {o : HO} (h : Ke (H p) (H' p)) (r : Rd H p o) (n : ∀ kvs, o ≠ .dK kvs) : Rd H' p o := by
  rcases h with h | ⟨od, kvs, h1, h2⟩
  · exact rd_same h r
  · rcases r with r | ⟨q, r⟩
    · rw [r] at h1; exact absurd (Option.some.inj h1) (n kvs)
    · rw [r] at h1; cases h1
theorem Ke.dk {H H' : Hp} {p : Addr} {kvs : List (Key × V)} (h : Ke (H p) (H' p)) (r : Rd H p (.dK kvs)) : Rd H' p (.dK kvs) := by
  rcases h with h | ⟨od, kvs', h1, h2⟩
  · exact rd_same h r
  · rcases r with r | ⟨q, r⟩
    · rw [r] at h1; cases h1; exact .inr ⟨od, h2⟩
    · rw [r] at h1; cases h1
theorem LstAt.stp {c : Ct} {z z' : Addr → Prop} {H H' : Hp} {p : Addr} {us : List V} (hz : ∀ p, z p → z' p) (hH : ∀ p, z p → Ke (H p) (H' p)) (h : LstAt c z H p us) : LstAt c z' H' p us := by
  rcases h with h | h
  · exact .inl ⟨hz p h.1, (hH p h.1).rd h.2 (fun _ z => nomatch z)⟩
  · exact .inr h
mutual
def RV (c : Ct) (z : Addr → Prop) (H : Hp) : VV → V → Prop
  | .non, u => u = .non
  | .bl b, u => u = .bl b
  | .int i, u => u = .int i
  | .str x, u => u = .str x
  | .tup xs, u => ∃ p us, u = .ref p ∧ TupAt c z H p us ∧ RVs c z H xs us
  | .lst xs, u => ∃ p us, u = .ref p ∧ z p ∧ H p = some (.lst us) ∧ RVs c z H xs us
  | .scr xs, u => ∃ p us, u = .ref p ∧ LstAt c z H p us ∧ RVs c z H xs us
  | .dT ks vs, u => ∃ p us, u = .ref p ∧ z p ∧ H p = some (.dT (ks.zip us)) ∧ ks.length = us.length ∧ RVs c z H vs us
  | .dK ks vs, u => ∃ p us, u = .ref p ∧ z p ∧ Rd H p (.dK (ks.zip us)) ∧ ks.length = us.length ∧ RVs c z H vs us
  | .ins x ns vs, u => ∃ p C dx us, u = .ref p ∧ z p ∧ c.mg x = some (.ref C) ∧ H p = some (.ins C dx (ns.zip us)) ∧ ns.length = us.length ∧ RVs c z H vs us
  | .obj _, _ => False
  | .glb x, u => ∃ a, c.mg x = some (.ref a) ∧ u = .ref a
  | .ty n, u => u = .ty n
  | .raw a, u => u = .ref a
def RVs (c : Ct) (z : Addr → Prop) (H : Hp) : List VV → List V → Prop
  | [], us => us = []
  | x :: xs, us => ∃ u r, us = u :: r ∧ RV c z H x u ∧ RVs c z H xs r
end
/-- a value at the top: a root, or data -/
def RT (c : Ct) (g : Gh) (H : Hp) : VV → V → Prop
  | .obj n, u => ∃ a, g.io[n]? = some a ∧ u = .ref a
  | v, u => RV c g.fz H v u
def RTs (c : Ct) (g : Gh) (H : Hp) : List VV → List V → Prop
  | [], us => us = []
  | x :: xs, us => ∃ u r, us = u :: r ∧ RT c g H x u ∧ RTs c g H xs r
def VV.isObj : VV → Bool
  | .obj _ => true
  | _ => false
def RO (c : Ct) (g : Gh) (H : Hp) : VO → Addr → Prop
  | .fzn v, a => g.fz a ∧ RV c g.fz H v (.ref a)
  | .fl xs, a => ¬ g.fz a ∧ ∃ us, H a = some (.lst us) ∧ RVs c g.fz H xs us
  | .lo xs, a => ¬ g.fz a ∧ ∃ us, H a = some (.lst us) ∧ RTs c g H xs us
  | .dT ks vs, a => ¬ g.fz a ∧ ∃ us, H a = some (.dT (ks.zip us)) ∧ ks.length = us.length ∧ RVs c g.fz H vs us
  | .dK ks vs, a => ¬ g.fz a ∧ ∃ us, H a = some (.dK (ks.zip us)) ∧ ks.length = us.length ∧ RVs c g.fz H vs us
  | .ins x ns vs, a => ¬ g.fz a ∧ ∃ C dx us, c.mg x = some (.ref C) ∧ H a = some (.ins C dx (ns.zip us)) ∧ ns.length = us.length ∧ RTs c g H vs us
/-- the table of lambdas of the def that makes some -/
def lamFn : Str := "law"
def lamQ : Str := lamFn ++ ".<locals>." ++ "<lambda>"
def LTab (c : Ct) (H : Hp) : Prop := ∀ cc P, PySem.W.tabIn c.K lamFn = some (cc, P) → LamX.TabS H P lamQ
def NoTab (D : Addr) (o : Option HO) : Prop := (∀ ps, o ≠ some (.tbl ps)) ∧ ∀ q, o ≠ some (LamX.CodeO D q)
theorem NoTab.none {D : Addr} {o : Option HO} (e : o = Option.none) : NoTab D o := by
  subst e
  exact ⟨fun _ z => (by cases z), fun _ z => (by cases z)⟩
theorem noTab_of {D : Addr} {o : HO} (h : ∀ ps, o ≠ .tbl ps) (h2 : ∀ f, o ≠ .ext f) : NoTab D (some o) :=
  ⟨fun ps z => h ps (Option.some.inj z), fun q z => by
    have z := Option.some.inj z
    unfold LamX.CodeO at z
    exact h2 _ z⟩
theorem LTab.upd {c : Ct} {H : Hp} {D : Addr} {O : HO} (t : LTab c H) (n : NoTab D (H D)) : LTab c (upd H D O) := fun cc P e => by
  obtain ⟨ps, h1, h2, h3⟩ := t cc P e
  refine ⟨ps, by rw [upd_ne (fun z => n.1 ps (by rw [← z]; exact h1))]; exact h1, h2, fun pos cv hc => ?_⟩
  obtain ⟨k, e1, e2⟩ := h3 pos cv hc
  exact ⟨k, e1, by rw [upd_ne (fun z => n.2 lamQ (by rw [← z]; exact e2))]; exact e2⟩
theorem RO.noTab {c : Ct} {g : Gh} {H : Hp} {o : VO} {a : Addr} (h : RO c g H o a) (nz : ¬ g.fz a) : NoTab a (H a) := by
  cases o with
  | fzn v => exact absurd h.1 nz
  | fl xs => obtain ⟨h1, us, h3, h4⟩ := h; rw [h3]; exact noTab_of (fun _ z => by cases z) (fun _ z => by cases z)
  | lo xs => obtain ⟨h1, us, h3, h4⟩ := h; rw [h3]; exact noTab_of (fun _ z => by cases z) (fun _ z => by cases z)
  | dT ks vs => obtain ⟨h1, us, h3, h4⟩ := h; rw [h3]; exact noTab_of (fun _ z => by cases z) (fun _ z => by cases z)
  | dK ks vs => obtain ⟨h1, us, h3, h4⟩ := h; rw [h3]; exact noTab_of (fun _ z => by cases z) (fun _ z => by cases z)
  | ins x ns vs => obtain ⟨h1, C, dx, us, h3, h4, h5⟩ := h; rw [h4]; exact noTab_of (fun _ z => by cases z) (fun _ z => by cases z)
structure RH (c : Ct) (g : Gh) (h : VH) (H : Hp) : Prop where
  len : g.io.length = h.length
  nd : g.io.Nodup
  at' : ∀ (n : Nat) (o : VO) (a : Addr), h[n]? = some o → g.io[n]? = some a → RO c g H o a
  fz : ∀ q, g.fz q → ∃ o, H q = some o
  kp : ∀ q, g.kp q → ∃ o, H q = some o
  kd : ∀ q, g.kp q → ¬ g.fz q ∧ q ∉ g.io
  tb : LTab c H
  nt : ∀ q, g.fz q ∨ g.kp q → ∀ ps, H q ≠ some (.tbl ps)
structure Stp (g : Gh) (H : Hp) (g' : Gh) (H' : Hp) : Prop where
  io : g.io <+: g'.io
  fz : ∀ p, g.fz p → g'.fz p
  kp : ∀ p, g.kp p → g'.kp p
  fH : ∀ p, g.fz p → Ke (H p) (H' p)
  kH : ∀ p, g.kp p → H' p = H p
  tp : ∀ p us, H p = some (.tup us) → H' p = some (.tup us)
theorem Stp.refl {g : Gh} {H : Hp} : Stp g H g H := ⟨List.prefix_rfl, fun _ h => h, fun _ h => h, fun _ _ => .refl, fun _ _ => rfl, fun _ _ h => h⟩
theorem Stp.trans {g g1 g2 : Gh} {H H1 H2 : Hp} (a : Stp g H g1 H1) (b : Stp g1 H1 g2 H2) : Stp g H g2 H2 :=
  ⟨a.io.trans b.io, fun p h => b.fz p (a.fz p h), fun p h => b.kp p (a.kp p h), fun p h => (a.fH p h).trans (b.fH p (a.fz p h)), fun p h => (b.kH p (a.kp p h)).trans (a.kH p h), fun p us h => b.tp p us (a.tp p us h)⟩
mutual
theorem RV.stp {c : Ct} {z z' : Addr → Prop} {H H' : Hp} (hz : ∀ p, z p → z' p) (hH : ∀ p, z p → Ke (H p) (H' p)) (ht : ∀ p us, H p = some (.tup us) → H' p = some (.tup us)) : ∀ (v : VV) (u : V), RV c z H v u → RV c z' H' v u
  | .non, u, h => by simpa only [RV] using h
  | .bl b, u, h => by simpa only [RV] using h
  | .int i, u, h => by simpa only [RV] using h
  | .str x, u, h => by simpa only [RV] using h
  | .tup xs, u, h => by
    rw [RV] at h ⊢
    obtain ⟨p, us, e, r, q⟩ := h
    exact ⟨p, us, e, r.stp ht, RVs.stp hz hH ht xs us q⟩
  | .lst xs, u, h => by
    rw [RV] at h ⊢
    obtain ⟨p, us, e, hp, r, q⟩ := h
    exact ⟨p, us, e, hz p hp, (hH p hp).at r (fun _ z => nomatch z), RVs.stp hz hH ht xs us q⟩
  | .scr xs, u, h => by
    rw [RV] at h ⊢
    obtain ⟨p, us, e, r, q⟩ := h
    exact ⟨p, us, e, r.stp hz hH, RVs.stp hz hH ht xs us q⟩
  | .dT ks vs, u, h => by
    rw [RV] at h ⊢
    obtain ⟨p, us, e, hp, r, l, q⟩ := h
    exact ⟨p, us, e, hz p hp, (hH p hp).at r (fun _ z => nomatch z), l, RVs.stp hz hH ht vs us q⟩
  | .dK ks vs, u, h => by
    rw [RV] at h ⊢
    obtain ⟨p, us, e, hp, r, l, q⟩ := h
    exact ⟨p, us, e, hz p hp, (hH p hp).dk r, l, RVs.stp hz hH ht vs us q⟩
  | .ins x ns vs, u, h => by
    rw [RV] at h ⊢
    obtain ⟨p, C, dx, us, e, hp, m, r, l, q⟩ := h
    exact ⟨p, C, dx, us, e, hz p hp, m, (hH p hp).at r (fun _ z => nomatch z), l, RVs.stp hz hH ht vs us q⟩
  | .obj _, _, h => by rw [RV] at h; exact h.elim
  | .glb x, u, h => by simpa only [RV] using h
  | .ty n, u, h => by simpa only [RV] using h
  | .raw a, u, h => by simpa only [RV] using h
theorem RVs.stp {c : Ct} {z z' : Addr → Prop} {H H' : Hp} (hz : ∀ p, z p → z' p) (hH : ∀ p, z p → Ke (H p) (H' p)) (ht : ∀ p us, H p = some (.tup us) → H' p = some (.tup us)) : ∀ (vs : List VV) (us : List V), RVs c z H vs us → RVs c z' H' vs us
  | [], us, h => by simpa only [RVs] using h
  | x :: xs, us, h => by
    rw [RVs] at h ⊢
    obtain ⟨u, r, e, a, b⟩ := h
    exact ⟨u, r, e, RV.stp hz hH ht x u a, RVs.stp hz hH ht xs r b⟩
end
theorem Stp.rv {c : Ct} {g g' : Gh} {H H' : Hp} (s : Stp g H g' H') {v : VV} {u : V} (h : RV c g.fz H v u) : RV c g'.fz H' v u := RV.stp s.fz s.fH s.tp _ _ h
theorem Stp.rvs {c : Ct} {g g' : Gh} {H H' : Hp} (s : Stp g H g' H') {v : List VV} {u : List V} (h : RVs c g.fz H v u) : RVs c g'.fz H' v u := RVs.stp s.fz s.fH s.tp _ _ h
theorem RT.of_rv {c : Ct} {g : Gh} {H : Hp} {v : VV} {u : V} (h : RV c g.fz H v u) : RT c g H v u := by
  cases v with
  | obj n => rw [RV] at h; exact h.elim
  | _ => exact h
theorem RT.rv {c : Ct} {g : Gh} {H : Hp} {v : VV} {u : V} (h : RT c g H v u) (n : v.isObj = false) : RV c g.fz H v u := by
  cases v with
  | obj n => cases n
  | _ => exact h
theorem RT.stp {c : Ct} {g g' : Gh} {H H' : Hp} (s : Stp g H g' H') {v : VV} {u : V} (h : RT c g H v u) : RT c g' H' v u := by
  cases v with
  | obj n =>
    obtain ⟨a, e, hu⟩ := h
    refine ⟨a, ?_, hu⟩
    obtain ⟨l, hl⟩ := s.io
    rw [← hl, List.getElem?_append_left (List.getElem?_eq_some_iff.mp e).1]
    exact e
  | _ => exact RT.of_rv (RV.stp s.fz s.fH s.tp _ _ (RT.rv h rfl))
theorem RTs.stp {c : Ct} {g g' : Gh} {H H' : Hp} (s : Stp g H g' H') : ∀ {vs : List VV} {us : List V}, RTs c g H vs us → RTs c g' H' vs us
  | [], us, h => h
  | x :: xs, us, h => by
    obtain ⟨u, r, e, a, b⟩ := h
    exact ⟨u, r, e, a.stp s, RTs.stp s b⟩
theorem RTs.of_rvs {c : Ct} {g : Gh} {H : Hp} : ∀ {vs : List VV} {us : List V}, RVs c g.fz H vs us → RTs c g H vs us
  | [], us, h => by rw [RVs] at h; exact h
  | x :: xs, us, h => by
    rw [RVs] at h
    obtain ⟨u, r, e, a, b⟩ := h
    exact ⟨u, r, e, RT.of_rv a, RTs.of_rvs b⟩
theorem RTs.rvs {c : Ct} {g : Gh} {H : Hp} : ∀ {vs : List VV} {us : List V}, RTs c g H vs us → vs.any VV.isObj = false → RVs c g.fz H vs us
  | [], us, h, _ => by rw [RVs]; exact h
  | x :: xs, us, h, n => by
    obtain ⟨u, r, e, a, b⟩ := h
    rw [List.any_cons, Bool.or_eq_false_iff] at n
    rw [RVs]
    exact ⟨u, r, e, a.rv n.1, RTs.rvs b n.2⟩
theorem RVs.len {c : Ct} {z : Addr → Prop} {H : Hp} : ∀ {vs : List VV} {us : List V}, RVs c z H vs us → vs.length = us.length
  | [], us, h => by rw [RVs] at h; rw [h]; rfl
  | x :: xs, us, h => by
    rw [RVs] at h
    obtain ⟨u, r, e, a, b⟩ := h
    rw [e, List.length_cons, List.length_cons, RVs.len b]
theorem RTs.len {c : Ct} {g : Gh} {H : Hp} : ∀ {vs : List VV} {us : List V}, RTs c g H vs us → vs.length = us.length
  | [], us, h => by rw [show us = [] from h]; rfl
  | x :: xs, us, h => by
    obtain ⟨u, r, e, a, b⟩ := h
    rw [e, List.length_cons, List.length_cons, RTs.len b]
theorem RVs.get {c : Ct} {z : Addr → Prop} {H : Hp} : ∀ {vs : List VV} {us : List V} {i : Nat} {v : VV}, RVs c z H vs us → vs[i]? = some v → ∃ u, us[i]? = some u ∧ RV c z H v u
  | [], us, i, v, h, e => by simp at e
  | x :: xs, us, i, v, h, e => by
    rw [RVs] at h
    obtain ⟨u, r, rfl, a, b⟩ := h
    cases i with
    | zero => simp at e; subst e; exact ⟨u, rfl, a⟩
    | succ i => exact RVs.get (i := i) b (by simpa using e)
theorem RVs.app {c : Ct} {z : Addr → Prop} {H : Hp} : ∀ {vs ws : List VV} {us ys : List V}, RVs c z H vs us → RVs c z H ws ys → RVs c z H (vs ++ ws) (us ++ ys)
  | [], ws, us, ys, h, k => by rw [RVs] at h; subst h; exact k
  | x :: xs, ws, us, ys, h, k => by
    rw [RVs] at h
    obtain ⟨u, r, rfl, a, b⟩ := h
    show RVs c z H (x :: (xs ++ ws)) (u :: (r ++ ys))
    rw [RVs]
    exact ⟨u, _, rfl, a, RVs.app b k⟩
theorem RVs.set {c : Ct} {z : Addr → Prop} {H : Hp} {v : VV} {u : V} (q : RV c z H v u) : ∀ {vs : List VV} {us : List V} {i : Nat}, RVs c z H vs us → RVs c z H (vs.set i v) (us.set i u)
  | [], us, i, h => by rw [RVs] at h; subst h; simp only [List.set_nil]; rw [RVs]
  | x :: xs, us, i, h => by
    rw [RVs] at h
    obtain ⟨y, r, rfl, a, b⟩ := h
    cases i with
    | zero => simp only [List.set_cons_zero]; rw [RVs]; exact ⟨u, r, rfl, q, b⟩
    | succ i => simp only [List.set_cons_succ]; rw [RVs]; exact ⟨y, _, rfl, a, RVs.set q b⟩
theorem RVs.one {c : Ct} {z : Addr → Prop} {H : Hp} {v : VV} {u : V} (q : RV c z H v u) : RVs c z H [v] [u] := by
  rw [RVs]; exact ⟨u, [], rfl, q, by rw [RVs]⟩
theorem RVs.nil {c : Ct} {z : Addr → Prop} {H : Hp} : RVs c z H [] [] := by rw [RVs]
theorem RVs.cons {c : Ct} {z : Addr → Prop} {H : Hp} {v : VV} {u : V} {vs us} (q : RV c z H v u) (r : RVs c z H vs us) : RVs c z H (v :: vs) (u :: us) := by
  rw [RVs]; exact ⟨u, us, rfl, q, r⟩
theorem RVs.take {c : Ct} {z : Addr → Prop} {H : Hp} : ∀ {vs : List VV} {us : List V} (n : Nat), RVs c z H vs us → RVs c z H (vs.take n) (us.take n)
  | _, _, 0, _ => by simp only [List.take_zero]; exact RVs.nil
  | [], us, n + 1, h => by rw [RVs] at h; subst h; simp only [List.take_nil]; exact RVs.nil
  | x :: xs, us, n + 1, h => by
    rw [RVs] at h
    obtain ⟨u, r, rfl, a, b⟩ := h
    simp only [List.take_succ_cons]
    exact RVs.cons a (RVs.take n b)
theorem RVs.drop {c : Ct} {z : Addr → Prop} {H : Hp} : ∀ {vs : List VV} {us : List V} (n : Nat), RVs c z H vs us → RVs c z H (vs.drop n) (us.drop n)
  | _, _, 0, h => by simpa only [List.drop_zero] using h
  | [], us, n + 1, h => by rw [RVs] at h; subst h; simp only [List.drop_nil]; exact RVs.nil
  | x :: xs, us, n + 1, h => by
    rw [RVs] at h
    obtain ⟨u, r, rfl, a, b⟩ := h
    simp only [List.drop_succ_cons]
    exact RVs.drop n b
theorem RT.back {c : Ct} {g g' : Gh} {H : Hp} (e1 : g'.io = g.io) (e2 : g'.fz = g.fz) {v : VV} {u : V} (h : RT c g H v u) : RT c g' H v u := by
  cases v with
  | obj n => obtain ⟨a, b, d⟩ := h; exact ⟨a, by rw [e1]; exact b, d⟩
  | _ => exact RT.of_rv (by rw [e2]; exact RT.rv h rfl)
theorem RTs.back {c : Ct} {g : Gh} {H : Hp} {k : Addr → Prop} : ∀ {vs : List VV} {us : List V}, RTs c g H vs us → RTs c { g with kp := k } H vs us
  | [], us, h => h
  | x :: xs, us, h => by
    obtain ⟨u, r, e, a, b⟩ := h
    exact ⟨u, r, e, a.back rfl rfl, RTs.back b⟩
/-- slots -/
structure RS (c : Ct) (g : Gh) (H : Hp) (ρ : VSt) (σ : St) : Prop where
  len : ρ.length = σ.length
  get : ∀ (i : Nat) (v : VV), ρ[i]? = some (some v) → ∃ u, σ[i]? = some (some u) ∧ RT c g H v u
theorem RS.stp {c : Ct} {g g' : Gh} {H H' : Hp} {ρ : VSt} {σ : St} (s : Stp g H g' H') (h : RS c g H ρ σ) : RS c g' H' ρ σ := ⟨h.len, fun i v e => by
  obtain ⟨u, a, b⟩ := h.get i v e
  exact ⟨u, a, b.stp s⟩⟩
theorem RO.stp {c : Ct} {g g' : Gh} {H H' : Hp} {o : VO} {a : Addr} (s : Stp g H g' H') (nz : ¬ g.fz a → ¬ g'.fz a) (e : H' a = H a) (h : RO c g H o a) : RO c g' H' o a := by
  cases o with
  | fzn v => exact ⟨s.fz a h.1, s.rv h.2⟩
  | fl xs =>
    obtain ⟨h1, us, h3, h4⟩ := h
    exact ⟨nz h1, us, e.trans h3, s.rvs h4⟩
  | lo xs =>
    obtain ⟨h1, us, h3, h4⟩ := h
    exact ⟨nz h1, us, e.trans h3, h4.stp s⟩
  | dT ks vs =>
    obtain ⟨h1, us, h3, h4, h5⟩ := h
    exact ⟨nz h1, us, e.trans h3, h4, s.rvs h5⟩
  | dK ks vs =>
    obtain ⟨h1, us, h3, h4, h5⟩ := h
    exact ⟨nz h1, us, e.trans h3, h4, s.rvs h5⟩
  | ins x ns vs =>
    obtain ⟨h1, C, dx, us, h3, h4, h5, h6⟩ := h
    exact ⟨nz h1, C, dx, us, h3, e.trans h4, h5, h6.stp s⟩
theorem RO.some {c : Ct} {g : Gh} {H : Hp} {o : VO} {a : Addr} (fz : ∀ q, g.fz q → ∃ o, H q = some o) (h : RO c g H o a) : ∃ o, H a = some o := by
  cases o with
  | fzn v => exact fz a h.1
  | fl xs => obtain ⟨h1, us, h3, h4⟩ := h; exact ⟨_, h3⟩
  | lo xs => obtain ⟨h1, us, h3, h4⟩ := h; exact ⟨_, h3⟩
  | dT ks vs => obtain ⟨h1, us, h3, h4⟩ := h; exact ⟨_, h3⟩
  | dK ks vs => obtain ⟨h1, us, h3, h4⟩ := h; exact ⟨_, h3⟩
  | ins x ns vs => obtain ⟨h1, C, dx, us, h3, h4, h5⟩ := h; exact ⟨_, h4⟩
theorem RH.root {c : Ct} {g : Gh} {h : VH} {H : Hp} (R : RH c g h H) {a : Addr} (ha : a ∈ g.io) : ∃ o, H a = some o := by
  obtain ⟨n, hn, e⟩ := List.getElem_of_mem ha
  have hl : n < h.length := by rw [← R.len]; exact hn
  exact (R.at' n h[n] a (List.getElem?_eq_getElem hl) (by rw [List.getElem?_eq_getElem hn, e])).some R.fz
theorem RH.rootNt {c : Ct} {g : Gh} {h : VH} {H : Hp} (R : RH c g h H) {a : Addr} (ha : a ∈ g.io) (ps : Array Value) : H a ≠ some (.tbl ps) := by
  obtain ⟨n, hn, e⟩ := List.getElem_of_mem ha
  have hl : n < h.length := by rw [← R.len]; exact hn
  by_cases z : g.fz a
  · exact R.nt a (.inl z) ps
  · exact (RO.noTab (R.at' n h[n] a (List.getElem?_eq_getElem hl) (by rw [List.getElem?_eq_getElem hn, e])) z).1 ps
theorem nodup_inj {l : List Addr} (h : l.Nodup) {i j : Nat} {a : Addr} (h1 : l[i]? = some a) (h2 : l[j]? = some a) : i = j :=
  (List.getElem?_inj (List.getElem?_eq_some_iff.mp h1).1 h).mp (h1.trans h2.symm)
/-- new data: p, frozen -/
def Gh.frz (g : Gh) (p : Addr) : Gh := { g with fz := fun q => g.fz q ∨ q = p }
theorem Stp.new {c : Ct} {g : Gh} {h : VH} {H : Hp} (R : RH c g h H) {p : Addr} {o : HO} (np : H p = none) : Stp g H (g.frz p) (upd H p o) := by
  have ne : ∀ q, (∃ o, H q = some o) → q ≠ p := fun q ⟨o, e⟩ z => by rw [z, np] at e; cases e
  exact ⟨List.prefix_rfl, fun _ h => .inl h, fun _ h => h, fun q h => .inl (upd_ne (ne q (R.fz q h))), fun q h => upd_ne (ne q (R.kp q h)), fun q us h => (upd_ne (ne q ⟨_, h⟩)).trans h⟩
theorem RH.new {c : Ct} {g : Gh} {h : VH} {H : Hp} (R : RH c g h H) {p : Addr} {o : HO} (np : H p = none) (nt : ∀ ps, o ≠ .tbl ps := by intro _ z; cases z) : RH c (g.frz p) h (upd H p o) := by
  have ne : ∀ q, (∃ o, H q = some o) → q ≠ p := fun q ⟨o, e⟩ z => by rw [z, np] at e; cases e
  refine ⟨R.len, R.nd, fun n o a h1 h2 => ?_, fun q h => ?_, fun q h => ?_, fun q h => ⟨fun z => z.elim (R.kd q h).1 (ne q (R.kp q h)), (R.kd q h).2⟩, R.tb.upd (.none np), fun q h ps z => ?_⟩
  rotate_left 3
  · by_cases e : q = p
    · subst e; rw [upd_same] at z; exact nt ps (Option.some.inj z)
    · rw [upd_ne e] at z
      rcases h with h | h
      · exact R.nt q (.inl (h.elim id (fun y => absurd y e))) ps z
      · exact R.nt q (.inr h) ps z
  · have na : a ≠ p := ne a (R.root (List.mem_of_getElem? h2))
    exact RO.stp (Stp.new R np) (fun h z => z.elim h na) (upd_ne na) (R.at' n o a h1 h2)
  · rcases h with h | h
    · rw [upd_ne (ne q (R.fz q h))]; exact R.fz q h
    · rw [h]; exact ⟨_, upd_same⟩
  · rw [upd_ne (ne q (R.kp q h))]; exact R.kp q h
/-- heap beside that is not ours -/
theorem Stp.junk {c : Ct} {g : Gh} {h : VH} {H : Hp} (R : RH c g h H) {p : Addr} {o : HO} (np : H p = none) : Stp g H g (upd H p o) := by
  have ne : ∀ q, (∃ o, H q = some o) → q ≠ p := fun q ⟨o, e⟩ z => by rw [z, np] at e; cases e
  exact ⟨List.prefix_rfl, fun _ h => h, fun _ h => h, fun q h => .inl (upd_ne (ne q (R.fz q h))), fun q h => upd_ne (ne q (R.kp q h)), fun q us h => (upd_ne (ne q ⟨_, h⟩)).trans h⟩
theorem RH.junk {c : Ct} {g : Gh} {h : VH} {H : Hp} (R : RH c g h H) {p : Addr} {o : HO} (np : H p = none) : RH c g h (upd H p o) := by
  have ne : ∀ q, (∃ o, H q = some o) → q ≠ p := fun q ⟨o, e⟩ z => by rw [z, np] at e; cases e
  refine ⟨R.len, R.nd, fun n o a h1 h2 => ?_, fun q h => ?_, fun q h => ?_, R.kd, R.tb.upd (.none np), fun q h ps z => R.nt q h ps (by rw [upd_ne (ne q (h.elim (R.fz q) (R.kp q)))] at z; exact z)⟩
  · have na : a ≠ p := ne a (R.root (List.mem_of_getElem? h2))
    exact RO.stp (Stp.junk R np) (fun h => h) (upd_ne na) (R.at' n o a h1 h2)
  · rw [upd_ne (ne q (R.fz q h))]; exact R.fz q h
  · rw [upd_ne (ne q (R.kp q h))]; exact R.kp q h
/-- a new root -/
def Gh.add (g : Gh) (p : Addr) : Gh := { g with io := g.io ++ [p] }
theorem Stp.add {g : Gh} {H : Hp} {p : Addr} : Stp g H (g.add p) H := ⟨List.prefix_append _ _, fun _ h => h, fun _ h => h, fun _ _ => .refl, fun _ _ => rfl, fun _ _ h => h⟩
theorem RH.add {c : Ct} {g : Gh} {h : VH} {H : Hp} (R : RH c g h H) {p : Addr} {o : VO} (hp : p ∉ g.io) (hk : ¬ g.kp p) (ro : RO c (g.add p) H o p) : RH c (g.add p) (h ++ [o]) H := by
  refine ⟨by show (g.io ++ [p]).length = _; simp [R.len], ?_, fun n o' a h1 h2 => ?_, R.fz, R.kp, fun q h => ⟨(R.kd q h).1, fun z => ?_⟩, R.tb, R.nt⟩
  · show (g.io ++ [p]).Nodup
    rw [List.nodup_append]
    exact ⟨R.nd, by simp, fun a ha b hb => by simp at hb; subst hb; intro e; subst e; exact hp ha⟩
  · have h2' : (g.io ++ [p])[n]? = some a := h2
    by_cases hn : n < h.length
    · rw [List.getElem?_append_left hn] at h1
      rw [List.getElem?_append_left (by rw [R.len]; exact hn)] at h2'
      exact RO.stp Stp.add (fun h => h) rfl (R.at' n o' a h1 h2')
    · have : n = h.length := by
        have := (List.getElem?_eq_some_iff.mp h1).1
        simp at this; omega
      subst this
      rw [List.getElem?_append_right (Nat.le_refl _), Nat.sub_self] at h1
      rw [List.getElem?_append_right (by rw [R.len]; exact Nat.le_refl _), R.len, Nat.sub_self] at h2'
      simp at h1 h2'
      subst h1 h2'
      exact ro
  · rcases List.mem_append.mp z with z | z
    · exact (R.kd q h).2 z
    · simp at z; subst z; exact hk h
/-- a root is written -/
theorem Stp.wr {c : Ct} {g : Gh} {H : Hp} {a : Addr} {O : HO} (nz : ¬ g.fz a) (nk : ¬ g.kp a) (nt : ∀ us, H a ≠ some (.tup us)) : Stp g H g (upd H a O) :=
  ⟨List.prefix_rfl, fun _ h => h, fun _ h => h, fun q h => .inl (upd_ne (fun z => nz (z ▸ h))), fun q h => upd_ne (fun z => nk (z ▸ h)), fun q us h => (upd_ne (fun (z : q = a) => nt us (by rw [← z]; exact h))).trans h⟩
theorem RH.wr {c : Ct} {g : Gh} {h : VH} {H : Hp} (R : RH c g h H) {n : Nat} {a : Addr} {o : VO} {O : HO} (ha : g.io[n]? = some a) (nz : ¬ g.fz a) (nt : ∀ us, H a ≠ some (.tup us)) (ro : RO c g (upd H a O) o a) : RH c g (h.set n o) (upd H a O) := by
  have nk : ¬ g.kp a := fun z => (R.kd a z).2 (List.mem_of_getElem? ha)
  have hio : ∃ o0, h[n]? = some o0 := by
    have hl : n < h.length := by rw [← R.len]; exact (List.getElem?_eq_some_iff.mp ha).1
    exact ⟨_, List.getElem?_eq_getElem hl⟩
  obtain ⟨o0, ho0⟩ := hio
  refine ⟨by rw [List.length_set]; exact R.len, R.nd, fun m o' b h1 h2 => ?_, fun q h => ?_, fun q h => ?_, R.kd, R.tb.upd ((R.at' n o0 a ho0 ha).noTab nz), fun q h ps z => R.nt q h ps (by rw [upd_ne (show q ≠ a from fun y => h.elim (fun h => nz (y ▸ h)) (fun h => nk (y ▸ h)))] at z; exact z)⟩
  · by_cases e : m = n
    · subst e
      rw [ha] at h2; cases h2
      have hl : m < h.length := by have := (List.getElem?_eq_some_iff.mp h1).1; simpa using this
      rw [List.getElem?_set_self hl] at h1
      cases h1
      exact ro
    · rw [List.getElem?_set_ne (Ne.symm e)] at h1
      have nb : b ≠ a := fun z => by
        subst z
        exact e (nodup_inj R.nd h2 ha)
      exact RO.stp (Stp.wr (c := c) nz nk nt) (fun h => h) (upd_ne nb) (R.at' m o' b h1 h2)
  · rw [upd_ne (show q ≠ a from fun z => nz (z ▸ h))]; exact R.fz q h
  · rw [upd_ne (show q ≠ a from fun z => nk (z ▸ h))]; exact R.kp q h
/-- a root is frozen -/
theorem Stp.kill {g : Gh} {H : Hp} {p : Addr} : Stp g H (g.frz p) H := ⟨List.prefix_rfl, fun _ h => .inl h, fun _ h => h, fun _ _ => .refl, fun _ _ => rfl, fun _ _ h => h⟩
theorem RH.kill {c : Ct} {g : Gh} {h : VH} {H : Hp} (R : RH c g h H) {n : Nat} {a : Addr} {v : VV} (ha : g.io[n]? = some a) (rv : RV c (g.frz a).fz H v (.ref a)) : RH c (g.frz a) (h.set n (.fzn v)) H := by
  refine ⟨by rw [List.length_set]; exact R.len, R.nd, fun m o' b h1 h2 => ?_, fun q h => ?_, R.kp, fun q h => ⟨fun z => z.elim (R.kd q h).1 (fun e => (R.kd q h).2 (e ▸ List.mem_of_getElem? ha)), (R.kd q h).2⟩, R.tb, fun q h ps z => ?_⟩
  rotate_left 2
  · rcases h with (h | h) | h
    · exact R.nt q (.inl h) ps z
    · rw [h] at z; exact R.rootNt (List.mem_of_getElem? ha) ps z
    · exact R.nt q (.inr h) ps z
  · have h2' : g.io[m]? = some b := h2
    by_cases e : m = n
    · subst e
      rw [ha] at h2'; cases h2'
      have hl : m < h.length := by have := (List.getElem?_eq_some_iff.mp h1).1; simpa using this
      rw [List.getElem?_set_self hl] at h1
      cases h1
      exact ⟨.inr rfl, rv⟩
    · rw [List.getElem?_set_ne (Ne.symm e)] at h1
      have nb : b ≠ a := fun z => by
        subst z
        exact e (nodup_inj R.nd h2' ha)
      exact RO.stp Stp.kill (fun h z => z.elim h nb) rfl (R.at' m o' b h1 h2')
  · rcases h with h | h
    · exact R.fz q h
    · rw [h]; exact R.root (List.mem_of_getElem? ha)
/-- an address that is ours for a while: others keep it -/
def Gh.keep (g : Gh) (D : Addr) : Gh := { g with kp := fun q => g.kp q ∨ q = D }
def Gh.back (g : Gh) (k : Addr → Prop) : Gh := { g with kp := k }
theorem Stp.keep {g : Gh} {H : Hp} {D : Addr} : Stp g H (g.keep D) H := ⟨List.prefix_rfl, fun _ h => h, fun _ h => .inl h, fun _ _ => .refl, fun _ _ => rfl, fun _ _ h => h⟩
theorem RH.keep {c : Ct} {g : Gh} {h : VH} {H : Hp} (R : RH c g h H) {D : Addr} {o : HO} (e : H D = some o) (nf : ¬ g.fz D) (ni : D ∉ g.io) (nt : ∀ ps, o ≠ .tbl ps := by intro _ z; cases z) : RH c (g.keep D) h H :=
  ⟨R.len, R.nd, fun n o a h1 h2 => RO.stp Stp.keep (fun h => h) rfl (R.at' n o a h1 h2), R.fz, fun q h => h.elim (R.kp q) (fun z => by rw [z]; exact ⟨o, e⟩), fun q h => h.elim (R.kd q) (fun z => by rw [z]; exact ⟨nf, ni⟩), R.tb, fun q h ps z => by
    rcases h with h | h | h
    · exact R.nt q (.inl h) ps z
    · exact R.nt q (.inr h) ps z
    · rw [h, e] at z; exact nt ps (Option.some.inj z)⟩
theorem RH.back {c : Ct} {g : Gh} {h : VH} {H : Hp} (R : RH c g h H) {k : Addr → Prop} (hk : ∀ p, k p → g.kp p) : RH c (g.back k) h H := by
  refine ⟨R.len, R.nd, fun n o a h1 h2 => ?_, R.fz, fun q h => R.kp q (hk q h), fun q h => R.kd q (hk q h), R.tb, fun q h => R.nt q (h.imp id (hk q))⟩
  have := R.at' n o a h1 h2
  cases o with
  | fzn v => exact this
  | fl xs => exact this
  | lo xs =>
    obtain ⟨h1, us, h3, h4⟩ := this
    exact ⟨h1, us, h3, RTs.back h4⟩
  | dT ks vs => exact this
  | dK ks vs => exact this
  | ins x ns vs =>
    obtain ⟨h1, C, dx, us, h3, h4, h5, h6⟩ := this
    refine ⟨h1, C, dx, us, h3, h4, h5, ?_⟩
    exact RTs.back h6
/-! the reading of a semantics -/
def Pst {α β : Type} (c : Ct) (W : WX) (σ : St) (R : Gh → Hp → α → β → Prop) (g : Gh) (H : Hp) (Q : β → Hp → Prop) : Res α → Prop
  | .no => False
  | .ok v h' => ∀ g' H' u, Stp g H g' H' → RH c g' h' H' → R g' H' v u → Q u H'
  | .exc x ns vs h' => ∀ g' H' C d us, Stp g H g' H' → RH c g' h' H' → c.mg x = some (.ref C) → (H' d = some (.xd (ns.zip us)) ∧ ¬ g'.fz d ∧ d ∉ g'.io) → ns.length = us.length → RVs c g'.fz H' vs us → W (.ref C) (some d) σ H'
theorem Pst.step {α β : Type} {c : Ct} {W : WX} {σ : St} {R : Gh → Hp → α → β → Prop} {g g1 : Gh} {H H1 : Hp} {Q : β → Hp → Prop} {r : Res α} (s : Stp g H g1 H1) (h : Pst c W σ R g H Q r) : Pst c W σ R g1 H1 Q r := by
  cases r with
  | no => exact h
  | ok v h' => exact fun g' H' u st => h g' H' u (s.trans st)
  | exc x ns vs h' => exact fun g' H' C d us st => h g' H' C d us (s.trans st)
theorem Pst.bind {α β γ δ : Type} {c : Ct} {W : WX} {σ : St} {R : Gh → Hp → α → β → Prop} {R' : Gh → Hp → γ → δ → Prop} {g : Gh} {H : Hp} {Q : δ → Hp → Prop} {r : Res α} {k : α → VH → Res γ} (h : Pst c W σ R' g H Q (r.bind k)) :
    Pst c W σ R g H (fun u H1 => ∃ g1 v h1, Stp g H g1 H1 ∧ RH c g1 h1 H1 ∧ R g1 H1 v u ∧ Pst c W σ R' g1 H1 Q (k v h1)) r := by
  cases r with
  | no => exact h
  | ok v h' => exact fun g' H' u st rh rv => ⟨g', v, h', st, rh, rv, Pst.step st h⟩
  | exc x ns vs h' => exact h
theorem Pst.imp {α β : Type} {c : Ct} {W : WX} {σ : St} {R : Gh → Hp → α → β → Prop} {g : Gh} {H : Hp} {Q Q' : β → Hp → Prop} {r : Res α} (h : Pst c W σ R g H Q r) (hq : ∀ u H, Q u H → Q' u H) : Pst c W σ R g H Q' r := by
  cases r with
  | no => exact h
  | ok v h' => exact fun g' H' u a b d => hq _ _ (h g' H' u a b d)
  | exc x ns vs h' => exact h
def tG {α β : Type} (c : Ct) (W : WX) (R : Gh → Hp → α → β → Prop) (f : VSt → VH → Res α) : St → Hp → (β → Hp → Prop) → Prop :=
  fun σ H Q => ∃ g ρ h, RH c g h H ∧ RS c g H ρ σ ∧ Pst c W σ R g H Q (f ρ h)
abbrev EF := VSt → VH → Res VV
abbrev TF := VSt → VH → Res Bool
abbrev AF := VSt → VH → Res (List VV)
def RB (_ : Gh) (_ : Hp) (a b : Bool) : Prop := b = a
abbrev tE (c : Ct) (W : WX) (f : EF) : TE := tG c W (RT c) f
abbrev tT (c : Ct) (W : WX) (f : TF) : TT := tG c W RB f
abbrev tA (c : Ct) (W : WX) (f : AF) : TA := tG c W (RTs c) f
abbrev ct (X : Cx) : Ct := ⟨X.K, X.mg⟩
theorem PE.mono {X : Cx} {e : Expr} {t t' : TE} (h : PE X e t) (m : ∀ σ H Q, t' σ H Q → t σ H Q) : PE X e t' := ⟨fun pins s σ H Q I q => h.run pins s σ H Q I (m σ H Q q)⟩
theorem PT.mono {X : Cx} {e : Expr} {t t' : TT} (h : PT X e t) (m : ∀ σ H Q, t' σ H Q → t σ H Q) : PT X e t' := ⟨fun pins s σ H Q I q => h.run pins s σ H Q I (m σ H Q q)⟩
theorem PW.mono {X : Cx} {e : Expr} {t t' : TT} (h : PW X e t) (m : ∀ σ H Q, t' σ H Q → t σ H Q) : PW X e t' := ⟨fun wh pins s σ H Q I q => h.run wh pins s σ H Q I (m σ H Q q)⟩
theorem PA.mono {X : Cx} {e : List Expr} {t t' : TA} (h : PA X e t) (m : ∀ σ H Q, t' σ H Q → t σ H Q) : PA X e t' := ⟨fun pos pins s σ H Q I q => h.run pos pins s σ H Q I (m σ H Q q)⟩
theorem PS.mono {X : Cx} {e : Stmt} {t t' : TS} (h : PS X e t) (m : ∀ D σ H, t' D σ H → t D σ H) : PS X e t' := ⟨fun pins s σ H D I q => h.run pins s σ H D I (m D σ H q)⟩
theorem PSs.mono {X : Cx} {e : List Stmt} {t t' : TS} (h : PSs X e t) (m : ∀ D σ H, t' D σ H → t D σ H) : PSs X e t' := ⟨fun pins s σ H D I q => h.run pins s σ H D I (m D σ H q)⟩
theorem PI.mono {X : Cx} {tg e : Expr} {t t' : TI} (h : PI X tg e t) (m : ∀ σ H R, t' σ H R → t σ H R) : PI X tg e t' := ⟨fun pins s σ H R I q => h.run pins s σ H R I (m σ H R q)⟩
/-- what is left behind a first part -/
theorem tG.bind {α β γ δ : Type} {c : Ct} {W : WX} {R : Gh → Hp → α → β → Prop} {R' : Gh → Hp → γ → δ → Prop} {f : VSt → VH → Res α} {k : α → VSt → VH → Res γ} {σ : St} {H : Hp} {Q : δ → Hp → Prop}
    (h : tG c W R' (fun ρ h => (f ρ h).bind fun v h1 => k v ρ h1) σ H Q) :
    tG c W R f σ H (fun u H1 => ∃ g1 ρ v h1, RH c g1 h1 H1 ∧ RS c g1 H1 ρ σ ∧ R g1 H1 v u ∧ Pst c W σ R' g1 H1 Q (k v ρ h1)) := by
  obtain ⟨g, ρ, h0, rh, rs, p⟩ := h
  refine ⟨g, ρ, h0, rh, rs, (Pst.bind (R := R) p).imp fun u H1 ⟨g1, v, h1, st, r1, rv, p1⟩ => ⟨g1, ρ, v, h1, r1, rs.stp st, rv, p1⟩⟩
end J
namespace J
open PySem L2
/-! semantic functions -/
abbrev SZ : Nat := 16777216
theorem SZ_le {n : Nat} (h : n ≤ SZ) : n ≤ sizeLine := by rw [sizeLine_eq]; exact h
theorem SZ_lt {n : Nat} (h : n < SZ) : n < sizeLine := by rw [sizeLine_eq]; exact h
def eVar (i : Nat) : EF := fun ρ h => match ρ[i]? with
  | some (some v) => .ok v h
  | _ => .no
def eC (v : VV) : EF := fun _ h => .ok v h
/-- an operation on values that makes no root and changes none -/
abbrev Op2 := VH → VV → VV → Option VV
abbrev Op1 := VH → VV → Option VV
abbrev OpN := VH → List VV → Option VV
def lift (o : Option VV) (h : VH) : Res VV := match o with
  | some v => .ok v h
  | none => .no
def eBin (op : Op2) (a b : EF) : EF := fun ρ h => (a ρ h).bind fun v h1 => (b ρ h1).bind fun w h2 => lift (op h2 v w) h2
def eUn (op : Op1) (a : EF) : EF := fun ρ h => (a ρ h).bind fun v h1 => lift (op h1 v) h1
def eCall (op : OpN) (a : AF) : EF := fun ρ h => (a ρ h).bind fun v h1 => lift (op h1 v) h1
def aNil : AF := fun _ h => .ok [] h
def aCons (a : EF) (b : AF) : AF := fun ρ h => (a ρ h).bind fun v h1 => (b ρ h1).bind fun w h2 => .ok (v :: w) h2
/-- what a rule on values must take: the operation's answer, new or old data -/
def Rd2 (c : Ct) (op : Op2) : R2 := fun x y H Q => ∃ g h v w r, RH c g h H ∧ RT c g H v x ∧ RT c g H w y ∧ op h v w = some r ∧ ∀ g' H' u, Stp g H g' H' → RH c g' h H' → RT c g' H' r u → Q u H'
def Rd1 (c : Ct) (op : Op1) : V → Hp → VK → Prop := fun x H Q => ∃ g h v r, RH c g h H ∧ RT c g H v x ∧ op h v = some r ∧ ∀ g' H' u, Stp g H g' H' → RH c g' h H' → RT c g' H' r u → Q u H'
def RdN (c : Ct) (op : OpN) : List V → Hp → VK → Prop := fun xs H Q => ∃ g h vs r, RH c g h H ∧ RTs c g H vs xs ∧ op h vs = some r ∧ ∀ g' H' u, Stp g H g' H' → RH c g' h H' → RT c g' H' r u → Q u H'
theorem OpR.imp {X : Cx} {f : Value → Value → Sem Value} {r r' : R2} (h : OpR X f r) (m : ∀ x y H Q, r' x y H Q → r x y H Q) : OpR X f r' :=
  fun pins s σ H x y v u Q I a b q => h pins s σ H x y v u Q I a b (m x y H Q q)
theorem IxR.imp {X : Cx} {r r' : R2} (h : IxR X r) (m : ∀ x y H Q, r' x y H Q → r x y H Q) : IxR X r' := by
  unfold IxR at h ⊢
  intros
  apply h <;> first | assumption | (apply m; assumption)
theorem UnR.imp {X : Cx} {f : Value → Sem Value} {r r' : V → Hp → VK → Prop} (h : UnR X f r) (m : ∀ x H Q, r' x H Q → r x H Q) : UnR X f r' :=
  fun pins s σ H x v Q I a q => h pins s σ H x v Q I a (m x H Q q)
theorem CallR.imp {X : Cx} {f : Value} {r r' : List V → Hp → VK → Prop} (h : CallR X f r) (m : ∀ x H Q, r' x H Q → r x H Q) : CallR X f r' :=
  fun pins s σ H x v Q I a q => h pins s σ H x v Q I a (m x H Q q)
section
variable {X : Cx} {W : WX}
theorem j_var (i : Nat) {x : Str} {pos : Pos} (h : PE X (.Name x pos) (tVar i)) : PE X (.Name x pos) (tE (ct X) W (eVar i)) :=
  PE.mono h fun σ H Q ⟨g, ρ, hh, rh, rs, p⟩ => by
    unfold eVar at p
    split at p
    · rename_i v e
      obtain ⟨u, a, b⟩ := rs.get i v e
      exact ⟨u, a, p g H u .refl rh b⟩
    · exact p.elim
theorem j_c {e : Expr} {v : VV} {u : V} (h : PE X e (tC u)) (r : ∀ g H, RT (ct X) g H v u) : PE X e (tE (ct X) W (eC v)) :=
  PE.mono h fun σ H Q ⟨g, ρ, hh, rh, rs, p⟩ => p g H u .refl rh (r g H)
theorem rt_int {c : Ct} {g : Gh} {H : Hp} {i : Int} : RT c g H (.int i) (.int i) := by show RV _ _ _ _ _; rw [RV]
theorem rt_bl {c : Ct} {g : Gh} {H : Hp} {i : Bool} : RT c g H (.bl i) (.bl i) := by show RV _ _ _ _ _; rw [RV]
theorem rt_str {c : Ct} {g : Gh} {H : Hp} {i : Str} : RT c g H (.str i) (.str i) := by show RV _ _ _ _ _; rw [RV]
theorem rt_non {c : Ct} {g : Gh} {H : Hp} : RT c g H .non .non := by show RV _ _ _ _ _; rw [RV]
theorem rt_ty {c : Ct} {g : Gh} {H : Hp} {n : String} : RT c g H (.ty n) (.ty n) := by show RV _ _ _ _ _; rw [RV]
theorem j_int {i j pos} : PE X (.Constant (.int i) j pos) (tE (ct X) W (eC (.int i))) := j_c pe_int fun _ _ => rt_int
theorem j_bl {i j pos} : PE X (.Constant (.bool i) j pos) (tE (ct X) W (eC (.bl i))) := j_c pe_bl fun _ _ => rt_bl
theorem j_str {i j pos} : PE X (.Constant (.str i) j pos) (tE (ct X) W (eC (.str i))) := j_c pe_str fun _ _ => rt_str
theorem j_non {j pos} : PE X (.Constant .none j pos) (tE (ct X) W (eC .non)) := j_c pe_non fun _ _ => rt_non
/-- from a bind to a continuation -/
theorem tOp_of {r : R2} {op : Op2} {fa fb : EF} (m : ∀ x y H Q, Rd2 (ct X) op x y H Q → r x y H Q) {σ : St} {H : Hp} {Q : VK} (h : tE (ct X) W (eBin op fa fb) σ H Q) :
    tOp r (tE (ct X) W fa) (tE (ct X) W fb) σ H Q := by
  have h1 := tG.bind (R := RT (ct X)) (f := fa) (k := fun v ρ h1 => (fb ρ h1).bind fun w h2 => lift (op h2 v w) h2) h
  obtain ⟨g, ρ, h0, rh, rs, p⟩ := h1
  refine ⟨g, ρ, h0, rh, rs, p.imp fun u H1 ⟨g1, ρ1, v, h1, rh1, rs1, rv1, p1⟩ => ?_⟩
  refine ⟨g1, ρ1, h1, rh1, rs1, (Pst.bind (R := RT (ct X)) p1).imp fun u2 H2 ⟨g2, w, h2, st, rh2, rv2, p2⟩ => ?_⟩
  refine m _ _ _ _ ?_
  unfold lift at p2
  split at p2
  · rename_i r e
    exact ⟨g2, h2, v, w, r, rh2, rv1.stp st, rv2, e, p2⟩
  · exact p2.elim
theorem j_bin {op : Op2} {o : Operator} {a b : Expr} {fa fb : EF} {pos : Pos} (ho : OpR X (binaryOp o) (Rd2 (ct X) op)) (ha : PE X a (tE (ct X) W fa)) (hb : PE X b (tE (ct X) W fb)) : PE X (.BinOp a o b pos) (tE (ct X) W (eBin op fa fb)) :=
  PE.mono (pe_op ho ha hb) fun σ H Q h => tOp_of (fun _ _ _ _ q => q) h
theorem j_ix {op : Op2} {a b : Expr} {fa fb : EF} {pos : Pos} (ho : IxR X (Rd2 (ct X) op)) (ha : PE X a (tE (ct X) W fa)) (hb : PE X b (tE (ct X) W fb)) (hs : PlainIx b) : PE X (.Subscript a b pos) (tE (ct X) W (eBin op fa fb)) :=
  PE.mono (pe_ix ho ha hb hs) fun σ H Q h => tOp_of (fun _ _ _ _ q => q) h
theorem j_cmp {op : Op2} {o : CmpOp} {a b : Expr} {fa fb : EF} {pos : Pos} (ho : OpR X (compareOp o) (Rd2 (ct X) op)) (ha : PE X a (tE (ct X) W fa)) (hb : PE X b (tE (ct X) W fb)) (hm : behindInMarks o b = false) : PE X (.Compare a [o] [b] pos) (tE (ct X) W (eBin op fa fb)) :=
  PE.mono (pe_cmpR ho ha hb hm) fun σ H Q h => tOp_of (fun _ _ _ _ q => q) h
theorem j_un {op : Op1} {o : UnaryOp} {a : Expr} {fa : EF} {pos : Pos} (ho : UnR X (unaryOp o) (Rd1 (ct X) op)) (ha : PE X a (tE (ct X) W fa)) : PE X (.UnaryOp o a pos) (tE (ct X) W (eUn op fa)) :=
  PE.mono (pe_un ho ha) fun σ H Q h => by
    obtain ⟨g, ρ, h0, rh, rs, p⟩ := tG.bind (R := RT (ct X)) (f := fa) (k := fun v ρ h1 => lift (op h1 v) h1) h
    refine ⟨g, ρ, h0, rh, rs, p.imp fun u H1 ⟨g1, ρ1, v, h1, rh1, rs1, rv1, p1⟩ => ?_⟩
    unfold lift at p1
    split at p1
    · rename_i r e
      exact ⟨g1, h1, v, r, rh1, rv1, e, p1⟩
    · exact p1.elim
/-! arguments -/
theorem ja_nil : PA X [] (tA (ct X) W aNil) := PA.mono pa_nil fun σ H Q ⟨g, ρ, h0, rh, rs, p⟩ => p g H [] .refl rh rfl
theorem ja_cons {e : Expr} {es : List Expr} {fa : EF} {fb : AF} (ha : PE X e (tE (ct X) W fa)) (hr : PA X es (tA (ct X) W fb)) (hs : starEach (e :: es) X.env = (false, eval e X.env) :: starEach es X.env := by rfl) : PA X (e :: es) (tA (ct X) W (aCons fa fb)) :=
  PA.mono (pa_cons ha hr hs) fun σ H Q h => by
    obtain ⟨g, ρ, h0, rh, rs, p⟩ := tG.bind (R := RT (ct X)) (f := fa) (k := fun v ρ h1 => (fb ρ h1).bind fun w h2 => .ok (v :: w) h2) h
    refine ⟨g, ρ, h0, rh, rs, p.imp fun u H1 ⟨g1, ρ1, v, h1, rh1, rs1, rv1, p1⟩ => ?_⟩
    refine ⟨g1, ρ1, h1, rh1, rs1, (Pst.bind (R := RTs (ct X)) p1).imp fun u2 H2 ⟨g2, w, h2, st, rh2, rv2, p2⟩ => ?_⟩
    exact p2 g2 H2 (u :: u2) .refl rh2 ⟨u, u2, rfl, rv1.stp st, rv2⟩
theorem tCB_of {r : List V → Hp → VK → Prop} {op : OpN} {fa : AF} (m : ∀ x H Q, RdN (ct X) op x H Q → r x H Q) {σ : St} {H : Hp} {Q : VK} (h : tE (ct X) W (eCall op fa) σ H Q) : tCB r (tA (ct X) W fa) σ H Q := by
  obtain ⟨g, ρ, h0, rh, rs, p⟩ := tG.bind (R := RTs (ct X)) (f := fa) (k := fun v ρ h1 => lift (op h1 v) h1) h
  refine ⟨g, ρ, h0, rh, rs, p.imp fun u H1 ⟨g1, ρ1, v, h1, rh1, rs1, rv1, p1⟩ => ?_⟩
  unfold lift at p1
  split at p1
  · rename_i r e
    exact m _ _ _ ⟨g1, h1, v, r, rh1, rv1, e, p1⟩
  · exact p1.elim
theorem j_callB {x : Str} {p pos : Pos} {id : String} {op : OpN} {e : Expr} {es : List Expr} {fa : AF} (hc : CallR X (.builtin id) (RdN (ct X) op)) (hg : Gl X x) (hm : X.mg x = none) (hv : bootBuiltins x = some (.builtin id)) (ha : PA X (e :: es) (tA (ct X) W fa)) (hn : x ≠ "__name__" := by decide) (hdb : (x == ("__debug__" : Str)) = false := by decide)
    (he : starEach (e :: es) X.env = (false, eval e X.env) :: starEach es X.env := by rfl) (hpl : (backTo pos (starEach es X.env)).any (·.1) = false := by rfl) : PE X (.Call (.Name x p) (e :: es) [] pos) (tE (ct X) W (eCall op fa)) :=
  PE.mono (pe_callB hc hg hm hv ha hn hdb he hpl) fun σ H Q h => tCB_of (fun _ _ _ q => q) h
theorem j_callTy {x : Str} {p pos : Pos} {T : String} {op : OpN} {e : Expr} {es : List Expr} {fa : AF} (hc : CallR X (.type T) (RdN (ct X) op)) (hg : Gl X x) (hm : X.mg x = none) (hv : bootBuiltins x = some (.type T)) (ha : PA X (e :: es) (tA (ct X) W fa)) (hn : x ≠ "__name__" := by decide) (hdb : (x == ("__debug__" : Str)) = false := by decide)
    (he : starEach (e :: es) X.env = (false, eval e X.env) :: starEach es X.env := by rfl) (hpl : (backTo pos (starEach es X.env)).any (·.1) = false := by rfl) : PE X (.Call (.Name x p) (e :: es) [] pos) (tE (ct X) W (eCall op fa)) :=
  PE.mono (pe_callTy hc hg hm hv ha hn hdb he hpl) fun σ H Q h => tCB_of (fun _ _ _ q => q) h
/-! displays -/
def eTup (a : AF) : EF := fun ρ h => (a ρ h).bind fun vs h1 => if vs.any VV.isObj = true ∨ vs.length > SZ then .no else .ok (.tup vs) h1
def eLst (a : AF) : EF := fun ρ h => (a ρ h).bind fun vs h1 => if vs.any VV.isObj = true ∨ vs.length > SZ then .no else .ok (.lst vs) h1
/-- a display whose list is a root -/
def eLstO (a : AF) : EF := fun ρ h => (a ρ h).bind fun vs h1 => if vs.any VV.isObj = true ∨ vs.length > SZ then .no else .ok (.obj h1.length) (h1 ++ [.fl vs])
theorem j_tup {es : List Expr} {fa : AF} {x1} {pos : Pos} (ha : PA X es (tA (ct X) W fa)) : PE X (.Tuple es x1 pos) (tE (ct X) W (eTup fa)) :=
  PE.mono (pe_tup ha) fun σ H Q h => by
    obtain ⟨g, ρ, h0, rh, rs, p⟩ := tG.bind (R := RTs (ct X)) (f := fa) (k := fun (vs : List VV) ρ h1 => if vs.any VV.isObj = true ∨ vs.length > SZ then .no else .ok (VV.tup vs) h1) h
    refine ⟨g, ρ, h0, rh, rs, p.imp fun u H1 ⟨g1, ρ1, v, h1, rh1, rs1, rv1, p1⟩ => ?_⟩
    by_cases c : v.any VV.isObj = true ∨ v.length > SZ
    · rw [if_pos c] at p1; exact p1.elim
    · rw [if_neg c] at p1
      rw [not_or, Bool.not_eq_true] at c
      refine ⟨by rw [← rv1.len]; exact SZ_le (by omega), fun p hp => p1 (g1.frz p) (upd H1 p (.tup u)) (.ref p) (.new rh1 hp) (rh1.new hp) ?_⟩
      show RV _ _ _ _ _
      rw [RV]
      exact ⟨p, u, rfl, upd_same, (Stp.new rh1 hp).rvs (rv1.rvs c.1)⟩
theorem j_lst {es : List Expr} {fa : AF} {pos : Pos} (ha : PA X es (tA (ct X) W fa)) : PE X (.List es pos) (tE (ct X) W (eLst fa)) :=
  PE.mono (pe_lst ha) fun σ H Q h => by
    obtain ⟨g, ρ, h0, rh, rs, p⟩ := tG.bind (R := RTs (ct X)) (f := fa) (k := fun (vs : List VV) ρ h1 => if vs.any VV.isObj = true ∨ vs.length > SZ then .no else .ok (VV.lst vs) h1) h
    refine ⟨g, ρ, h0, rh, rs, p.imp fun u H1 ⟨g1, ρ1, v, h1, rh1, rs1, rv1, p1⟩ => ?_⟩
    by_cases c : v.any VV.isObj = true ∨ v.length > SZ
    · rw [if_pos c] at p1; exact p1.elim
    · rw [if_neg c] at p1
      rw [not_or, Bool.not_eq_true] at c
      refine ⟨by rw [← rv1.len]; exact SZ_le (by omega), fun p hp => p1 (g1.frz p) (upd H1 p (.lst u)) (.ref p) (.new rh1 hp) (rh1.new hp) ?_⟩
      show RV _ _ _ _ _
      rw [RV]
      exact ⟨p, u, rfl, .inr rfl, upd_same, (Stp.new rh1 hp).rvs (rv1.rvs c.1)⟩
/-- a new list of data that nobody holds becomes a root -/
theorem root_new {c : Ct} {g : Gh} {h : VH} {H : Hp} {p : Addr} {vs : List VV} {us : List V} (rh : RH c g h H) (hp : H p = none) (rv : RVs c g.fz H vs us) :
    Stp g H (g.add p) (upd H p (.lst us)) ∧ RH c (g.add p) (h ++ [.fl vs]) (upd H p (.lst us)) ∧ RT c (g.add p) (upd H p (.lst us)) (.obj h.length) (.ref p) := by
  have st : Stp g H g (upd H p (.lst us)) := .junk rh hp
  have rh1 : RH c g h (upd H p (.lst us)) := rh.junk hp
  have np : p ∉ g.io := fun z => by
    obtain ⟨o, e⟩ := rh.root z
    rw [hp] at e; cases e
  refine ⟨st.trans .add, rh1.add np (fun z => ?_) ⟨fun z => ?_, us, upd_same, st.rvs rv⟩, p, ?_, rfl⟩
  · obtain ⟨o, e⟩ := rh.kp p z
    rw [hp] at e; cases e
  · obtain ⟨o, e⟩ := rh.fz p z
    rw [hp] at e; cases e
  · show (g.io ++ [p])[h.length]? = some p
    rw [← rh.len, List.getElem?_append_right (Nat.le_refl _), Nat.sub_self]; rfl
theorem j_lstO {es : List Expr} {fa : AF} {pos : Pos} (ha : PA X es (tA (ct X) W fa)) : PE X (.List es pos) (tE (ct X) W (eLstO fa)) :=
  PE.mono (pe_lst ha) fun σ H Q h => by
    obtain ⟨g, ρ, h0, rh, rs, p⟩ := tG.bind (R := RTs (ct X)) (f := fa) (k := fun (vs : List VV) ρ h1 => if vs.any VV.isObj = true ∨ vs.length > SZ then .no else .ok (VV.obj h1.length) (h1 ++ [.fl vs])) h
    refine ⟨g, ρ, h0, rh, rs, p.imp fun u H1 ⟨g1, ρ1, v, h1, rh1, rs1, rv1, p1⟩ => ?_⟩
    by_cases c : v.any VV.isObj = true ∨ v.length > SZ
    · rw [if_pos c] at p1; exact p1.elim
    · rw [if_neg c] at p1
      rw [not_or, Bool.not_eq_true] at c
      refine ⟨by rw [← rv1.len]; exact SZ_le (by omega), fun p hp => ?_⟩
      obtain ⟨a, b, d⟩ := root_new rh1 hp (rv1.rvs c.1)
      exact p1 _ _ _ a b d
/-! tests -/
def tVal (a : EF) : TF := fun ρ h => (a ρ h).bind fun v h1 => match v with
  | .bl b => .ok b h1
  | _ => .no
def tAnd (a b : TF) : TF := fun ρ h => (a ρ h).bind fun v h1 => if v = true then b ρ h1 else .ok false h1
def tOr (a b : TF) : TF := fun ρ h => (a ρ h).bind fun v h1 => if v = true then .ok true h1 else b ρ h1
def tNot (a : TF) : TF := fun ρ h => (a ρ h).bind fun v h1 => .ok (!v) h1
theorem tVal_of {a : EF} {σ : St} {H : Hp} {Q : Bool → Hp → Prop} (h : tT (ct X) W (tVal a) σ H Q) : tE (ct X) W a σ H (fun x H1 => ∃ k, x = .bl k ∧ Q k H1) := by
  obtain ⟨g, ρ, h0, rh, rs, p⟩ := tG.bind (R := RT (ct X)) (f := a) (k := fun v ρ h1 => match v with
    | .bl b => .ok b h1
    | _ => .no) h
  refine ⟨g, ρ, h0, rh, rs, p.imp fun u H1 ⟨g1, ρ1, v, h1, rh1, rs1, rv1, p1⟩ => ?_⟩
  cases v with
  | bl b =>
    have e : u = .bl b := by have := rv1.rv rfl; rw [RV] at this; exact this
    exact ⟨b, e, p1 g1 H1 b .refl rh1 rfl⟩
  | _ => exact p1.elim
theorem jt_val {e : Expr} {fa : EF} (h : PE X e (tE (ct X) W fa)) (he : ∀ whole, isTrue e X.env whole = (do let v ← whole; standAt e.pos; holding [v] (truthy v)) := by intro _; rfl) : PT X e (tT (ct X) W (tVal fa)) :=
  PT.mono (pt_val h he) fun σ H Q q => tVal_of q
theorem jt_cmp {op : Op2} {o : CmpOp} {a b : Expr} {fa fb : EF} {pos : Pos} (ho : OpR X (compareOp o) (Rd2 (ct X) op)) (ha : PE X a (tE (ct X) W fa)) (hb : PE X b (tE (ct X) W fb)) (hm : behindInMarks o b = false) : PT X (.Compare a [o] [b] pos) (tT (ct X) W (tVal (eBin op fa fb))) :=
  PT.mono (pt_cmpR ho ha hb hm) fun σ H Q q => tOp_of (fun _ _ _ _ q => q) (tVal_of q)
theorem jw_and1 {a : Expr} {fa : TF} {pos : Pos} (ha : PT X a (tT (ct X) W fa)) : PW X (.BoolOp .And [a] pos) (tT (ct X) W fa) := pw_and1 ha
theorem jw_or1 {a : Expr} {fa : TF} {pos : Pos} (ha : PT X a (tT (ct X) W fa)) : PW X (.BoolOp .Or [a] pos) (tT (ct X) W fa) := pw_or1 ha
theorem jw_and {a b : Expr} {rest : List Expr} {fa fb : TF} {pos : Pos} (ha : PT X a (tT (ct X) W fa)) (hb : PW X (.BoolOp .And (b :: rest) pos) (tT (ct X) W fb)) : PW X (.BoolOp .And (a :: b :: rest) pos) (tT (ct X) W (tAnd fa fb)) :=
  PW.mono (pw_and ha hb) fun σ H Q h => by
    obtain ⟨g, ρ, h0, rh, rs, p⟩ := tG.bind (R := RB) (f := fa) (k := fun v ρ h1 => if v = true then fb ρ h1 else .ok false h1) h
    refine ⟨g, ρ, h0, rh, rs, p.imp fun u H1 ⟨g1, ρ1, v, h1, rh1, rs1, rv1, p1⟩ => ?_⟩
    cases rv1
    cases u with
    | true => rw [if_pos rfl] at p1 ⊢; exact ⟨g1, ρ1, h1, rh1, rs1, p1⟩
    | false => rw [if_neg Bool.false_ne_true] at p1 ⊢; exact p1 g1 H1 false .refl rh1 rfl
theorem jw_or {a b : Expr} {rest : List Expr} {fa fb : TF} {pos : Pos} (ha : PT X a (tT (ct X) W fa)) (hb : PW X (.BoolOp .Or (b :: rest) pos) (tT (ct X) W fb)) : PW X (.BoolOp .Or (a :: b :: rest) pos) (tT (ct X) W (tOr fa fb)) :=
  PW.mono (pw_or ha hb) fun σ H Q h => by
    obtain ⟨g, ρ, h0, rh, rs, p⟩ := tG.bind (R := RB) (f := fa) (k := fun v ρ h1 => if v = true then .ok true h1 else fb ρ h1) h
    refine ⟨g, ρ, h0, rh, rs, p.imp fun u H1 ⟨g1, ρ1, v, h1, rh1, rs1, rv1, p1⟩ => ?_⟩
    cases rv1
    cases u with
    | true => rw [if_pos rfl] at p1 ⊢; exact p1 g1 H1 true .refl rh1 rfl
    | false => rw [if_neg Bool.false_ne_true] at p1 ⊢; exact ⟨g1, ρ1, h1, rh1, rs1, p1⟩
theorem jt_not {a : Expr} {fa : TF} {pos : Pos} (ha : PT X a (tT (ct X) W fa)) : PT X (.UnaryOp .Not a pos) (tT (ct X) W (tNot fa)) :=
  PT.mono (pt_not ha) fun σ H Q h => by
    obtain ⟨g, ρ, h0, rh, rs, p⟩ := tG.bind (R := RB) (f := fa) (k := fun v ρ h1 => .ok (!v) h1) h
    refine ⟨g, ρ, h0, rh, rs, p.imp fun u H1 ⟨g1, ρ1, v, h1, rh1, rs1, rv1, p1⟩ => ?_⟩
    cases rv1
    exact p1 g1 H1 _ .refl rh1 rfl
def eIf (c : TF) (a b : EF) : EF := fun ρ h => (c ρ h).bind fun v h1 => if v = true then a ρ h1 else b ρ h1
theorem j_if {c a b : Expr} {fc : TF} {fa fb : EF} {pos : Pos} (hc : PT X c (tT (ct X) W fc)) (ha : PE X a (tE (ct X) W fa)) (hb : PE X b (tE (ct X) W fb)) : PE X (.IfExp c a b pos) (tE (ct X) W (eIf fc fa fb)) :=
  PE.mono (pe_ifExp hc ha hb) fun σ H Q h => by
    obtain ⟨g, ρ, h0, rh, rs, p⟩ := tG.bind (R := RB) (f := fc) (k := fun v ρ h1 => if v = true then fa ρ h1 else fb ρ h1) h
    refine ⟨g, ρ, h0, rh, rs, p.imp fun u H1 ⟨g1, ρ1, v, h1, rh1, rs1, rv1, p1⟩ => ?_⟩
    cases rv1
    cases u with
    | true => rw [if_pos rfl] at p1 ⊢; exact ⟨g1, ρ1, h1, rh1, rs1, p1⟩
    | false => rw [if_neg Bool.false_ne_true] at p1 ⊢; exact ⟨g1, ρ1, h1, rh1, rs1, p1⟩
/-- and, or, not of truth values -/
def eAnd (a b : EF) : EF := fun ρ h => (a ρ h).bind fun v h1 => match v with
  | .bl true => b ρ h1
  | .bl false => .ok (.bl false) h1
  | _ => .no
def eOr (a b : EF) : EF := fun ρ h => (a ρ h).bind fun v h1 => match v with
  | .bl true => .ok (.bl true) h1
  | .bl false => b ρ h1
  | _ => .no
def eNot (a : EF) : EF := fun ρ h => (a ρ h).bind fun v h1 => match v with
  | .bl b => .ok (.bl (!b)) h1
  | _ => .no
theorem j_one {op} {a : Expr} {f : EF} {pos : Pos} (h : PE X a (tE (ct X) W f)) : PE X (.BoolOp op [a] pos) (tE (ct X) W f) := pe_one h
theorem j_and {a b : Expr} {rest : List Expr} {fa fb : EF} {pos : Pos} (ha : PE X a (tE (ct X) W fa)) (hb : PE X (.BoolOp .And (b :: rest) pos) (tE (ct X) W fb)) : PE X (.BoolOp .And (a :: b :: rest) pos) (tE (ct X) W (eAnd fa fb)) :=
  PE.mono (pe_and ha hb) fun σ H Q h => by
    obtain ⟨g, ρ, h0, rh, rs, p⟩ := tG.bind (R := RT (ct X)) (f := fa) (k := fun v ρ h1 => match v with
      | .bl true => fb ρ h1
      | .bl false => .ok (.bl false) h1
      | _ => .no) h
    refine ⟨g, ρ, h0, rh, rs, p.imp fun u H1 ⟨g1, ρ1, v, h1, rh1, rs1, rv1, p1⟩ => ?_⟩
    cases v with
    | bl b =>
      have e : u = .bl b := by have := rv1.rv rfl; rw [RV] at this; exact this
      refine ⟨b, e, ?_⟩
      cases b with
      | true => rw [if_pos rfl]; exact ⟨g1, ρ1, h1, rh1, rs1, p1⟩
      | false => rw [if_neg Bool.false_ne_true]; exact p1 g1 H1 _ .refl rh1 rt_bl
    | _ => exact p1.elim
/-- a op b op' c -/
def eChain (o o' : Op2) (a b c : EF) : EF := fun ρ h => (a ρ h).bind fun v h1 => (b ρ h1).bind fun w h2 => (lift (o h2 v w) h2).bind fun k h3 => match k with
  | .bl true => (c ρ h3).bind fun z h4 => lift (o' h4 w z) h4
  | .bl false => .ok (.bl false) h3
  | _ => .no
theorem tChain_of {o o' : Op2} {a b c : EF} {σ : St} {H : Hp} {Q : VK} (h : tE (ct X) W (eChain o o' a b c) σ H Q) :
    tChain (Rd2 (ct X) o) (Rd2 (ct X) o') (tE (ct X) W a) (tE (ct X) W b) (tE (ct X) W c) σ H Q := by
  obtain ⟨g, ρ, h0, rh, rs, p⟩ := tG.bind (R := RT (ct X)) (f := a) (k := fun v ρ h1 => (b ρ h1).bind fun w h2 => (lift (o h2 v w) h2).bind fun k h3 => match k with
    | .bl true => (c ρ h3).bind fun z h4 => lift (o' h4 w z) h4
    | .bl false => .ok (.bl false) h3
    | _ => .no) h
  refine ⟨g, ρ, h0, rh, rs, p.imp fun u H1 ⟨g1, ρ1, v, h1, rh1, rs1, rv1, p1⟩ => ?_⟩
  refine ⟨g1, ρ1, h1, rh1, rs1, (Pst.bind (R := RT (ct X)) p1).imp fun u2 H2 ⟨g2, w, h2, st, rh2, rv2, p2⟩ => ?_⟩
  unfold lift at p2
  cases e : o h2 v w with
  | none => rw [e] at p2; exact p2.elim
  | some k =>
    rw [e] at p2
    refine ⟨g2, h2, v, w, k, rh2, rv1.stp st, rv2, e, fun g3 H3 u3 st3 rh3 rv3 => ?_⟩
    cases k with
    | bl bb =>
      have e3 : u3 = .bl bb := by have := rv3.rv rfl; rw [RV] at this; exact this
      refine ⟨bb, e3, ?_⟩
      cases bb with
      | true =>
        rw [if_pos rfl]
        have p3 : Pst (ct X) W σ (RT (ct X)) g2 H2 Q ((c ρ1 h2).bind fun z h4 => lift (o' h4 w z) h4) := p2
        refine ⟨g3, ρ1, h2, rh3, (rs1.stp st).stp st3, (Pst.bind (R := RT (ct X)) (Pst.step st3 p3)).imp fun u4 H4 ⟨g4, z, h4, st4, rh4, rv4, p4⟩ => ?_⟩
        cases e4 : o' h4 w z with
        | none => rw [e4] at p4; exact p4.elim
        | some r =>
          rw [e4] at p4
          exact ⟨g4, h4, w, z, r, rh4, (rv2.stp st3).stp st4, rv4, e4, p4⟩
      | false => rw [if_neg Bool.false_ne_true]; exact p2 g3 H3 _ st3 rh3 rt_bl
    | _ => exact p2.elim
theorem j_chain {o o' : Op2} {op op' : CmpOp} {a b c : Expr} {fa fb fc : EF} {pos : Pos} (ho : OpR X (compareOp op) (Rd2 (ct X) o)) (ho' : OpR X (compareOp op') (Rd2 (ct X) o')) (ha : PE X a (tE (ct X) W fa)) (hb : PE X b (tE (ct X) W fb)) (hc : PE X c (tE (ct X) W fc))
    (hm : lastMarks [op, op'] [b, c] = false := by with_unfolding_all rfl) : PE X (.Compare a [op, op'] [b, c] pos) (tE (ct X) W (eChain o o' fa fb fc)) :=
  PE.mono (pe_chain ho ho' ha hb hc hm) fun σ H Q h => tChain_of h
end
end J
namespace J
open PySem L2
open PyProof.Rows (envOfC)
/-! what is walked -/
/-- what is frozen stands -/
structure Fst (g : Gh) (H : Hp) (g' : Gh) (H' : Hp) : Prop where
  fz : ∀ p, g.fz p → g'.fz p
  fH : ∀ p, g.fz p → Ke (H p) (H' p)
  tp : ∀ p us, H p = some (.tup us) → H' p = some (.tup us)
theorem Stp.f {g g' : Gh} {H H' : Hp} (s : Stp g H g' H') : Fst g H g' H' := ⟨s.fz, s.fH, s.tp⟩
theorem Fst.rv {c : Ct} {g g' : Gh} {H H' : Hp} (s : Fst g H g' H') {v : VV} {u : V} (h : RV c g.fz H v u) : RV c g'.fz H' v u := RV.stp s.fz s.fH s.tp _ _ h
theorem Fst.trans {g g1 g2 : Gh} {H H1 H2 : Hp} (a : Fst g H g1 H1) (b : Fst g1 H1 g2 H2) : Fst g H g2 H2 := ⟨fun p h => b.fz p (a.fz p h), fun p h => (a.fH p h).trans (b.fH p (a.fz p h)), fun p us h => b.tp p us (a.tp p us h)⟩
structure Deliv (c : Ct) (g0 : Gh) (H0 : Hp) (items : List VV) (J : It) : Prop where
  go : ∀ g H, Fst g0 H0 g H → ∀ (i : Nat), i < items.length → J.go i H
  stop : ∀ g H, Fst g0 H0 g H → ∀ (i : Nat), items.length ≤ i → J.stop i H
  yld : ∀ g H, Fst g0 H0 g H → ∀ (i : Nat) (x : VV) (h : VH), items[i]? = some x → RH c g h H → ∀ u H', J.yld i H u H' → ∃ g', Stp g H g' H' ∧ RH c g' h H' ∧ RT c g' H' x u
abbrev tI (c : Ct) (W : WX) (f : AF) : TI := tG c W (fun g H xs J => Deliv c g H xs J) f
theorem PI.or {X : Cx} {tg e : Expr} {t t' : TI} (a : PI X tg e t) (b : PI X tg e t') : PI X tg e (fun σ H R => t σ H R ∨ t' σ H R) := ⟨fun pins s σ H R I q => q.elim (a.run pins s σ H R I) (b.run pins s σ H R I)⟩
/-! targets -/
structure PatOk (K : PySem.W.Frag) (t : TG) (b : VV → VSt → Option VSt) (own : List Nat) : Prop where
  run : ∀ (c : Ct) (g : Gh) (h : VH) (H : Hp) (ρ : VSt) (σ : St) (v : VV) (u : V) (ρ' : VSt), c.K = K → RH c g h H → RS c g H ρ σ → RT c g H v u → b v ρ = some ρ' →
    ∀ Q : St → Hp → Prop, (∀ σ', RS c g H ρ' σ' → (∀ i, i ∉ own → σ'[i]? = σ[i]?) → σ'.length = σ.length → Q σ' H) → t u σ H Q
structure PatsOk (K : PySem.W.Frag) (t : TGs) (b : List VV → VSt → Option VSt) (own : List Nat) : Prop where
  run : ∀ (c : Ct) (g : Gh) (h : VH) (H : Hp) (ρ : VSt) (σ : St) (v : List VV) (u : List V) (ρ' : VSt), c.K = K → RH c g h H → RS c g H ρ σ → RTs c g H v u → b v ρ = some ρ' →
    ∀ Q : St → Hp → Prop, (∀ σ', RS c g H ρ' σ' → (∀ i, i ∉ own → σ'[i]? = σ[i]?) → σ'.length = σ.length → Q σ' H) → t u σ H Q
def bNm (i : Nat) : VV → VSt → Option VSt := fun v ρ => some (ρ.set i (some v))
def bNil : List VV → VSt → Option VSt := fun vs ρ => match vs with
  | [] => some ρ
  | _ => none
def bCons (a : VV → VSt → Option VSt) (r : List VV → VSt → Option VSt) : List VV → VSt → Option VSt := fun vs ρ => match vs with
  | v :: vs => (a v ρ).bind fun ρ' => r vs ρ'
  | [] => none
def bTup (n : Nat) (r : List VV → VSt → Option VSt) : VV → VSt → Option VSt := fun v ρ => match v with
  | .tup xs => if xs.length = n then r xs ρ else none
  | _ => none
theorem RS.set {c : Ct} {g : Gh} {H : Hp} {ρ : VSt} {σ : St} {v : VV} {u : V} (rs : RS c g H ρ σ) (rv : RT c g H v u) (i : Nat) : RS c g H (ρ.set i (some v)) (σ.set i (some u)) := by
  refine ⟨by rw [List.length_set, List.length_set]; exact rs.len, fun j w e => ?_⟩
  by_cases ij : i = j
  · subst ij
    have hl : i < ρ.length := by have := (List.getElem?_eq_some_iff.mp e).1; simpa using this
    rw [List.getElem?_set_self hl] at e
    cases e
    exact ⟨u, List.getElem?_set_self (by rw [← rs.len]; exact hl), rv⟩
  · rw [List.getElem?_set_ne ij] at e
    rw [List.getElem?_set_ne ij]
    exact rs.get j w e
theorem pat_nm {K : PySem.W.Frag} (i : Nat) : PatOk K (gName i) (bNm i) [i] := ⟨fun c g h H ρ σ v u ρ' ek rh rs rv e Q k => by
  cases e
  refine k _ (rs.set rv i) (fun j hj => ?_) (by rw [List.length_set])
  exact List.getElem?_set_ne (fun z => hj (by rw [z]; exact List.mem_cons_self))⟩
theorem pats_nil {K : PySem.W.Frag} : PatsOk K gNil bNil [] := ⟨fun c g h H ρ σ v u ρ' ek rh rs rv e Q k => by
  cases v with
  | nil => cases e; exact ⟨rv, k _ rs (fun _ _ => rfl) rfl⟩
  | cons => cases e⟩
theorem pats_cons {K : PySem.W.Frag} {t : TG} {u : TGs} {a r l1 l2} (h1 : PatOk K t a l1) (h2 : PatsOk K u r l2) : PatsOk K (gCons t u) (bCons a r) (l1 ++ l2) := ⟨fun c g h H ρ σ v u ρ' ek rh rs rv e Q k => by
  cases v with
  | nil => cases e
  | cons x xs =>
    obtain ⟨y, ys, rfl, ra, rb⟩ := rv
    unfold bCons at e
    obtain ⟨ρ1, e1, e2⟩ := Option.bind_eq_some_iff.mp e
    refine ⟨y, ys, rfl, h1.run c g h H ρ σ x y ρ1 ek rh rs ra e1 _ fun σ1 rs1 o1 len1 => ?_⟩
    refine h2.run c g h H ρ1 σ1 xs ys ρ' ek rh rs1 rb e2 _ fun σ2 rs2 o2 len2 => ?_
    exact k σ2 rs2 (fun i hi => (o2 i (fun z => hi (List.mem_append_right _ z))).trans (o1 i (fun z => hi (List.mem_append_left _ z)))) (len2.trans len1)⟩
theorem pat_tup {K : PySem.W.Frag} {n : Nat} {u : TGs} {r l} (h : PatsOk K u r l) : PatOk K (gTup K n u) (bTup n r) l := ⟨fun c g hh H ρ σ v uu ρ' ek rh rs rv e Q k => by
  cases v with
  | tup xs =>
    unfold bTup at e
    have rv' := rv.rv rfl
    rw [RV] at rv'
    obtain ⟨p, us, eu, sq, rr⟩ := rv'
    simp only at e
    by_cases hn : xs.length = n
    · rw [if_pos hn] at e
      have sq' := sq.sq
      rw [ek] at sq'
      exact ⟨p, us, eu, sq', by rw [← rr.len]; exact hn, h.run c g hh H ρ σ xs us ρ' ek rh rs (RTs.of_rvs rr) e Q k⟩
    · rw [if_neg hn] at e; cases e
  | _ => cases e⟩
/-! comprehensions -/
def wp (ρ : VSt) : List Nat → VSt
  | [] => ρ
  | v :: vs => (wp ρ vs).set v none
theorem wp_length (ρ : VSt) : ∀ vs : List Nat, (wp ρ vs).length = ρ.length
  | [] => rfl
  | v :: vs => by unfold wp; rw [List.length_set, wp_length ρ vs]
theorem wp_some {ρ : VSt} {i : Nat} {x : VV} : ∀ {vs : List Nat}, (wp ρ vs)[i]? = some (some x) → ρ[i]? = some (some x) ∧ i ∉ vs
  | [], h => ⟨h, by simp⟩
  | v :: vs, h => by
    unfold wp at h
    by_cases hi : v = i
    · subst hi
      by_cases hv : v < (wp ρ vs).length
      · rw [List.getElem?_set_self hv] at h; cases h
      · rw [List.getElem?_eq_none (by simpa using hv)] at h; cases h
    · rw [List.getElem?_set_ne hi] at h
      obtain ⟨h1, h2⟩ := wp_some h
      exact ⟨h1, by simp only [List.mem_cons, not_or]; exact ⟨fun e => hi e.symm, h2⟩⟩
theorem RS.wipe {c : Ct} {g : Gh} {H : Hp} {ρ : VSt} {σ : St} (rs : RS c g H ρ σ) (vs : List Nat) : RS c g H (wp ρ vs) (wipe σ vs) := by
  refine ⟨by rw [wp_length, wipe_length]; exact rs.len, fun i v e => ?_⟩
  obtain ⟨a, b⟩ := wp_some e
  rw [wipe_out b]
  exact rs.get i v a
theorem wipe_at (σ : St) : ∀ (vs : List Nat) (i : Nat), i ∈ vs → (wipe σ vs)[i]? = if i < σ.length then some none else none
  | [], i, h => by simp at h
  | v :: vs, i, h => by
    unfold wipe
    by_cases e : v = i
    · subst e
      by_cases hl : v < σ.length
      · rw [List.getElem?_set_self (by rw [wipe_length]; exact hl), if_pos hl]
      · rw [List.getElem?_eq_none (by rw [List.length_set, wipe_length]; omega), if_neg hl]
    · rw [List.getElem?_set_ne e]
      exact wipe_at σ vs i (by rcases List.mem_cons.mp h with h | h; exact absurd h.symm e; exact h)
theorem wipe_same {σ σ2 : St} {vs : List Nat} (hl : σ2.length = σ.length) (h : ∀ i, i ∉ vs → σ2[i]? = σ[i]?) : wipe σ2 vs = wipe σ vs := by
  apply List.ext_getElem?
  intro i
  by_cases hi : i ∈ vs
  · rw [wipe_at σ2 vs i hi, wipe_at σ vs i hi, hl]
  · rw [wipe_out hi, wipe_out hi, h i hi]
def lcGo (b : VV → VSt → Option VSt) (t : TF) (e : EF) (ρ : VSt) : List VV → VH → Res (List VV)
  | [], h => .ok [] h
  | x :: xs, h => match b x ρ with
    | none => .no
    | some ρ' => (t ρ' h).bind fun k h1 => if k = true then (e ρ' h1).bind fun v h2 => if v.isObj = true then .no else (lcGo b t e ρ xs h2).bind fun vs h3 => .ok (v :: vs) h3 else lcGo b t e ρ xs h1
/-- [e for .. in .. if ..] as data -/
def eLc (own : List Nat) (it : AF) (b : VV → VSt → Option VSt) (t : TF) (e : EF) : EF := fun ρ h => (it ρ h).bind fun xs h1 => if xs.length > SZ then .no else match lcGo b t e (wp ρ own) xs h1 with
  | .ok vs h2 => .ok (.lst vs) h2
  | _ => .no
def tTrue : TF := fun _ h => .ok true h
theorem Stp.back {g g' : Gh} {H H' : Hp} {D : Addr} (s : Stp (g.keep D) H g' H') : Stp g H (g'.back g.kp) H' := ⟨s.io, s.fz, fun _ h => h, s.fH, fun p h => s.kH p (.inl h), s.tp⟩
theorem RVs.gback {c : Ct} {g : Gh} {H : Hp} {k : Addr → Prop} {vs : List VV} {us : List V} (h : RVs c g.fz H vs us) : RVs c (g.back k).fz H vs us := h
/-- the loop of a comprehension, whatever is made of the new list -/
theorem lc_run {c : Ct} {W0 : WX} {Wx : WX} {own : List Nat} {b : VV → VSt → Option VSt} {ft : TF} {fe : EF} {tg : TG} {J : It} {xs : List VV} {ρ : VSt} {σ : St} {g : Gh} {h : VH} {H1 : Hp} {D : Addr} {Q : VK} {K : PySem.W.Frag}
    (hW : ∀ a d s h, W0 a d s h → False) (ek : c.K = K) (pat : PatOk K tg b own) (dl : Deliv c g H1 xs J) (hsz : xs.length ≤ SZ) (rh : RH c g h H1) (rs : RS c g H1 ρ σ) (hD : H1 D = none)
    (fin : match lcGo b ft fe (wp ρ own) xs h with
      | .ok vs h' => ∀ g' H' us, Stp g H1 g' H' → RH c g' h' H' → H' D = some (.lst us) → ¬ g'.fz D → D ∉ g'.io → ¬ g'.kp D → RVs c g'.fz H' vs us → Q (.ref D) H'
      | _ => False) :
    ∃ Wv : Nat → Nat → Hp → Prop, (∃ m, Wv 0 m (upd H1 D (.lst []))) ∧ ∀ i m H, Wv i m H →
      (J.stop i H ∧ Q (.ref D) H) ∨ (J.go i H ∧ ∃ Nx : Hp → Prop, (∀ H', Nx H' → ∃ m', m' < m ∧ Wv (i + 1) m' H') ∧ ∀ x H', J.yld i H x H' → tg x (wipe σ own) H' fun σ2 H2 => wipe σ2 own = wipe σ own ∧ tT c W0 ft σ2 H2 fun bb H3 =>
        if bb = true then tE c W0 fe σ2 H3 fun y H4 => ∃ acc, H4 D = some (.lst acc) ∧ acc.length < sizeLine ∧ Nx (upd H4 D (.lst (acc ++ [y]))) else Nx H3) := by
  -- the invariant
  let P : Nat → Hp → Prop := fun i H => ∃ (gi : Gh) (hi : VH) (acc : List VV) (us : List V), acc.length ≤ i ∧ Stp g H1 gi H ∧ RH c gi hi H ∧ H D = some (.lst us) ∧ ¬ gi.fz D ∧ D ∉ gi.io ∧ ¬ gi.kp D ∧ RVs c gi.fz H acc us ∧
    (match lcGo b ft fe (wp ρ own) (xs.drop i) hi with
      | .ok vs h' => ∀ g' H' us, Stp gi H g' H' → RH c g' h' H' → H' D = some (.lst us) → ¬ g'.fz D → D ∉ g'.io → ¬ g'.kp D → RVs c g'.fz H' (acc ++ vs) us → Q (.ref D) H'
      | _ => False)
  refine ⟨fun i m H => m = xs.length - i ∧ i ≤ xs.length ∧ P i H, ⟨xs.length, by simp, Nat.zero_le _, ?_⟩, ?_⟩
  · refine ⟨g, h, [], [], Nat.le_refl _, .junk rh hD, rh.junk hD, upd_same, fun z => ?_, fun z => ?_, fun z => ?_, RVs.nil, ?_⟩
    · obtain ⟨o, e⟩ := rh.fz D z; rw [hD] at e; cases e
    · obtain ⟨o, e⟩ := rh.root z; rw [hD] at e; cases e
    · obtain ⟨o, e⟩ := rh.kp D z; rw [hD] at e; cases e
    · rw [List.drop_zero]
      generalize lcGo b ft fe (wp ρ own) xs h = r at fin ⊢
      cases r with
      | ok vs h' =>
        intro g' H' us st
        rw [List.nil_append]
        exact fin g' H' us ((Stp.junk rh hD).trans st)
      | no => exact fin
      | exc _ _ _ _ => exact fin
  · rintro i m H ⟨rfl, hi, gi, hh, acc, us, hacc, st, rhi, hDl, nf, ni, nk, rvs, fin⟩
    by_cases hlt : i < xs.length
    · refine .inr ⟨dl.go gi H st.f i hlt, P (i + 1), fun H' p' => ⟨xs.length - (i + 1), by omega, rfl, hlt, p'⟩, fun x H' y => ?_⟩
      have ed : xs.drop i = xs[i] :: xs.drop (i + 1) := List.drop_eq_getElem_cons hlt
      have rhk : RH c (gi.keep D) hh H := rhi.keep hDl nf ni
      have stk : Stp g H1 (gi.keep D) H := st.trans .keep
      obtain ⟨g1, st1, rh1, rt1⟩ := dl.yld (gi.keep D) H stk.f i xs[i] hh (List.getElem?_eq_getElem hlt) rhk x H' y
      rw [ed] at fin
      unfold lcGo at fin
      cases e : b xs[i] (wp ρ own) with
      | none => rw [e] at fin; exact fin.elim
      | some ρ' =>
        rw [e] at fin
        simp only at fin
        have rs1 : RS c g1 H' (wp ρ own) (wipe σ own) := ((rs.wipe own).stp stk).stp st1
        refine pat.run c g1 hh H' _ _ _ _ ρ' ek rh1 rs1 rt1 e _ fun σ2 rs2 o2 l2 => ⟨?_, ?_⟩
        · refine wipe_same (l2.trans (wipe_length _ _)) fun j hj => (o2 j hj).trans (wipe_out hj)
        · refine ⟨g1, ρ', hh, rh1, rs2, ?_⟩
          cases et : ft ρ' hh with
          | no => rw [et] at fin; exact fin.elim
          | exc _ _ _ _ => rw [et] at fin; exact fin.elim
          | ok k h1 =>
            rw [et] at fin
            intro g2 H2 bb st2 rh2 eb
            cases (show bb = k from eb)
            -- D is kept
            have hD2 : H2 D = some (.lst us) := by rw [st2.kH D (st1.kp D (.inr rfl)), st1.kH D (.inr rfl)]; exact hDl
            have kD2 : g2.kp D := st2.kp D (st1.kp D (.inr rfl))
            have s12 : Stp (gi.keep D) H g2 H2 := st1.trans st2
            cases k with
            | false =>
              rw [if_neg Bool.false_ne_true]
              have fin' : match lcGo b ft fe (wp ρ own) (xs.drop (i + 1)) h1 with
                | .ok vs h' => ∀ g' H' us, Stp gi H g' H' → RH c g' h' H' → H' D = some (.lst us) → ¬ g'.fz D → D ∉ g'.io → ¬ g'.kp D → RVs c g'.fz H' (acc ++ vs) us → Q (.ref D) H'
                | _ => False := by
                simp only [Res.bind, if_neg Bool.false_ne_true] at fin; exact fin
              refine ⟨g2.back gi.kp, h1, acc, us, Nat.le_succ_of_le hacc, st.trans s12.back, rh2.back (fun p z => s12.kp p (.inl z)), hD2, (rh2.kd D kD2).1, (rh2.kd D kD2).2, nk, RVs.gback (s12.rvs (show RVs c (gi.keep D).fz H acc us from rvs)), ?_⟩
              generalize lcGo b ft fe (wp ρ own) (xs.drop (i + 1)) h1 = r at fin' ⊢
              cases r with
              | ok vs h' => exact fun g' H' us' st' => fin' g' H' us' (s12.back.trans st')
              | no => exact fin'
              | exc _ _ _ _ => exact fin'
            | true =>
              rw [if_pos rfl]
              refine ⟨g2, ρ', h1, rh2, rs2.stp st2, ?_⟩
              simp only [Res.bind, if_pos rfl] at fin
              cases ee : fe ρ' h1 with
              | no => rw [ee] at fin; exact fin.elim
              | exc _ _ _ _ => rw [ee] at fin; exact fin.elim
              | ok v h2 =>
                rw [ee] at fin
                simp only at fin
                intro g3 H3 yv st3 rh3 rv3
                have s13 : Stp (gi.keep D) H g3 H3 := s12.trans st3
                have kD3 : g3.kp D := st3.kp D kD2
                have hD3 : H3 D = some (.lst us) := by rw [st3.kH D kD2]; exact hD2
                have rvs3 : RVs c g3.fz H3 acc us := s13.rvs (show RVs c (gi.keep D).fz H acc us from rvs)
                have nf3 := (rh3.kd D kD3).1
                have ni3 := (rh3.kd D kD3).2
                refine ⟨us, hD3, by rw [← rvs.len]; exact SZ_lt (by omega), ?_⟩
                cases ov : v.isObj with
                | true => rw [ov] at fin; simp at fin
                | false =>
                  simp only [ov, if_neg Bool.false_ne_true] at fin
                  -- write D
                  have sw : Stp (g3.back gi.kp) H3 (g3.back gi.kp) (upd H3 D (.lst (us ++ [yv]))) := Stp.wr (c := c) (g := g3.back gi.kp) nf3 nk (fun ys z => by rw [hD3] at z; cases z)
                  have rhb : RH c (g3.back gi.kp) h2 H3 := rh3.back (fun p z => s13.kp p (.inl z))
                  have rhw : RH c (g3.back gi.kp) h2 (upd H3 D (.lst (us ++ [yv]))) := by
                    refine ⟨rhb.len, rhb.nd, fun n o a q1 q2 => ?_, fun q z => ?_, fun q z => ?_, rhb.kd, rhb.tb.upd (by rw [hD3]; exact noTab_of (fun _ z => by cases z) (fun _ z => by cases z)), fun q z ps y => rhb.nt q z ps (by rw [upd_ne (show q ≠ D from fun e => z.elim (fun z => nf3 (e ▸ z)) (fun z => nk (e ▸ z)))] at y; exact y)⟩
                    · have na : a ≠ D := fun z => ni3 (z ▸ List.mem_of_getElem? q2)
                      exact RO.stp sw (fun h => h) (upd_ne na) (rhb.at' n o a q1 q2)
                    · rw [upd_ne (show q ≠ D from fun e => nf3 (e ▸ z))]; exact rhb.fz q z
                    · rw [upd_ne (show q ≠ D from fun e => nk (e ▸ z))]; exact rhb.kp q z
                  refine ⟨g3.back gi.kp, h2, acc ++ [v], us ++ [yv], by rw [List.length_append]; simp; omega, (st.trans s13.back).trans sw, rhw, upd_same, nf3, ni3, nk, ?_, ?_⟩
                  · exact sw.rvs (RVs.app (RVs.gback rvs3) (RVs.one (rv3.rv ov)))
                  · generalize lcGo b ft fe (wp ρ own) (xs.drop (i + 1)) h2 = r at fin ⊢
                    cases r with
                    | ok vs h' =>
                      intro g' H' us' st' rh' d1 d2 d3 d4 rv'
                      rw [List.append_assoc] at rv'
                      exact fin g' H' us' ((s13.back.trans sw).trans st') rh' d1 d2 d3 d4 rv'
                    | no => exact fin
                    | exc _ _ _ _ => exact fin
    · have e : i = xs.length := by omega
      subst e
      refine .inl ⟨dl.stop gi H st.f _ (Nat.le_refl _), ?_⟩
      rw [List.drop_length] at fin
      unfold lcGo at fin
      refine fin gi H us .refl rhi hDl nf ni nk ?_
      rw [List.append_nil]; exact rvs
section
variable {X : Cx} {W : WX}
abbrev W0 : WX := fun _ _ _ _ => False
theorem jts_nil : PTs X [] (tT (ct X) W tTrue) := ⟨fun pins s σ H Q I h => by
  obtain ⟨g, ρ, h0, rh, rs, p⟩ := h
  exact pts_nil.run pins s σ H Q I (show tYes σ H Q from p g H true .refl rh rfl)⟩
theorem tLc_of {own : List Nat} {it : AF} {b : VV → VSt → Option VSt} {ft : TF} {fe : EF} {tg : TG} {mk : List VV → VH → Res VV} (pat : PatOk X.K tg b own)
    (hmk : ∀ (g : Gh) (h : VH) (H : Hp) (D : Addr) (vs : List VV) (us : List V) (σ : St) (Q : VK), RH (ct X) g h H → H D = some (.lst us) → ¬ g.fz D → D ∉ g.io → ¬ g.kp D → RVs (ct X) g.fz H vs us → Pst (ct X) W σ (RT (ct X)) g H Q (mk vs h) → Q (.ref D) H)
    {σ : St} {H : Hp} {Q : VK} (h : tE (ct X) W (fun ρ h => (it ρ h).bind fun xs h1 => if xs.length > SZ then .no else (match lcGo b ft fe (wp ρ own) xs h1 with
      | .ok vs h2 => mk vs h2
      | _ => .no)) σ H Q) :
    tLc (tI (ct X) W it) tg (tT (ct X) W0 ft) (tE (ct X) W0 fe) own σ H Q := by
  obtain ⟨g, ρ, h0, rh, rs, p⟩ := tG.bind (R := fun g H xs J => Deliv (ct X) g H xs J) (f := it) (k := fun (xs : List VV) ρ h1 => if xs.length > SZ then .no else (match lcGo b ft fe (wp ρ own) xs h1 with
      | .ok vs h2 => mk vs h2
      | _ => .no)) h
  refine ⟨g, ρ, h0, rh, rs, p.imp fun J H1 ⟨g1, ρ1, xs, h1, rh1, rs1, dl, p1⟩ D hD => ?_⟩
  by_cases hz : xs.length > SZ
  · rw [if_pos hz] at p1; exact p1.elim
  · rw [if_neg hz] at p1
    refine lc_run (Wx := W) (fun _ _ _ _ z => z) rfl pat dl (by omega) rh1 rs1 hD ?_
    generalize lcGo b ft fe (wp ρ1 own) xs h1 = r at p1 ⊢
    cases r with
    | ok vs h' => exact fun g' H' us st rh' d1 d2 d3 d4 rv' => hmk g' h' H' D vs us σ Q rh' d1 d2 d3 d4 rv' (Pst.step st p1)
    | no => exact p1
    | exc _ _ _ _ => exact p1
theorem mk_lst (g : Gh) (h : VH) (H : Hp) (D : Addr) (vs : List VV) (us : List V) (σ : St) (Q : VK) (rh : RH (ct X) g h H) (e : H D = some (.lst us)) (nf : ¬ g.fz D) (ni : D ∉ g.io) (nk : ¬ g.kp D) (rv : RVs (ct X) g.fz H vs us)
    (p : Pst (ct X) W σ (RT (ct X)) g H Q (.ok (.lst vs) h)) : Q (.ref D) H := by
  have st : Stp g H (g.frz D) H := .kill
  refine p (g.frz D) H (.ref D) st ⟨rh.len, rh.nd, fun n o a h1 h2 => ?_, fun q z => ?_, rh.kp, fun q z => ⟨fun y => y.elim (rh.kd q z).1 (fun e => nk (e ▸ z)), (rh.kd q z).2⟩, rh.tb, fun q z ps y => z.elim (fun z => z.elim (fun z => rh.nt q (.inl z) ps y) (fun z => by rw [z, e] at y; cases y)) (fun z => rh.nt q (.inr z) ps y)⟩ ?_
  · exact RO.stp st (fun x z => z.elim x (fun e => ni (e ▸ List.mem_of_getElem? h2))) rfl (rh.at' n o a h1 h2)
  · rcases z with z | z
    · exact rh.fz q z
    · rw [z]; exact ⟨_, e⟩
  · show RV _ _ _ _ _
    rw [RV]
    exact ⟨D, us, rfl, .inr rfl, e, st.rvs rv⟩
theorem j_lc {elt tg iter : Expr} {ifs : List Expr} {scope : Scope} {own : List (Str × Nat)} {pos : Pos} {it : AF} {g : TG} {b : VV → VSt → Option VSt} {ft : TF} {fe : EF} (hc : X.calm = true) (hN : X.N.Nodup) (hi : PI X tg iter (tI (ct X) W it)) (ok : BlkOk X.N X.env.scope scope own)
    (hg : ∀ (s : Shared) (H : Hp) (C : Addr) (cl : List (Str × Addr)) (fp : List Addr), PG (X.blk s H scope (compEnvC scope cl C X.env) fp) tg g) (pat : PatOk X.K g b (own.map (·.2)))
    (ht : ∀ (s : Shared) (H : Hp) (C : Addr) (cl : List (Str × Addr)) (fp : List Addr), PTs (X.blk s H scope (compEnvC scope cl C X.env) fp) ifs (tT (ct X) W0 ft))
    (he : ∀ (s : Shared) (H : Hp) (C : Addr) (cl : List (Str × Addr)) (fp : List Addr), PE (X.blk s H scope (compEnvC scope cl C X.env) fp) elt (tE (ct X) W0 fe)) (hs : ∀ x, foldedSetIterable iter X.env x = pure x := by intro _; rfl) :
    PE X (.ListComp elt [⟨tg, iter, ifs, 0⟩] scope pos) (tE (ct X) W (eLc (own.map (·.2)) it b ft fe)) :=
  PE.mono (pe_lc hc hN hi ok hg ht he hs) fun σ H Q h => by
    exact tLc_of (mk := fun vs h => .ok (.lst vs) h) pat mk_lst h
/-! statements -/
inductive SR where
  | no
  | nx (ρ : VSt) (h : VH)
  | ret (v : VV) (h : VH)
  | brk (ρ : VSt) (h : VH)
  | cnt (ρ : VSt) (h : VH)
  | exc (x : Str) (ns : List Str) (vs : List VV) (ρ : VSt) (h : VH)
abbrev SF := VSt → VH → SR
def PS1 (c : Ct) (W : WX) (g : Gh) (H : Hp) (D : Ends) : SR → Prop
  | .no => False
  | .nx ρ h => ∀ g' H' σ', Stp g H g' H' → RH c g' h H' → RS c g' H' ρ σ' → D.nx σ' H'
  | .ret v h => ∀ g' H' u, Stp g H g' H' → RH c g' h H' → RT c g' H' v u → D.rt u H'
  | .brk ρ h => ∀ g' H' σ', Stp g H g' H' → RH c g' h H' → RS c g' H' ρ σ' → D.bk σ' H'
  | .cnt ρ h => ∀ g' H' σ', Stp g H g' H' → RH c g' h H' → RS c g' H' ρ σ' → D.ct σ' H'
  | .exc x ns vs ρ h => ∀ g' H' σ' C d us, Stp g H g' H' → RH c g' h H' → RS c g' H' ρ σ' → c.mg x = some (.ref C) → (H' d = some (.xd (ns.zip us)) ∧ ¬ g'.fz d ∧ d ∉ g'.io) → ns.length = us.length → RVs c g'.fz H' vs us → W (.ref C) (some d) σ' H'
theorem PS1.step {c : Ct} {W : WX} {g g1 : Gh} {H H1 : Hp} {D : Ends} {r : SR} (s : Stp g H g1 H1) (h : PS1 c W g H D r) : PS1 c W g1 H1 D r := by
  cases r with
  | no => exact h
  | nx => exact fun g' H' σ' st => h g' H' σ' (s.trans st)
  | ret => exact fun g' H' σ' st => h g' H' σ' (s.trans st)
  | brk => exact fun g' H' σ' st => h g' H' σ' (s.trans st)
  | cnt => exact fun g' H' σ' st => h g' H' σ' (s.trans st)
  | exc => exact fun g' H' σ' C d us st => h g' H' σ' C d us (s.trans st)
def tS (c : Ct) (W : WX) (F : SF) : TS := fun D σ H => ∃ g ρ h, RH c g h H ∧ RS c g H ρ σ ∧ PS1 c W g H D (F ρ h)
/-- from an expression's result to a statement's -/
def Res.st {α : Type} (r : Res α) (ρ : VSt) (k : α → VH → SR) : SR := match r with
  | .no => .no
  | .ok a h => k a h
  | .exc x ns vs h => .exc x ns vs ρ h
theorem Pst.st {α β : Type} {R : Gh → Hp → α → β → Prop} {c : Ct} {W : WX} {σ : St} {g : Gh} {H : Hp} {D : Ends} {r : Res α} {ρ : VSt} {k : α → VH → SR} (rs : RS c g H ρ σ) (h : PS1 c W g H D (r.st ρ k)) :
    Pst c W σ R g H (fun u H1 => ∃ g1 v h1, Stp g H g1 H1 ∧ RH c g1 h1 H1 ∧ RS c g1 H1 ρ σ ∧ R g1 H1 v u ∧ PS1 c W g1 H1 D (k v h1)) r := by
  cases r with
  | no => exact h
  | ok v h' => exact fun g' H' u st rh rv => ⟨g', v, h', st, rh, rs.stp st, rv, PS1.step st h⟩
  | exc x ns vs h' => exact fun g' H' C d us st rh m e l rv => h g' H' σ C d us st rh (rs.stp st) m e l rv
def sSkip : SF := fun ρ h => .nx ρ h
def sSeq (a b : SF) : SF := fun ρ h => match a ρ h with
  | .nx ρ' h' => b ρ' h'
  | r => r
def sAsg (e : EF) (b : VV → VSt → Option VSt) : SF := fun ρ h => (e ρ h).st ρ fun v h1 => match b v ρ with
  | some ρ' => .nx ρ' h1
  | none => .no
def sSet (i : Nat) (e : EF) : SF := fun ρ h => (e ρ h).st ρ fun v h1 => .nx (ρ.set i (some v)) h1
def sIf (c : TF) (a b : SF) : SF := fun ρ h => (c ρ h).st ρ fun k h1 => if k = true then a ρ h1 else b ρ h1
def sRet (e : EF) : SF := fun ρ h => (e ρ h).st ρ fun v h1 => .ret v h1
def sExpr (e : EF) : SF := fun ρ h => (e ρ h).st ρ fun v h1 => .nx ρ h1
def forGo (b : VV → VSt → Option VSt) (body : SF) : List VV → VSt → VH → SR
  | [], ρ, h => .nx ρ h
  | x :: xs, ρ, h => match b x ρ with
    | none => .no
    | some ρ' => match body ρ' h with
      | .nx ρ2 h2 => forGo b body xs ρ2 h2
      | .cnt ρ2 h2 => forGo b body xs ρ2 h2
      | .brk ρ2 h2 => .nx ρ2 h2
      | r => r
def sFor (it : AF) (b : VV → VSt → Option VSt) (body : SF) : SF := fun ρ h => (it ρ h).st ρ fun xs h1 => forGo b body xs ρ h1
theorem js_nil : PSs X [] (tS (ct X) W sSkip) := PSs.mono pss_nil fun D σ H ⟨g, ρ, h, rh, rs, p⟩ => p g H σ .refl rh rs
theorem js_cons {st : Stmt} {rest : List Stmt} {fa fb : SF} (h1 : PS X st (tS (ct X) W fa)) (h2 : PSs X rest (tS (ct X) W fb)) : PSs X (st :: rest) (tS (ct X) W (sSeq fa fb)) :=
  PSs.mono (pss_cons h1 h2) fun D σ H ⟨g, ρ, h, rh, rs, p⟩ => by
    refine ⟨g, ρ, h, rh, rs, ?_⟩
    unfold sSeq at p
    cases e : fa ρ h with
    | nx ρ' h' =>
      rw [e] at p
      exact fun g' H' σ' st rh' rs' => ⟨g', ρ', h', rh', rs', PS1.step st p⟩
    | no => rw [e] at p; exact p
    | ret => rw [e] at p; exact p
    | brk => rw [e] at p; exact p
    | cnt => rw [e] at p; exact p
    | exc => rw [e] at p; exact p
theorem js_one {st : Stmt} {fa : SF} (h1 : PS X st (tS (ct X) W fa)) : PSs X [st] (tS (ct X) W fa) := pss_one h1
theorem js_set {i : Nat} {x : Str} {e : Expr} {f : EF} {pos pos' : Pos} (hN : X.N.Nodup) (hi : X.N[i]? = some x) (hx : Loc X.env.scope x) (he : PE X e (tE (ct X) W f)) (hs : swapsWith e (some (.Name x pos')) pos.line X.env = pure false := by rfl)
    (hf : X.fn x = true ∨ X.env.scope.names.lookup x = some .local := by first | exact .inl rfl | exact .inr rfl | assumption) :
    PS X (.Assign [.Name x pos'] e pos) (tS (ct X) W (sSet i f)) :=
  PS.mono (ps_set (i := i) hN hi hx he hs hf) fun D σ H ⟨g, ρ, h, rh, rs, p⟩ => by
    refine ⟨g, ρ, h, rh, rs, (Pst.st (R := RT (ct X)) rs p).imp fun u H1 ⟨g1, v, h1, st, rh1, rs1, rv1, p1⟩ => ?_⟩
    exact p1 g1 H1 _ .refl rh1 (rs1.set rv1 i)
theorem js_if {c : Expr} {a b : List Stmt} {fc : TF} {fa fb : SF} {pos : Pos} (hc : PT X c (tT (ct X) W fc)) (ha : PSs X a (tS (ct X) W fa)) (hb : PSs X b (tS (ct X) W fb)) : PS X (.If c a b pos) (tS (ct X) W (sIf fc fa fb)) :=
  PS.mono (ps_if hc ha hb) fun D σ H ⟨g, ρ, h, rh, rs, p⟩ => by
    refine ⟨g, ρ, h, rh, rs, (Pst.st (R := RB) rs p).imp fun u H1 ⟨g1, v, h1, st, rh1, rs1, rv1, p1⟩ => ?_⟩
    cases rv1
    cases u with
    | true => rw [if_pos rfl] at p1 ⊢; exact ⟨g1, ρ, h1, rh1, rs1, p1⟩
    | false => rw [if_neg Bool.false_ne_true] at p1 ⊢; exact ⟨g1, ρ, h1, rh1, rs1, p1⟩
theorem js_ret {e : Expr} {f : EF} {pos : Pos} (he : PE X e (tE (ct X) W f)) : PS X (.Return (some e) pos) (tS (ct X) W (sRet f)) :=
  PS.mono (ps_ret he) fun D σ H ⟨g, ρ, h, rh, rs, p⟩ => by
    refine ⟨g, ρ, h, rh, rs, (Pst.st (R := RT (ct X)) rs p).imp fun u H1 ⟨g1, v, h1, st, rh1, rs1, rv1, p1⟩ => ?_⟩
    exact p1 g1 H1 u .refl rh1 rv1
theorem js_expr {e : Expr} {f : EF} {pos : Pos} (he : PE X e (tE (ct X) W f)) (hs : swapsWith e none pos.line X.env = pure false := by rfl) : PS X (.Expr e pos) (tS (ct X) W (sExpr f)) :=
  PS.mono (ps_expr he hs) fun D σ H ⟨g, ρ, h, rh, rs, p⟩ => by
    refine ⟨g, ρ, h, rh, rs, (Pst.st (R := RT (ct X)) rs p).imp fun u H1 ⟨g1, v, h1, st, rh1, rs1, rv1, p1⟩ => ?_⟩
    exact p1 g1 H1 σ .refl rh1 rs1
theorem js_for {tg iter : Expr} {body : List Stmt} {it : AF} {g : TG} {b : VV → VSt → Option VSt} {own : List Nat} {fb : SF} {pos : Pos} (hp : PassesOwn (model X.prog X.w) X.A X.env X.xe) (hc : X.calm = true) (hi : PI X tg iter (tI (ct X) W it)) (hg : PG X tg g) (pat : PatOk X.K g b own) (hb : PSs X body (tS (ct X) W fb))
    (hs : ∀ x, foldedSetIterable iter X.env x = pure x := by intro _; rfl) : PS X (.For tg iter body [] pos) (tS (ct X) W (sFor it b fb)) :=
  PS.mono (ps_for hp hc hi hg hb hs) fun D σ H ⟨g, ρ, h, rh, rs, p⟩ => by
    refine ⟨g, ρ, h, rh, rs, (Pst.st (R := fun g H xs J => Deliv (ct X) g H xs J) rs p).imp fun J H1 ⟨g1, xs, h1, st, rh1, rs1, dl, p1⟩ => ?_⟩
    let P : Nat → St → Hp → Prop := fun i σ' H' => ∃ (gi : Gh) (ρi : VSt) (hi : VH), Stp g1 H1 gi H' ∧ RH (ct X) gi hi H' ∧ RS (ct X) gi H' ρi σ' ∧ PS1 (ct X) W gi H' D (forGo b fb (xs.drop i) ρi hi)
    refine ⟨fun i m σ' H' => m = xs.length - i ∧ i ≤ xs.length ∧ P i σ' H', ⟨xs.length, by simp, Nat.zero_le _, g1, ρ, h1, .refl, rh1, rs1, by rw [List.drop_zero]; exact p1⟩, ?_⟩
    rintro i m σ' H' ⟨rfl, hi, gi, ρi, hh, sti, rhi, rsi, pi⟩
    by_cases hlt : i < xs.length
    · have ed : xs.drop i = xs[i] :: xs.drop (i + 1) := List.drop_eq_getElem_cons hlt
      refine .inr ⟨dl.go gi H' sti.f i hlt, P (i + 1), fun σ2 H2 p2 => ⟨xs.length - (i + 1), by omega, rfl, hlt, p2⟩, fun x H2 y => ?_⟩
      obtain ⟨g2, st2, rh2, rt2⟩ := dl.yld gi H' sti.f i xs[i] hh (List.getElem?_eq_getElem hlt) rhi x H2 y
      rw [ed] at pi
      unfold forGo at pi
      cases e : b xs[i] ρi with
      | none => rw [e] at pi; exact pi.elim
      | some ρ' =>
        rw [e] at pi
        simp only at pi
        refine pat.run (ct X) g2 hh H2 ρi σ' xs[i] x ρ' rfl rh2 (rsi.stp st2) rt2 e _ fun σ3 rs3 _ _ => ⟨g2, ρ', hh, rh2, rs3, ?_⟩
        cases eb : fb ρ' hh with
        | no => rw [eb] at pi; exact pi
        | nx ρ2 h2 => rw [eb] at pi; exact fun g' H' σ' st rh' rs' => ⟨g', ρ2, h2, (sti.trans st2).trans st, rh', rs', PS1.step (st2.trans st) pi⟩
        | cnt ρ2 h2 => rw [eb] at pi; exact fun g' H' σ' st rh' rs' => ⟨g', ρ2, h2, (sti.trans st2).trans st, rh', rs', PS1.step (st2.trans st) pi⟩
        | brk ρ2 h2 => rw [eb] at pi; exact PS1.step (r := .nx ρ2 h2) st2 pi
        | ret v h2 => rw [eb] at pi; exact PS1.step (r := .ret v h2) st2 pi
        | exc x ns vs ρ2 h2 => rw [eb] at pi; exact PS1.step (r := .exc x ns vs ρ2 h2) st2 pi
    · have e : i = xs.length := by omega
      subst e
      rw [List.drop_length] at pi
      unfold forGo at pi
      exact .inl ⟨dl.stop gi H' sti.f _ (Nat.le_refl _), pi gi H' σ' .refl rhi rsi⟩
end
end J
namespace J
open PySem L2
open PyProof.Rows (envOfC)
/-! lists by value -/
def lstOf (h : VH) : VV → Option (List VV)
  | .lst xs => some xs
  | .scr xs => some xs
  | .obj n => match h[n]? with
    | some (.fl xs) => some xs
    | some (.fzn (.lst xs)) => some xs
    | _ => none
  | _ => none
/-- .. exact (not the script) -/
def lstOf' (h : VH) : VV → Option (List VV)
  | .lst xs => some xs
  | .obj n => match h[n]? with
    | some (.fl xs) => some xs
    | some (.fzn (.lst xs)) => some xs
    | _ => none
  | _ => none
theorem lstOf'_get {c : Ct} {g : Gh} {h : VH} {H : Hp} {v : VV} {u : V} {xs : List VV} (rh : RH c g h H) (rv : RT c g H v u) (e : lstOf' h v = some xs) : ∃ p us, u = .ref p ∧ H p = some (.lst us) ∧ RVs c g.fz H xs us := by
  cases v with
  | lst ys =>
    cases e
    have q := rv.rv rfl
    rw [RV] at q
    obtain ⟨p, us, a, b, d, r⟩ := q
    exact ⟨p, us, a, d, r⟩
  | obj n =>
    obtain ⟨a, ea, eu⟩ := rv
    unfold lstOf' at e
    simp only at e
    split at e
    · rename_i ys en
      cases e
      obtain ⟨_, us, d, r⟩ := rh.at' n _ a en ea
      exact ⟨a, us, eu, d, r⟩
    · rename_i ys en
      cases e
      obtain ⟨_, q⟩ := rh.at' n _ a en ea
      rw [RV] at q
      obtain ⟨p, us, z, b, d, r⟩ := q
      cases z
      exact ⟨a, us, eu, d, r⟩
    · cases e
  | _ => cases e
theorem lstOf_get {c : Ct} {g : Gh} {h : VH} {H : Hp} {v : VV} {u : V} {xs : List VV} (rh : RH c g h H) (rv : RT c g H v u) (e : lstOf h v = some xs) : ∃ p us, u = .ref p ∧ SqL c.K H p us ∧ RVs c g.fz H xs us := by
  cases v with
  | scr ys =>
    cases e
    have q := rv.rv rfl
    rw [RV] at q
    obtain ⟨p, us, a, d, r⟩ := q
    exact ⟨p, us, a, d.sq, r⟩
  | lst ys =>
    obtain ⟨p, us, a, b, r⟩ := lstOf'_get (xs := xs) rh rv e
    exact ⟨p, us, a, SqL.of b, r⟩
  | obj n =>
    obtain ⟨p, us, a, b, r⟩ := lstOf'_get (xs := xs) rh rv e
    exact ⟨p, us, a, SqL.of b, r⟩
  | _ => cases e
theorem tup_get {c : Ct} {g : Gh} {H : Hp} {u : V} {xs : List VV} (rv : RT c g H (.tup xs) u) : ∃ p us, u = .ref p ∧ TupAt c g.fz H p us ∧ RVs c g.fz H xs us := by
  have q := rv.rv rfl
  rw [RV] at q
  exact q
theorem int_get {c : Ct} {g : Gh} {H : Hp} {u : V} {i : Int} (rv : RT c g H (.int i) u) : u = .int i := by have q := rv.rv rfl; rw [RV] at q; exact q
theorem bl_get {c : Ct} {g : Gh} {H : Hp} {u : V} {i : Bool} (rv : RT c g H (.bl i) u) : u = .bl i := by have q := rv.rv rfl; rw [RV] at q; exact q
theorem str_get {c : Ct} {g : Gh} {H : Hp} {u : V} {i : Str} (rv : RT c g H (.str i) u) : u = .str i := by have q := rv.rv rfl; rw [RV] at q; exact q
theorem non_get {c : Ct} {g : Gh} {H : Hp} {u : V} (rv : RT c g H .non u) : u = .non := by have q := rv.rv rfl; rw [RV] at q; exact q
theorem ty_get {c : Ct} {g : Gh} {H : Hp} {u : V} {n : String} (rv : RT c g H (.ty n) u) : u = .ty n := by have q := rv.rv rfl; rw [RV] at q; exact q
def lstF : VV → Option (List VV)
  | .lst xs => some xs
  | .scr xs => some xs
  | _ => none
theorem lstF_get {c : Ct} {g : Gh} {H : Hp} {v : VV} {u : V} {xs : List VV} (rv : RT c g H v u) (e : lstF v = some xs) : ∃ p us, u = .ref p ∧ LstAt c g.fz H p us ∧ RVs c g.fz H xs us := by
  cases v with
  | scr ys =>
    cases e
    have q := rv.rv rfl
    rw [RV] at q
    exact q
  | lst ys =>
    cases e
    have q := rv.rv rfl
    rw [RV] at q
    obtain ⟨p, us, a, b, d, r⟩ := q
    exact ⟨p, us, a, .inl ⟨b, .inl d⟩, r⟩
  | _ => cases e
/-- .. whose items may be roots -/
def lstR (h : VH) : VV → Option (List VV)
  | .obj n => match h[n]? with
    | some (.lo xs) => some xs
    | _ => lstOf h (.obj n)
  | v => lstOf h v
theorem lstR_get {c : Ct} {g : Gh} {h : VH} {H : Hp} {v : VV} {u : V} {xs : List VV} (rh : RH c g h H) (rv : RT c g H v u) (e : lstR h v = some xs) : ∃ p us, u = .ref p ∧ SqL c.K H p us ∧ RTs c g H xs us := by
  have old : lstOf h v = some xs → ∃ p us, u = .ref p ∧ SqL c.K H p us ∧ RTs c g H xs us := fun e => by
    obtain ⟨p, us, a, b, r⟩ := lstOf_get rh rv e
    exact ⟨p, us, a, b, RTs.of_rvs r⟩
  cases v with
  | obj n =>
    unfold lstR at e
    simp only at e
    split at e
    · rename_i ys en
      cases e
      obtain ⟨a, ea, eu⟩ := rv
      obtain ⟨_, us, d, r⟩ := rh.at' n _ a en ea
      exact ⟨a, us, eu, SqL.of d, r⟩
    · exact old e
  | _ => exact old e
/-! iterables -/
theorem deliv_list {c : Ct} {g : Gh} {h : VH} {H : Hp} {p : Addr} {us : List V} {xs : List VV} (rd : LstAt c g.fz H p us) (rv : RVs c g.fz H xs us) : Deliv c g H xs (Itl c.K p) where
  go := fun g1 H1 st i hi => by
    obtain ⟨u, e, _⟩ := rv.get (List.getElem?_eq_getElem hi)
    exact ⟨us, u, (rd.stp st.fz st.fH).sq, e⟩
  stop := fun g1 H1 st i hi => ⟨us, (rd.stp st.fz st.fH).sq, by rw [← rv.len]; exact hi⟩
  yld := fun g1 H1 st i x h1 e rh u H' y => by
    obtain ⟨eH, hy⟩ := y
    subst eH
    obtain ⟨u', e', r⟩ := rv.get e
    have q := hy us ((rd.stp st.fz st.fH).sq)
    rw [e'] at q
    cases q
    exact ⟨g1, .refl, rh, RT.of_rv (st.rv r)⟩
theorem deliv_tup {c : Ct} {g : Gh} {h : VH} {H : Hp} {p : Addr} {us : List V} {xs : List VV} (rd : TupAt c g.fz H p us) (rv : RVs c g.fz H xs us) : Deliv c g H xs (Itt c.K p) where
  go := fun g1 H1 st i hi => by
    obtain ⟨u, e, _⟩ := rv.get (List.getElem?_eq_getElem hi)
    exact ⟨us, u, (TupAt.stp (z' := g.fz) st.tp rd).sq, e⟩
  stop := fun g1 H1 st i hi => ⟨us, (TupAt.stp (z' := g.fz) st.tp rd).sq, by rw [← rv.len]; exact hi⟩
  yld := fun g1 H1 st i x h1 e rh u H' y => by
    obtain ⟨eH, hy⟩ := y
    subst eH
    obtain ⟨u', e', r⟩ := rv.get e
    have q := hy us (TupAt.stp (z' := g.fz) st.tp rd).sq
    rw [e'] at q
    cases q
    exact ⟨g1, .refl, rh, RT.of_rv (st.rv r)⟩
def signs (s : Str) : List VV := s.cps.toList.map fun c => .str ⟨#[c]⟩
theorem deliv_str {c : Ct} {g : Gh} {H : Hp} {s : Str} : Deliv c g H (signs s) (Its s) where
  go := fun g1 H1 st i hi => by unfold signs at hi; simp at hi; exact hi
  stop := fun g1 H1 st i hi => by unfold signs at hi; simp at hi; exact hi
  yld := fun g1 H1 st i x h1 e rh u H' y => by
    obtain ⟨eH, k, hk, hu⟩ := y
    subst eH
    refine ⟨g1, .refl, rh, ?_⟩
    unfold signs at e
    rw [List.getElem?_map, Array.getElem?_toList, hk] at e
    cases e
    rw [hu]
    exact rt_str
def rngV (lo : Int) (n : Nat) : List VV := (List.range n).map fun (i : Nat) => .int (lo + (i : Int))
theorem deliv_rng {c : Ct} {g : Gh} {H : Hp} {lo : Int} {n : Nat} : Deliv c g H (rngV lo n) (Itr lo n) where
  go := fun g1 H1 st i hi => by unfold rngV at hi; simp at hi; exact hi
  stop := fun g1 H1 st i hi => by unfold rngV at hi; simp at hi; exact hi
  yld := fun g1 H1 st i x h1 e rh u H' y => by
    obtain ⟨eH, hu⟩ := y
    subst eH
    refine ⟨g1, .refl, rh, ?_⟩
    unfold rngV at e
    rw [List.getElem?_map] at e
    cases q : (List.range n)[i]? with
    | none => rw [q] at e; cases e
    | some j =>
      rw [q] at e
      cases e
      obtain ⟨hh, e2⟩ := List.getElem?_eq_some_iff.mp q
      rw [List.getElem_range] at e2
      subst e2
      rw [hu]
      exact rt_int
/-- items of a list, a tuple, a text -/
def iSeq (f : EF) : AF := fun ρ h => (f ρ h).bind fun v h1 => match v with
  | .lst xs => .ok xs h1
  | .scr xs => .ok xs h1
  | .tup xs => .ok xs h1
  | .str s => .ok (signs s) h1
  | _ => .no
def iRange1 (f : EF) : AF := fun ρ h => (f ρ h).bind fun v h1 => match v with
  | .int n => if -(2 ^ 62) ≤ n ∧ n < 2 ^ 62 then .ok (rngV 0 n.toNat) h1 else .no
  | _ => .no
def prs : List VV → List VV → List VV
  | x :: xs, y :: ys => .tup [x, y] :: prs xs ys
  | _, _ => []
def iZip (a : AF) : AF := fun ρ h => (a ρ h).bind fun v h1 => match v with
  | [.lst xs, .lst ys] => .ok (prs xs ys) h1
  | [.tup xs, .tup ys] => .ok (prs xs ys) h1
  | _ => .no
def enum : Nat → List VV → List VV
  | _, [] => []
  | n, x :: xs => .tup [.int n, x] :: enum (n + 1) xs
def iEnum (a : AF) : AF := fun ρ h => (a ρ h).bind fun v h1 => match v with
  | [.lst xs] => .ok (enum 0 xs) h1
  | [.scr xs] => .ok (enum 0 xs) h1
  | _ => .no
theorem prs_get : ∀ (xs ys : List VV) (i : Nat), (prs xs ys)[i]? = (match xs[i]?, ys[i]? with
    | some x, some y => some (.tup [x, y])
    | _, _ => none)
  | [], ys, i => by simp [prs]
  | x :: xs, [], i => by simp [prs]
  | x :: xs, y :: ys, 0 => by simp [prs]
  | x :: xs, y :: ys, i + 1 => by simp [prs, prs_get xs ys i]
theorem prs_len : ∀ (xs ys : List VV), (prs xs ys).length = min xs.length ys.length
  | [], ys => by simp [prs]
  | x :: xs, [] => by simp [prs]
  | x :: xs, y :: ys => by simp [prs, prs_len xs ys]
theorem pair_new {c : Ct} {g : Gh} {h : VH} {H : Hp} {T : Addr} {xs : List VV} {us : List V} (rh : RH c g h H) (hT : H T = none) (rv : RVs c g.fz H xs us) :
    Stp g H (g.frz T) (upd H T (.tup us)) ∧ RH c (g.frz T) h (upd H T (.tup us)) ∧ RT c (g.frz T) (upd H T (.tup us)) (.tup xs) (.ref T) := by
  refine ⟨.new rh hT, rh.new hT, ?_⟩
  show RV _ _ _ _ _
  rw [RV]
  exact ⟨T, us, rfl, upd_same, (Stp.new rh hT).rvs rv⟩
theorem deliv_zip {c : Ct} {g : Gh} {H : Hp} {p q : Addr} {us ws : List V} {xs ys : List VV} (rd : LstAt c g.fz H p us) (rd' : LstAt c g.fz H q ws) (rv : RVs c g.fz H xs us) (rv' : RVs c g.fz H ys ws) : Deliv c g H (prs xs ys) (Itz c.K p q) where
  go := fun g1 H1 st i hi => by
    rw [prs_len] at hi
    obtain ⟨u, e, _⟩ := rv.get (List.getElem?_eq_getElem (show i < xs.length by omega))
    obtain ⟨w, e', _⟩ := rv'.get (List.getElem?_eq_getElem (show i < ys.length by omega))
    exact ⟨us, ws, u, w, (rd.stp st.fz st.fH).sq, (rd'.stp st.fz st.fH).sq, e, e'⟩
  stop := fun g1 H1 st i hi => by
    rw [prs_len, rv.len, rv'.len] at hi
    exact ⟨us, ws, (rd.stp st.fz st.fH).sq, (rd'.stp st.fz st.fH).sq, by omega⟩
  yld := fun g1 H1 st i x h1 e rh u H' y => by
    obtain ⟨T, a, b, eu, hT, eH, ha, hb⟩ := y
    subst eH eu
    rw [prs_get] at e
    cases ex : xs[i]? with
    | none => rw [ex] at e; cases e
    | some x1 =>
      cases ey : ys[i]? with
      | none => rw [ex, ey] at e; cases e
      | some y1 =>
        rw [ex, ey] at e
        cases e
        obtain ⟨u1, e1, r1⟩ := rv.get ex
        obtain ⟨w1, e2, r2⟩ := rv'.get ey
        have qa := ha us ((rd.stp st.fz st.fH).sq)
        have qb := hb ws ((rd'.stp st.fz st.fH).sq)
        rw [e1] at qa; cases qa
        rw [e2] at qb; cases qb
        obtain ⟨s1, s2, s3⟩ := pair_new (xs := [x1, y1]) rh hT (RVs.cons (st.rv r1) (RVs.one (st.rv r2)))
        exact ⟨_, s1, s2, s3⟩
theorem deliv_zipT {c : Ct} {g : Gh} {H : Hp} {p q : Addr} {us ws : List V} {xs ys : List VV} (rd : TupAt c g.fz H p us) (rd' : TupAt c g.fz H q ws) (rv : RVs c g.fz H xs us) (rv' : RVs c g.fz H ys ws) : Deliv c g H (prs xs ys) (RZ.ItzT c.K p q) where
  go := fun g1 H1 st i hi => by
    rw [prs_len] at hi
    obtain ⟨u, e, _⟩ := rv.get (List.getElem?_eq_getElem (show i < xs.length by omega))
    obtain ⟨w, e', _⟩ := rv'.get (List.getElem?_eq_getElem (show i < ys.length by omega))
    exact ⟨us, ws, u, w, (TupAt.stp (z' := g.fz) st.tp rd).sq, (TupAt.stp (z' := g.fz) st.tp rd').sq, e, e'⟩
  stop := fun g1 H1 st i hi => by
    rw [prs_len, rv.len, rv'.len] at hi
    exact ⟨us, ws, (TupAt.stp (z' := g.fz) st.tp rd).sq, (TupAt.stp (z' := g.fz) st.tp rd').sq, by omega⟩
  yld := fun g1 H1 st i x h1 e rh u H' y => by
    obtain ⟨T, a, b, eu, hT, eH, ha, hb⟩ := y
    subst eH eu
    rw [prs_get] at e
    cases ex : xs[i]? with
    | none => rw [ex] at e; cases e
    | some x1 =>
      cases ey : ys[i]? with
      | none => rw [ex, ey] at e; cases e
      | some y1 =>
        rw [ex, ey] at e
        cases e
        obtain ⟨u1, e1, r1⟩ := rv.get ex
        obtain ⟨w1, e2, r2⟩ := rv'.get ey
        have qa := ha us (TupAt.stp (z' := g.fz) st.tp rd).sq
        have qb := hb ws (TupAt.stp (z' := g.fz) st.tp rd').sq
        rw [e1] at qa; cases qa
        rw [e2] at qb; cases qb
        obtain ⟨s1, s2, s3⟩ := pair_new (xs := [x1, y1]) rh hT (RVs.cons (st.rv r1) (RVs.one (st.rv r2)))
        exact ⟨_, s1, s2, s3⟩
section
variable {X : Cx} {W : WX}
theorem ji_seq {tg l : Expr} {f : EF} (hl : PE X l (tE (ct X) W f)) : PI X tg l (tI (ct X) W (iSeq f)) :=
  PI.mono ((PI.or (pi_list hl) (PI.or (pi_tup hl) (pi_str hl)))) fun σ H R h => by
    obtain ⟨g, ρ, h0, rh, rs, p⟩ := h
    unfold iSeq at p
    cases e : f ρ h0 with
    | no => rw [e] at p; exact p.elim
    | exc x ns vs h' => exact .inl ⟨g, ρ, h0, rh, rs, by rw [e] at p ⊢; exact p⟩
    | ok v h1 =>
      rw [e] at p
      cases v with
      | lst xs =>
        refine .inl ⟨g, ρ, h0, rh, rs, ?_⟩
        rw [e]
        intro g' H' u st rh' rv
        obtain ⟨a, us, eu, ra, rvs⟩ := lstF_get (xs := xs) rv rfl
        exact ⟨a, eu, ⟨us, ra.sq⟩, p g' H' _ st rh' (deliv_list (h := h1) ra rvs)⟩
      | scr xs =>
        refine .inl ⟨g, ρ, h0, rh, rs, ?_⟩
        rw [e]
        intro g' H' u st rh' rv
        obtain ⟨a, us, eu, ra, rvs⟩ := lstF_get (xs := xs) rv rfl
        exact ⟨a, eu, ⟨us, ra.sq⟩, p g' H' _ st rh' (deliv_list (h := h1) ra rvs)⟩
      | tup xs =>
        refine .inr (.inl ⟨g, ρ, h0, rh, rs, ?_⟩)
        rw [e]
        intro g' H' u st rh' rv
        obtain ⟨a, us, eu, ra, rvs⟩ := tup_get rv
        exact ⟨a, eu, ⟨us, ra.sq⟩, p g' H' _ st rh' (deliv_tup (h := h1) ra rvs)⟩
      | str s =>
        refine .inr (.inr ⟨g, ρ, h0, rh, rs, ?_⟩)
        rw [e]
        intro g' H' u st rh' rv
        exact ⟨s, str_get rv, p g' H' _ st rh' deliv_str⟩
      | _ => exact p.elim
theorem ji_range1 {tg a : Expr} {f : EF} {p pos : Pos} (hg : Gl X "range") (hm : X.mg "range" = none) (ha : PE X a (tE (ct X) W f)) (hs : starEach [a] X.env = [(false, eval a X.env)] := by rfl) : PI X tg (.Call (.Name "range" p) [a] [] pos) (tI (ct X) W (iRange1 f)) :=
  PI.mono (pi_range1 hg hm (pa_cons ha pa_nil hs) hs) fun σ H R h => by
    obtain ⟨g, ρ, h0, rh, rs, p⟩ := h
    unfold iRange1 at p
    refine ⟨g, ρ, h0, rh, rs, ?_⟩
    cases e : f ρ h0 with
    | no => rw [e] at p; exact p.elim
    | exc x ns vs h' => rw [e] at p; exact p
    | ok v h1 =>
      rw [e] at p
      cases v with
      | int n =>
        simp only [Res.bind] at p
        by_cases hn : -(2 ^ 62) ≤ n ∧ n < 2 ^ 62
        · rw [if_pos hn] at p
          intro g' H' u st rh' rv
          exact ⟨n, by rw [int_get rv], hn.1, hn.2, p g' H' _ st rh' deliv_rng⟩
        · rw [if_neg hn] at p; exact p.elim
      | _ => exact p.elim
theorem ji_zip {a b : Expr} {f : AF} {p pos tpos : Pos} {elts : List Expr} {kk : Nat} (hg : Gl X "zip") (hm : X.mg "zip" = none) (ha : PA X [a, b] (tA (ct X) W f)) (hs : starEach [a, b] X.env = (false, eval a X.env) :: starEach [b] X.env := by rfl) (hpl : (backTo pos (starEach [b] X.env)).any (·.1) = false := by rfl) :
    PI X (.Tuple elts kk tpos) (.Call (.Name "zip" p) [a, b] [] pos) (tI (ct X) W (iZip f)) :=
  PI.mono (RZ.pi_zipA hg hm ha hs hpl) fun σ H R h => by
    obtain ⟨g, ρ, h0, rh, rs, p⟩ := h
    unfold iZip at p
    refine ⟨g, ρ, h0, rh, rs, ?_⟩
    cases e : f ρ h0 with
    | no => rw [e] at p; exact p.elim
    | exc x ns vs h' => rw [e] at p; exact p
    | ok v h1 =>
      rw [e] at p
      simp only [Res.bind] at p
      split at p
      · intro g' H' u st rh' rv
        obtain ⟨u1, r1, rfl, a1, u2, r2, rfl, a2, rfl⟩ := rv
        obtain ⟨a, us, eu, ra, rvs⟩ := lstF_get a1 rfl
        obtain ⟨b, ws, ew, rb, rws⟩ := lstF_get a2 rfl
        exact ⟨a, b, us, ws, by rw [eu, ew], .inl ⟨ra.sq, rb.sq, p g' H' _ st rh' (deliv_zip ra rb rvs rws)⟩⟩
      · intro g' H' u st rh' rv
        obtain ⟨u1, r1, rfl, a1, u2, r2, rfl, a2, rfl⟩ := rv
        obtain ⟨a, us, eu, ra, rvs⟩ := tup_get a1
        obtain ⟨b, ws, ew, rb, rws⟩ := tup_get a2
        exact ⟨a, b, us, ws, by rw [eu, ew], .inr ⟨ra.sq, rb.sq, p g' H' _ st rh' (deliv_zipT ra rb rvs rws)⟩⟩
      · exact p.elim
/-! defs and calls -/
abbrev FF := List VV → VH → Res VV
def spF (c : Ct) (n : Nat) (F : FF) : Sp := fun vs H Q E => ∃ g ws h, RH c g h H ∧ RTs c g H ws vs ∧ ws.length = n ∧ Pst c (fun a d _ H' => E a d H') [] (RT c) g H Q (F ws h)
/-- the roots that a def made and let go are forgotten -/
def lowV (n : Nat) : VV → Bool
  | .obj m => decide (m < n)
  | _ => true
def lowO (n : Nat) : VO → Bool
  | .ins _ _ vs => vs.all (lowV n)
  | .lo vs => vs.all (lowV n)
  | _ => true
def trim (n : Nat) (v : VV) (h : VH) : VH := if h.length = n then h else if lowV n v = true ∧ (h.take n).all (lowO n) = true then h.take n else h
def fnF (k : Nat) (B : SF) : FF := fun vs h => match B (vs.map some ++ List.replicate (k - vs.length) none) h with
  | .nx _ h' => .ok .non (trim h.length .non h')
  | .ret v h' => .ok v (trim h.length v h')
  | .exc x ns vs _ h' => .exc x ns vs h'
  | _ => .no
theorem RTs.start {c : Ct} {g : Gh} {H : Hp} {ws : List VV} {vs : List V} (r : RTs c g H ws vs) (k : Nat) : RS c g H (ws.map some ++ List.replicate (k - ws.length) none) (vs.map some ++ List.replicate (k - vs.length) none) := by
  have hl := r.len
  refine ⟨by simp [hl], fun i v e => ?_⟩
  by_cases hi : i < ws.length
  · rw [List.getElem?_append_left (by simpa using hi), List.getElem?_map] at e
    cases q : ws[i]? with
    | none => rw [q] at e; cases e
    | some w =>
      rw [q] at e
      cases e
      have : ∀ {ws : List VV} {vs : List V} {i : Nat} {v : VV}, RTs c g H ws vs → ws[i]? = some v → ∃ u, vs[i]? = some u ∧ RT c g H v u := by
        intro ws
        induction ws with
        | nil => intro vs i v _ e; simp at e
        | cons x xs ih =>
          intro vs i v r e
          obtain ⟨u, r', rfl, a, b⟩ := r
          cases i with
          | zero => simp at e; subst e; exact ⟨u, rfl, a⟩
          | succ i => exact ih (i := i) b (by simpa using e)
      obtain ⟨u, e2, ru⟩ := this r q
      refine ⟨u, ?_, ru⟩
      rw [List.getElem?_append_left (by rw [List.length_map, ← hl]; exact hi), List.getElem?_map, e2]; rfl
  · rw [List.getElem?_append_right (by simpa using hi), List.getElem?_replicate] at e
    split at e <;> cases e
theorem RT.low {c : Ct} {g g' : Gh} {H : Hp} {n : Nat} (hio : g'.io = g.io.take n) (hfz : g'.fz = g.fz) {v : VV} {u : V} (l : lowV n v = true) (r : RT c g H v u) : RT c g' H v u := by
  cases v with
  | obj m =>
    obtain ⟨a, e, eu⟩ := r
    refine ⟨a, ?_, eu⟩
    rw [hio, List.getElem?_take_of_lt (of_decide_eq_true l)]
    exact e
  | _ => exact RT.of_rv (by rw [hfz]; exact RT.rv r rfl)
theorem RTs.low {c : Ct} {g g' : Gh} {H : Hp} {n : Nat} (hio : g'.io = g.io.take n) (hfz : g'.fz = g.fz) : ∀ {vs : List VV} {us : List V}, vs.all (lowV n) = true → RTs c g H vs us → RTs c g' H vs us
  | [], us, _, r => r
  | x :: xs, us, l, r => by
    rw [List.all_cons, Bool.and_eq_true] at l
    obtain ⟨u, q, e, a, b⟩ := r
    exact ⟨u, q, e, a.low hio hfz l.1, RTs.low hio hfz l.2 b⟩
theorem trim_ok {c : Ct} {g g' : Gh} {h h' : VH} {H H' : Hp} {v : VV} {u : V} (rh : RH c g h H) (st : Stp g H g' H') (rh' : RH c g' h' H') (rv : RT c g' H' v u) :
    ∃ g2, Stp g H g2 H' ∧ RH c g2 (trim h.length v h') H' ∧ RT c g2 H' v u := by
  unfold trim
  by_cases e : h'.length = h.length
  · rw [if_pos e]; exact ⟨g', st, rh', rv⟩
  · rw [if_neg e]
    by_cases cc : lowV h.length v = true ∧ (h'.take h.length).all (lowO h.length) = true
    · rw [if_pos cc]
      have eio : g'.io.take h.length = g.io := by
        obtain ⟨l, hl⟩ := st.io
        rw [← hl, ← rh.len, List.take_left]
      refine ⟨{ io := g.io, fz := g'.fz, kp := g'.kp }, ⟨List.prefix_rfl, st.fz, st.kp, st.fH, st.kH, st.tp⟩, ?_, RT.low (g' := { io := g.io, fz := g'.fz, kp := g'.kp }) (n := h.length) eio.symm rfl cc.1 rv⟩
      have hle : h.length ≤ h'.length := by
        obtain ⟨l, hl⟩ := st.io
        have := congrArg List.length hl
        rw [List.length_append, rh.len, rh'.len] at this
        omega
      refine ⟨by show g.io.length = _; rw [List.length_take, rh.len]; omega, rh.nd, fun n o a h1 h2 => ?_, rh'.fz, rh'.kp, fun q z => ⟨(rh'.kd q z).1, fun y => (rh'.kd q z).2 ?_⟩, rh'.tb, rh'.nt⟩
      · have hn : n < h.length := by
          have := (List.getElem?_eq_some_iff.mp h1).1
          rw [List.length_take] at this; omega
        have h1' : h'[n]? = some o := by rw [List.getElem?_take_of_lt hn] at h1; exact h1
        have h2' : g'.io[n]? = some a := by
          have : g.io[n]? = some a := h2
          rw [← eio, List.getElem?_take_of_lt hn] at this
          exact this
        have ro := rh'.at' n o a h1' h2'
        have lo : lowO h.length o = true := List.all_eq_true.mp cc.2 o (List.mem_of_getElem? h1)
        cases o with
        | fzn v => exact ro
        | fl xs => exact ro
        | lo xs =>
          obtain ⟨q1, us, q3, q4⟩ := ro
          exact ⟨q1, us, q3, RTs.low (g' := { io := g.io, fz := g'.fz, kp := g'.kp }) (n := h.length) eio.symm rfl lo q4⟩
        | dT ks vs => exact ro
        | dK ks vs => exact ro
        | ins x ns vs =>
          obtain ⟨q1, C, dx, us, q3, q4, q5, q6⟩ := ro
          exact ⟨q1, C, dx, us, q3, q4, q5, RTs.low (g' := { io := g.io, fz := g'.fz, kp := g'.kp }) (n := h.length) eio.symm rfl lo q6⟩
      · have : q ∈ g.io := y
        rw [← eio] at this
        exact List.mem_of_mem_take this
    · rw [if_neg cc]; exact ⟨g', st, rh', rv⟩
end
section
variable {P : Program} {w : World} {K : PySem.W.Frag} {mg : Str → Option Value} {base : Heap}
/-- THE RULE for a def -/
theorem fn_ok {x qual : Str} {params : Arguments} {body : List Stmt} {scope : Scope} {dvs : List V} {kws : List (Str × V)} {f : Addr} {fd : FuncData} {N ps : List Str} {k n : Nat} {B : SF} (F : FunD K x qual params body scope dvs kws f fd) (S : FnScope N ps scope) (hn : n = N.length) (hp : ps.length ≤ n)
    (hbody : ∀ (cdv : Value) (A : Around) (outer : List Env) (s : Shared) (H : Hp) (E : XK), Room k (A.deeper (envOfC qual scope s.heap.objs.size f cdv)) →
      PSs (cxOf (L2N.CX P w) P w K mg base N qual scope f cdv A outer s H E) body (tS ⟨K, mg⟩ (fun a d _ H' => E a d H') B)) :
    FnOk P w K mg base (L2N.CX P w) (k + 1) f fd ps (spF ⟨K, mg⟩ ps.length (fnF n B)) := by
  refine F.ok S (fun vs H Q E h => ?_) (fun cdv A outer s H vs Q E hr h => ?_)
  · obtain ⟨g, ws, hh, rh, rt, l, _⟩ := h
    rw [← rt.len]; exact l
  · refine ⟨_, hbody cdv A outer s H E hr, ?_⟩
    obtain ⟨g, ws, hh, rh, rt, l, p⟩ := h
    have rs := rt.start n
    refine ⟨g, ws.map some ++ List.replicate (n - ws.length) none, hh, rh, ?_, ?_⟩
    · rw [hn] at rs ⊢; exact rs
    · unfold fnF at p
      generalize B (ws.map some ++ List.replicate (n - ws.length) none) hh = r at p ⊢
      cases r with
      | no => exact p
      | brk => exact p.elim
      | cnt => exact p.elim
      | nx ρ h' =>
        intro g' H' σ' st rh' rs'
        obtain ⟨g2, s2, rh2, rv2⟩ := trim_ok rh st rh' (rt_non (c := ⟨K, mg⟩))
        exact p g2 H' .non s2 rh2 rv2
      | ret v h' =>
        intro g' H' u st rh' rv
        obtain ⟨g2, s2, rh2, rv2⟩ := trim_ok rh st rh' rv
        exact p g2 H' u s2 rh2 rv2
      | exc x ns vs ρ h' => exact fun g' H' σ' C d us st rh' rs' m e l rv => p g' H' C d us st rh' m e l rv
end
section
variable {X : Cx} {W : WX}
def eFn (n : Nat) (F : FF) (dws : List VV) (a : AF) : EF := fun ρ h => (a ρ h).bind fun vs h1 => if (vs ++ dws).length = n then F (vs ++ dws) h1 else .no
theorem RTs.append {c : Ct} {g : Gh} {H : Hp} : ∀ {vs ws : List VV} {us ys : List V}, RTs c g H vs us → RTs c g H ws ys → RTs c g H (vs ++ ws) (us ++ ys)
  | [], ws, us, ys, r, q => by rw [show us = [] from r]; exact q
  | x :: xs, ws, us, ys, r, q => by
    obtain ⟨u, r', rfl, a, b⟩ := r
    exact ⟨u, _, rfl, a, RTs.append b q⟩
theorem pst_call {σ : St} {g : Gh} {H : Hp} {Q : VK} {r : Res VV} (h : Pst (ct X) W σ (RT (ct X)) g H Q r) : Pst (ct X) (fun a d _ H' => WE W σ a d H') [] (RT (ct X)) g H Q r := by
  cases r with
  | no => exact h
  | ok => exact h
  | exc => exact h
/-- from arguments to a def's promise -/
theorem tCall_of {n : Nat} {F : FF} {fa : AF} {dws : List VV} {dvs : List V} (hd : ∀ g H, RTs (ct X) g H dws dvs) {σ : St} {H : Hp} {Q : VK} (h : tE (ct X) W (eFn n F dws fa) σ H Q) :
    tCallSD (spF (ct X) n F) dvs (WE W) (tA (ct X) W fa) σ H Q := by
  obtain ⟨g, ρ, h0, rh, rs, p⟩ := h
  refine ⟨g, ρ, h0, rh, rs, ?_⟩
  unfold eFn at p
  cases e : fa ρ h0 with
  | no => rw [e] at p; exact p
  | exc => rw [e] at p; exact p
  | ok vs h1 =>
    rw [e] at p
    simp only [Res.bind] at p
    by_cases hl : (vs ++ dws).length = n
    · rw [if_pos hl] at p
      intro g' H' us st rh' rts
      exact ⟨g', vs ++ dws, h1, rh', RTs.append rts (hd g' H'), hl, pst_call (Pst.step st p)⟩
    · rw [if_neg hl] at p; exact p.elim
theorem j_call {k n : Nat} {f : Addr} {fd : FuncData} {ps : List Str} {Fm : FF} {dvs : List V} {dws : List VV} {ds : List Value} {x : Str} {p pos : Pos} {e : Expr} {es : List Expr} {fa : AF}
    (F : FnOk X.prog X.w X.K X.mg X.base (L2N.CX X.prog X.w) k f fd ps (spF (ct X) n Fm)) (hr : Room k X.A) (hg : Gl X x) (hm : X.mg x = some (.ref f)) (hk : PySem.W.keepIn X.K (.ref f) = true) (hb : Binds X.K fd ps ds) (hd : Vals dvs ds) (rd : ∀ g H, RTs (ct X) g H dws dvs) (tk : L2N.Takes X W)
    (ha : PA X (e :: es) (tA (ct X) W fa)) (hdb : (x == ("__debug__" : Str)) = false := by decide) (he : starEach (e :: es) X.env = (false, eval e X.env) :: starEach es X.env := by rfl) (hpl : (backTo pos (starEach es X.env)).any (·.1) = false := by rfl) :
    PE X (.Call (.Name x p) (e :: es) [] pos) (tE (ct X) W (eFn n Fm dws fa)) :=
  PE.mono (pe_callSD (E := WE W) F hr hg hm hk hb hd (fun σ => L2N.passAt tk σ) ha hdb he hpl) fun σ H Q h => tCall_of rd h
/-! more statements -/
theorem js_setLc {i : Nat} {y : Str} {py : Pos} {elt tg iter : Expr} {ifs : List Expr} {scope : Scope} {own : List (Str × Nat)} {pos spos : Pos} {it : AF} {g : TG} {b : VV → VSt → Option VSt} {ft : TF} {fe : EF} (hc : X.calm = true) (hN : X.N.Nodup) (hy : X.N[i]? = some y) (hyl : X.env.scope.names.lookup y = some .local)
    (hsw : swapsWith (.ListComp elt [⟨tg, iter, ifs, 0⟩] scope pos) (some (.Name y py)) spos.line X.env = pure true) (hi : PI X tg iter (tI (ct X) W it)) (ok : BlkOk X.N X.env.scope scope own)
    (hg : ∀ (s : Shared) (H : Hp) (C : Addr) (cl : List (Str × Addr)) (fp : List Addr), PG (X.blk s H scope (compEnvC scope cl C X.env) fp) tg g) (pat : PatOk X.K g b (own.map (·.2)))
    (ht : ∀ (s : Shared) (H : Hp) (C : Addr) (cl : List (Str × Addr)) (fp : List Addr), PTs (X.blk s H scope (compEnvC scope cl C X.env) fp) ifs (tT (ct X) W0 ft))
    (he : ∀ (s : Shared) (H : Hp) (C : Addr) (cl : List (Str × Addr)) (fp : List Addr), PE (X.blk s H scope (compEnvC scope cl C X.env) fp) elt (tE (ct X) W0 fe)) (hs : ∀ x, foldedSetIterable iter X.env x = pure x := by intro _; rfl) :
    PS X (.Assign [.Name y py] (.ListComp elt [⟨tg, iter, ifs, 0⟩] scope pos) spos) (tS (ct X) W (sSet i (eLc (own.map (·.2)) it b ft fe))) :=
  PS.mono (ps_setLc hc hN hy hyl hsw hi ok hg ht he hs) fun D σ H ⟨g, ρ, h, rh, rs, p⟩ => by
    refine tLc_of (mk := fun vs h => .ok (.lst vs) h) pat mk_lst (show tE (ct X) W (eLc (own.map (·.2)) it b ft fe) σ H _ from ⟨g, ρ, h, rh, rs, (Pst.st (R := RT (ct X)) rs p).imp fun u H1 ⟨g1, v, h1, st, rh1, rs1, rv1, p1⟩ => ?_⟩)
    exact p1 g1 H1 _ .refl rh1 (rs1.set rv1 i)
def sPar (i j : Nat) (a : AF) : SF := fun ρ h => (a ρ h).st ρ fun vs h1 => match vs with
  | [v, w] => .nx ((ρ.set i (some v)).set j (some w)) h1
  | _ => .no
def sPar3 (i j l : Nat) (a : AF) : SF := fun ρ h => (a ρ h).st ρ fun vs h1 => match vs with
  | [u, v, w] => .nx (((ρ.set i (some u)).set j (some v)).set l (some w)) h1
  | _ => .no
/-! a root that is a list: written, read as data -/
def setI (h : VH) (o i v : VV) : Option VH := match o, i with
  | .obj n, .int k => match h[n]? with
    | some (.fl xs) => match ixN xs.length k with
      | some j => if v.isObj = true then none else some (h.set n (.fl (xs.set j v)))
      | none => none
    | _ => none
  | _, _ => none
theorem setI_ok {c : Ct} {g : Gh} {h h' : VH} {H : Hp} {o i v : VV} {uo ui uv : V} (rh : RH c g h H) (ro : RT c g H o uo) (ri : RT c g H i ui) (rv : RT c g H v uv) (e : setI h o i v = some h') (Q : Hp → Prop) (k : ∀ H', Stp g H g H' → RH c g h' H' → Q H') : rSetL uo ui uv H Q := by
  unfold setI at e
  split at e
  · rename_i n kk
    split at e
    · rename_i xs en
      split at e
      · rename_i j ej
        split at e
        · cases e
        · rename_i ov
          cases e
          obtain ⟨a, ea, eo⟩ := ro
          have hro := rh.at' n _ a en ea
          obtain ⟨nz, us, hl, rvs⟩ := hro
          have nk : ¬ g.kp a := fun z => (rh.kd a z).2 (List.mem_of_getElem? ea)
          have st : Stp g H g (upd H a (.lst (us.set j uv))) := Stp.wr (c := c) nz nk (fun ys z => by rw [hl] at z; cases z)
          refine ⟨a, us, kk, j, eo, int_get ri, hl, by rw [← rvs.len]; exact ej, k _ st (rh.wr ea nz (fun ys z => by rw [hl] at z; cases z) ?_)⟩
          exact ⟨nz, _, upd_same, st.rvs (RVs.set (rv.rv (by simpa using ov)) rvs)⟩
      · cases e
    · cases e
  · cases e
def sSetI (o i e : EF) : SF := fun ρ h => (e ρ h).st ρ fun v h1 => (o ρ h1).st ρ fun ov h2 => (i ρ h2).st ρ fun iv h3 => match setI h3 ov iv v with
  | some h4 => .nx ρ h4
  | none => .no
theorem js_setI {o i e : Expr} {fo fi fe : EF} {pos pos' : Pos} (he : PE X e (tE (ct X) W fe)) (ho : PE X o (tE (ct X) W fo)) (hi : PE X i (tE (ct X) W fi))
    (ha : ∀ v, assign (.Subscript o i pos') X.env v = (do
      let ov ← holding [v] (eval o X.env)
      let iv ← holding [v, ov] (eval i X.env)
      standAt pos'
      holding [v, ov, iv] (setItem ov iv v)
      release [v, ov, iv] []) := by intro _; rfl)
    (hs : swapsWithSole [.Subscript o i pos'] e pos.line X.env = pure false := by rfl) (hw : swappedStores [.Subscript o i pos'] e X.env = pure none := by rfl) (h1 : (assignEach [.Subscript o i pos'] X.env).map (·.2) = [assign (.Subscript o i pos') X.env] := by rfl) :
    PS X (.Assign [.Subscript o i pos'] e pos) (tS (ct X) W (sSetI fo fi fe)) :=
  PS.mono (ps_asg he (pg_sub ho hi set_list ha) hs hw h1) fun D σ H ⟨g, ρ, h, rh, rs, p⟩ => by
    refine ⟨g, ρ, h, rh, rs, (Pst.st (R := RT (ct X)) rs p).imp fun u H1 ⟨g1, v, h1, st, rh1, rs1, rv1, p1⟩ => ?_⟩
    refine ⟨g1, ρ, h1, rh1, rs1, (Pst.st (R := RT (ct X)) rs1 p1).imp fun u2 H2 ⟨g2, ov, h2, st2, rh2, rs2, rv2, p2⟩ => ?_⟩
    refine ⟨g2, ρ, h2, rh2, rs2, (Pst.st (R := RT (ct X)) rs2 p2).imp fun u3 H3 ⟨g3, iv, h3, st3, rh3, rs3, rv3, p3⟩ => ?_⟩
    cases e : setI h3 ov iv v with
    | none => rw [e] at p3; exact p3.elim
    | some h4 =>
      rw [e] at p3
      exact setI_ok rh3 (rv2.stp st3) rv3 ((rv1.stp st2).stp st3) e _ fun H' st' rh' => p3 g3 H' σ st' rh' (rs3.stp st')
def appV (h2 : VH) (ov v : VV) : Res VV := match ov with
    | .obj n => match h2[n]? with
      | some (.fl xs) => if xs.length ≥ SZ then .no else if v.isObj = true then .ok .non (h2.set n (.lo (xs ++ [v]))) else .ok .non (h2.set n (.fl (xs ++ [v])))
      | some (.lo xs) => if xs.length ≥ SZ then .no else .ok .non (h2.set n (.lo (xs ++ [v])))
      | _ => .no
    | _ => .no
theorem RTs.app {c : Ct} {g : Gh} {H : Hp} : ∀ {vs ws : List VV} {us ys : List V}, RTs c g H vs us → RTs c g H ws ys → RTs c g H (vs ++ ws) (us ++ ys)
  | [], ws, us, ys, h, k => by rw [show us = [] from h]; exact k
  | x :: xs, ws, us, ys, h, k => by
    obtain ⟨u, r, rfl, a, b⟩ := h
    exact ⟨u, _, rfl, a, RTs.app b k⟩
theorem RTs.one {c : Ct} {g : Gh} {H : Hp} {v : VV} {u : V} (q : RT c g H v u) : RTs c g H [v] [u] := ⟨u, [], rfl, q, rfl⟩
def eApp (o e : EF) : EF := fun ρ h => (o ρ h).bind fun ov h1 => match lstR h1 ov with
  | none => .no
  | some _ => (e ρ h1).bind fun v h2 => appV h2 ov v
theorem j_app {o e : Expr} {fo fe : EF} {apos cpos : Pos} (ho : PE X o (tE (ct X) W fo)) (ha : PE X e (tE (ct X) W fe)) (hs1 : starEach (e :: []) X.env = (false, eval e X.env) :: starEach [] X.env := by rfl)
    (hbase : attributeBase o "append" X.env (eval o X.env) = eval o X.env := by rfl)
    (hfew : ((backTo cpos (starEach [e] X.env)).all (fun x => !x.1) && (backToKw cpos (keywordEach [] X.env)).all (fun x => x.1.isSome)
      && decide ([e].length + ([] : List Keyword).length + (if ([] : List Keyword).isEmpty then 0 else 1) < 30)) = true := by rfl)
    (hline : (apos.endLine == cpos.line) = true := by rfl) (hplain : (backTo cpos (starEach [] X.env)).any (·.1) = false := by rfl) :
    PE X (.Call (.Attribute o "append" apos) [e] [] cpos) (tE (ct X) W (eApp fo fe)) :=
  PE.mono (pe_bm PySem.F.plainAttrs_list PySem.F.slot_list_append PySem.F.type_list_append mt_append ho (pa_cons ha pa_nil hs1) hbase hfew hline hs1 hplain) fun σ H Q ⟨g, ρ, h0, rh, rs, p⟩ => by
    refine ⟨g, ρ, h0, rh, rs, (Pst.bind (R := RT (ct X)) p).imp fun u H1 ⟨g1, ov, h1, st, rh1, rv1, p1⟩ => ?_⟩
    cases e : lstR h1 ov with
    | none => rw [e] at p1; exact p1.elim
    | some ys =>
      rw [e] at p1
      obtain ⟨a, us, eu, sq, rvs⟩ := lstR_get rh1 rv1 e
      refine ⟨by rw [eu]; exact .inl ⟨rfl, us, sq⟩, g1, ρ, h1, rh1, rs.stp st, (Pst.bind (R := RT (ct X)) p1).imp fun u2 H2 ⟨g2, v, h2, st2, rh2, rv2, p2⟩ => ?_⟩
      cases ov with
      | obj n =>
        unfold appV at p2
        simp only at p2
        obtain ⟨b, eb, eu'⟩ := rv1.stp st2
        split at p2
        · rename_i xs en
          obtain ⟨nz, ws, hl, rws⟩ := rh2.at' n _ b en eb
          split at p2
          · exact p2.elim
          · rename_i cc
            have nk : ¬ g2.kp b := fun z => (rh2.kd b z).2 (List.mem_of_getElem? eb)
            have nt : ∀ ys, H2 b ≠ some (.tup ys) := fun ys z => by rw [hl] at z; cases z
            have stw : Stp g2 H2 g2 (upd H2 b (.lst (ws ++ [u2]))) := Stp.wr (c := ct X) nz nk nt
            refine ⟨b, ws, u2, eu', rfl, hl, by rw [← rws.len]; exact SZ_lt (by omega), ?_⟩
            split at p2
            · exact p2 g2 _ .non stw (rh2.wr eb nz nt ⟨nz, _, upd_same, (RTs.app (RTs.of_rvs rws) (RTs.one rv2)).stp stw⟩) rt_non
            · rename_i cv
              exact p2 g2 _ .non stw (rh2.wr eb nz nt ⟨nz, _, upd_same, stw.rvs (RVs.app rws (RVs.one (rv2.rv (by simpa using cv))))⟩) rt_non
        · rename_i xs en
          obtain ⟨nz, ws, hl, rws⟩ := rh2.at' n _ b en eb
          split at p2
          · exact p2.elim
          · rename_i cc
            have nk : ¬ g2.kp b := fun z => (rh2.kd b z).2 (List.mem_of_getElem? eb)
            have nt : ∀ ys, H2 b ≠ some (.tup ys) := fun ys z => by rw [hl] at z; cases z
            have stw : Stp g2 H2 g2 (upd H2 b (.lst (ws ++ [u2]))) := Stp.wr (c := ct X) nz nk nt
            refine ⟨b, ws, u2, eu', rfl, hl, by rw [← rws.len]; exact SZ_lt (by omega), ?_⟩
            exact p2 g2 _ .non stw (rh2.wr eb nz nt ⟨nz, _, upd_same, (RTs.app rws (RTs.one rv2)).stp stw⟩) rt_non
        · exact p2.elim
      | _ => exact p2.elim
end
end J
namespace J
open PySem L2
/-! numbers -/
def isInt2 (f : Int → Int → Option VV) : Op2 := fun _ v w => match v, w with
  | .int i, .int j => f i j
  | _, _ => none
def opSub : Op2 := isInt2 fun i j => some (.int (i - j))
def opLt : Op2 := isInt2 fun i j => some (.bl (decide (i < j)))
def opLe : Op2 := isInt2 fun i j => some (.bl (decide (i ≤ j)))
def opGt : Op2 := isInt2 fun i j => some (.bl (decide (j < i)))
def opGe : Op2 := isInt2 fun i j => some (.bl (decide (j ≤ i)))
def opFdiv : Op2 := isInt2 fun i j => if j ≠ 0 ∧ j.natAbs.log2 < 9000 then some (.int (i.fdiv j)) else none
def opMod : Op2 := isInt2 fun i j => if j ≠ 0 then some (.int (i.fmod j)) else none
def mulOk (i j : Int) : Bool := decide (i.natAbs < 2 ^ 64) || decide (j.natAbs < 2 ^ 64) || decide (i.natAbs.log2 + j.natAbs.log2 < 1000000)
def opPow : Op2 := isInt2 fun i j => if 0 ≤ j ∧ j ≤ 1000000 ∧ i.natAbs < 2 ^ 64 then some (.int (i ^ j.toNat)) else none
def opNeg : Op1 := fun _ v => match v with
  | .int i => some (.int (-i))
  | _ => none
def opAdd : Op2 := fun h v w => match v, w with
  | .int i, .int j => some (.int (i + j))
  | .str x, .str y => if x.length + y.length ≤ SZ then some (.str (x ++ y)) else none
  | .tup xs, .tup ys => if xs.length + ys.length ≤ SZ then some (.tup (xs ++ ys)) else none
  | .lst xs, .lst ys => if xs.length + ys.length ≤ SZ then some (.lst (xs ++ ys)) else none
  | _, _ => none
def opMul : Op2 := fun h v w => match v, w with
  | .int i, .int j => if mulOk i j = true then some (.int (i * j)) else none
  | .lst xs, .int k => if -(2 ^ 63) ≤ k ∧ k < 2 ^ 63 ∧ xs.length * k.toNat ≤ SZ then some (.lst (List.replicate k.toNat xs).flatten) else none
  | _, _ => none
section
variable {X : Cx} {W : WX}
theorem opR_int {f : Value → Value → Sem Value} {C : Int → Int → Prop} {g : Int → Int → V} {o : Int → Int → Option VV} (h : OpR X f (rI C g)) (ho : ∀ i j r, o i j = some r → C i j ∧ ∀ c z H, RV c z H r (g i j)) : OpR X f (Rd2 (ct X) (isInt2 o)) :=
  OpR.imp h fun x y H Q ⟨g0, hh, v, w, r, rh, rv, rw', e, k⟩ => by
    unfold isInt2 at e
    split at e
    · rename_i i j
      obtain ⟨c, rr⟩ := ho i j r e
      exact ⟨i, j, int_get rv, int_get rw', c, k g0 H _ .refl rh (RT.of_rv (rr _ _ _))⟩
    · cases e
theorem opR_int0 {f : Value → Value → Sem Value} {g : Int → Int → V} {o : Int → Int → Option VV} (h : OpR X f (rI0 g)) (ho : ∀ i j r, o i j = some r → ∀ c z H, RV c z H r (g i j)) : OpR X f (Rd2 (ct X) (isInt2 o)) :=
  OpR.imp h fun x y H Q ⟨g0, hh, v, w, r, rh, rv, rw', e, k⟩ => by
    unfold isInt2 at e
    split at e
    · rename_i i j
      have rr := ho i j r e
      exact ⟨i, j, int_get rv, int_get rw', k g0 H _ .refl rh (RT.of_rv (rr _ _ _))⟩
    · cases e
theorem rv_int (c : Ct) (z : Addr → Prop) (H : Hp) (i : Int) : RV c z H (.int i) (.int i) := by rw [RV]
theorem rv_bl (c : Ct) (z : Addr → Prop) (H : Hp) (i : Bool) : RV c z H (.bl i) (.bl i) := by rw [RV]
theorem or_sub : OpR X (binaryOp .Sub) (Rd2 (ct X) opSub) := opR_int0 op_sub fun i j r e => by cases e; exact fun c z H => rv_int c z H _
theorem or_lt : OpR X (compareOp .Lt) (Rd2 (ct X) opLt) := opR_int0 op_lt fun i j r e => by cases e; exact fun c z H => rv_bl c z H _
theorem or_le : OpR X (compareOp .LtE) (Rd2 (ct X) opLe) := opR_int0 op_le fun i j r e => by cases e; exact fun c z H => rv_bl c z H _
theorem or_gt : OpR X (compareOp .Gt) (Rd2 (ct X) opGt) := opR_int0 op_gt fun i j r e => by cases e; exact fun c z H => rv_bl c z H _
theorem or_ge : OpR X (compareOp .GtE) (Rd2 (ct X) opGe) := opR_int0 op_ge fun i j r e => by cases e; exact fun c z H => rv_bl c z H _
theorem or_fdiv : OpR X (binaryOp .FloorDiv) (Rd2 (ct X) opFdiv) :=
  opR_int (C := fun _ j => j ≠ 0 ∧ j.natAbs.log2 < 9000) (g := fun i j => .int (i.fdiv j)) (opI fun _ _ _ _ _ _ _ hc q => PyProof.Rows.floordiv_int hc.1 q (.inl (PyProof.noPylong_of_log2 hc.2))) fun i j r e => by
    split at e
    · rename_i h; cases e; exact ⟨h, fun c z H => rv_int c z H _⟩
    · cases e
theorem or_mod : OpR X (binaryOp .Mod) (Rd2 (ct X) opMod) :=
  opR_int (C := fun _ j => j ≠ 0) (g := fun i j => .int (i.fmod j)) op_modN fun i j r e => by
    split at e
    · rename_i h; cases e; exact ⟨h, fun c z H => rv_int c z H _⟩
    · cases e
theorem or_pow : OpR X (binaryOp .Pow) (Rd2 (ct X) opPow) :=
  opR_int (C := CPow) (g := fun i j => .int (i ^ j.toNat)) op_pow fun i j r e => by
    split at e
    · rename_i h; cases e; exact ⟨h, fun c z H => rv_int c z H _⟩
    · cases e
theorem ur_neg : UnR X (unaryOp .USub) (Rd1 (ct X) opNeg) :=
  UnR.imp un_neg fun x H Q ⟨g0, hh, v, r, rh, rv, e, k⟩ => by
    cases v with
    | int i => cases e; exact ⟨i, int_get rv, k g0 H _ .refl rh rt_int⟩
    | _ => cases e
/-- new frozen data -/
theorem new_lst {c : Ct} {g : Gh} {h : VH} {H : Hp} {p : Addr} {xs : List VV} {us : List V} (rh : RH c g h H) (hp : H p = none) (rv : RVs c g.fz H xs us) :
    Stp g H (g.frz p) (upd H p (.lst us)) ∧ RH c (g.frz p) h (upd H p (.lst us)) ∧ RT c (g.frz p) (upd H p (.lst us)) (.lst xs) (.ref p) := by
  refine ⟨.new rh hp, rh.new hp, ?_⟩
  show RV _ _ _ _ _
  rw [RV]
  exact ⟨p, us, rfl, .inr rfl, upd_same, (Stp.new rh hp).rvs rv⟩
/-- () + t -/
theorem op_catT0 : OpR X (binaryOp .Add) (fun x y H Q => ∃ a b ys, x = .ref a ∧ y = .ref b ∧ SqT X.K H a [] ∧ SqT X.K H b ys ∧ Q (.ref b) H) := by
  intro pins s σ H x y v u Q I rx ry h
  obtain ⟨a, b, ys, e1, e2, ha, hb, q⟩ := h
  subst e1; subst e2
  cases rx
  cases ry
  obtain ⟨its, r, ht, hz⟩ := I.tuple ha
  obtain ⟨its2, r2, ht2, hz2⟩ := I.tuple hb
  have e0 : its = [] := by cases r; rfl
  subst e0
  obtain ⟨⟨cls, dd, data, sl⟩, ho, hc, n, hd⟩ := id ht
  obtain ⟨⟨cls2, dd2, data2, sl2⟩, ho2, hc2, n2, hd2⟩ := id ht2
  simp only at hc hd hc2 hd2
  subst hc hd hc2 hd2
  exact PySem.concat_meets ⟨_, ho, rfl⟩ ⟨_, ho2, rfl⟩ noFill_tuple_add seq_tuple_add PySem.F.slot_tuple_add PySem.F.entry_tuple_add (PySem.F.args_tuple_add_2 _ _)
      (PyProof.Rows.tuple_addW0 a b (([] : List Value).toArray) its2.toArray n n2 dd dd2 sl sl2 (by simp)) ⟨ho, ho2, ⟨.ref b, H, I, rfl, q⟩⟩
theorem or_add : OpR X (binaryOp .Add) (Rd2 (ct X) opAdd) :=
  OpR.imp (OpR.or op_add (OpR.or op_add_str (OpR.or op_catT (OpR.or op_cat op_catT0)))) fun x y H Q ⟨g, h, v, w, r, rh, rv, rw', e, k⟩ => by
    unfold opAdd at e
    split at e
    · cases e
      exact .inl ⟨_, _, int_get rv, int_get rw', k g H _ .refl rh rt_int⟩
    · split at e
      · rename_i hl
        cases e
        exact .inr (.inl ⟨_, _, str_get rv, str_get rw', SZ_le hl, k g H _ .refl rh rt_str⟩)
      · cases e
    · split at e
      · rename_i xs ys hl
        cases e
        obtain ⟨p, us, ep, sp, rp⟩ := tup_get rv
        obtain ⟨q, ws, eq, sq, rq⟩ := tup_get rw'
        by_cases hx : us = []
        · subst hx
          have hx' : xs = [] := List.length_eq_zero_iff.mp rp.len
          subst hx'
          exact .inr (.inr (.inr (.inr ⟨p, q, ws, ep, eq, sp.sq, sq.sq, by rw [← eq]; exact k g H y .refl rh (by rw [List.nil_append]; exact rw')⟩)))
        · refine .inr (.inr (.inl ⟨p, q, us, ws, ep, eq, sp.sq, sq.sq, hx, by rw [← rp.len, ← rq.len]; exact SZ_le hl, fun z => ?_, fun _ p hp => ?_⟩))
          · subst z
            have hy' : ys = [] := List.length_eq_zero_iff.mp rq.len
            subst hy'
            rw [← ep]
            exact k g H x .refl rh (by rw [List.append_nil]; exact rv)
          · obtain ⟨s1, s2, s3⟩ := pair_new rh hp (RVs.app rp rq)
            exact k _ _ _ s1 s2 s3
      · cases e
    · split at e
      · rename_i hl
        cases e
        obtain ⟨p, us, ep, sp, rp⟩ := lstOf'_get rh rv rfl
        obtain ⟨q, ws, eq, sq, rq⟩ := lstOf'_get rh rw' rfl
        refine .inr (.inr (.inr (.inl ⟨p, q, us, ws, ep, eq, sp, sq, by rw [← rp.len, ← rq.len]; exact SZ_le hl, fun p hp => ?_⟩)))
        obtain ⟨s1, s2, s3⟩ := new_lst rh hp (RVs.app rp rq)
        exact k _ _ _ s1 s2 s3
      · cases e
    · cases e
theorem RVs.rep {c : Ct} {z : Addr → Prop} {H : Hp} {xs : List VV} {us : List V} (r : RVs c z H xs us) : ∀ n : Nat, RVs c z H (List.replicate n xs).flatten (List.replicate n us).flatten
  | 0 => RVs.nil
  | n + 1 => by
    rw [List.replicate_succ, List.replicate_succ, List.flatten_cons, List.flatten_cons]
    exact RVs.app r (RVs.rep r n)
theorem mulOk_ok {i j : Int} (h : mulOk i j = true) : IntMulOk i j := by
  unfold mulOk at h
  rw [Bool.or_eq_true, Bool.or_eq_true] at h
  rcases h with (h | h) | h
  · have := of_decide_eq_true h
    exact IntMulOk.of_left (intBits_le_64 (by omega) (by omega))
  · have := of_decide_eq_true h
    exact IntMulOk.of_right (intBits_le_64 (by omega) (by omega))
  · exact CMulW.ok (show CMulW i j from of_decide_eq_true (p := i.natAbs.log2 + j.natAbs.log2 < 1000000) h)
theorem or_mul : OpR X (binaryOp .Mult) (Rd2 (ct X) opMul) :=
  OpR.imp (OpR.or (opI (C := fun i j => mulOk i j = true) (g := fun i j => i * j) fun _ _ _ _ _ _ _ hc q => PyProof.Rows.mul_int q (mulOk_ok hc)) op_rep) fun x y H Q ⟨g, h, v, w, r, rh, rv, rw', e, k⟩ => by
    unfold opMul at e
    split at e
    · split at e
      · rename_i hm
        cases e
        exact .inl ⟨_, _, int_get rv, int_get rw', hm, k g H _ .refl rh rt_int⟩
      · cases e
    · split at e
      · rename_i hl
        cases e
        obtain ⟨p, us, ep, sp, rp⟩ := lstOf'_get rh rv rfl
        refine .inr ⟨p, _, us, ep, int_get rw', sp, hl.1, hl.2.1, by rw [← rp.len]; exact SZ_le hl.2.2, fun p hp => ?_⟩
        obtain ⟨s1, s2, s3⟩ := new_lst rh hp (RVs.rep rp _)
        exact k _ _ _ s1 s2 s3
      · cases e
    · cases e
/-! places -/
def opIx : Op2 := fun h v w => match v, w with
  | .tup xs, .int i => atI xs i
  | .str z, .int i => if z.length ≤ SZ then (atI z.cps.toList i).map fun c => .str ⟨#[c]⟩ else none
  | v, .int i => (lstR h v).bind fun xs => atI xs i
  | _, _ => none
theorem atI_rv {c : Ct} {z : Addr → Prop} {H : Hp} {xs : List VV} {us : List V} {i : Int} {v : VV} (r : RVs c z H xs us) (e : atI xs i = some v) : ∃ u, atI us i = some u ∧ RV c z H v u := by
  unfold atI at e ⊢
  rw [← r.len]
  cases q : ixN xs.length i with
  | none => rw [q] at e; cases e
  | some j => rw [q] at e; exact r.get e
theorem RTs.get {c : Ct} {g : Gh} {H : Hp} : ∀ {vs : List VV} {us : List V} {i : Nat} {v : VV}, RTs c g H vs us → vs[i]? = some v → ∃ u, us[i]? = some u ∧ RT c g H v u
  | [], us, i, v, h, e => by simp at e
  | x :: xs, us, i, v, h, e => by
    obtain ⟨u, r, rfl, a, b⟩ := h
    cases i with
    | zero => simp at e; subst e; exact ⟨u, rfl, a⟩
    | succ i => exact RTs.get (i := i) b (by simpa using e)
theorem atI_rt {c : Ct} {g : Gh} {H : Hp} {xs : List VV} {us : List V} {i : Int} {v : VV} (r : RTs c g H xs us) (e : atI xs i = some v) : ∃ u, atI us i = some u ∧ RT c g H v u := by
  unfold atI at e ⊢
  rw [← r.len]
  cases q : ixN xs.length i with
  | none => rw [q] at e; cases e
  | some j => rw [q] at e; exact r.get e
theorem ir_ix : IxR X (Rd2 (ct X) opIx) :=
  IxR.imp ix_seq fun x y H Q ⟨g, h, v, w, r, rh, rv, rw', e, k⟩ => by
    unfold opIx at e
    split at e
    · rename_i xs i
      obtain ⟨p, us, ep, sp, rp⟩ := tup_get rv
      obtain ⟨u, eu, ru⟩ := atI_rv rp e
      exact .inr (.inl ⟨p, us, i, u, ep, int_get rw', sp.sq, eu, k g H u .refl rh (RT.of_rv ru)⟩)
    · rename_i z i
      split at e
      · rename_i hz
        cases q : atI z.cps.toList i with
        | none => rw [q] at e; cases e
        | some cc =>
          rw [q] at e
          cases e
          exact .inr (.inr ⟨z, i, cc, str_get rv, int_get rw', SZ_le hz, q, k g H _ .refl rh rt_str⟩)
      · cases e
    · rename_i v i _ _
      obtain ⟨xs, e1, e2⟩ := Option.bind_eq_some_iff.mp e
      obtain ⟨p, us, ep, sp, rp⟩ := lstR_get rh rv e1
      obtain ⟨u, eu, ru⟩ := atI_rt rp e2
      exact .inl ⟨p, us, i, u, ep, int_get rw', sp, eu, k g H u .refl rh ru⟩
    · cases e
/-! slices: data -/
abbrev POF := VSt → VH → Res (Option Int)
def RO_ (_ : Gh) (_ : Hp) (a b : Option Int) : Prop := b = a
abbrev tO (c : Ct) (W : WX) (f : POF) : TO := tG c W RO_ f
def oNone : POF := fun _ h => .ok none h
def oSome (a : EF) : POF := fun ρ h => (a ρ h).bind fun v h1 => match v with
  | .int i => .ok (some i) h1
  | _ => .no
theorem PO.mono {e : Option Expr} {t t' : TO} (h : PO X e t) (m : ∀ σ H Q, t' σ H Q → t σ H Q) : PO X e t' := ⟨fun pins s σ H Q I q => h.run pins s σ H Q I (m σ H Q q)⟩
theorem jo_none : PO X none (tO (ct X) W oNone) := PO.mono po_none fun σ H Q ⟨g, ρ, h, rh, rs, p⟩ => p g H none .refl rh rfl
theorem jo_some {e : Expr} {f : EF} (h : PE X e (tE (ct X) W f)) : PO X (some e) (tO (ct X) W (oSome f)) :=
  PO.mono (po_some h) fun σ H Q ⟨g, ρ, h0, rh, rs, p⟩ => by
    refine ⟨g, ρ, h0, rh, rs, (Pst.bind (R := RT (ct X)) p).imp fun u H1 ⟨g1, v, h1, st, rh1, rv1, p1⟩ => ?_⟩
    cases v with
    | int i => exact ⟨i, int_get rv1, p1 g1 H1 _ .refl rh1 rfl⟩
    | _ => exact p1.elim
def cut (xs : List VV) (lo hi : Option Int) : List VV := (xs.drop (HT.sIx xs.length 0 lo)).take (HT.sIx xs.length xs.length hi - HT.sIx xs.length 0 lo)
theorem RVs.cut {c : Ct} {z : Addr → Prop} {H : Hp} {xs : List VV} {us : List V} (r : RVs c z H xs us) (lo hi : Option Int) : RVs c z H (J.cut xs lo hi) (cutV us lo hi) := by
  unfold J.cut cutV
  rw [r.len]
  exact RVs.take _ (RVs.drop _ r)
abbrev OpS := VH → VV → Option Int → Option Int → Option VV
def opSl : OpS := fun h v lo hi => match v with
  | .tup xs => some (.tup (cut xs lo hi))
  | .str z => if z.length ≤ SZ then some (.str (cutS z lo hi)) else none
  | v => (lstOf h v).map fun xs => .lst (cut xs lo hi)
def eSl (op : OpS) (a : EF) (lo hi : POF) : EF := fun ρ h => (a ρ h).bind fun v h1 => (lo ρ h1).bind fun l h2 => (hi ρ h2).bind fun u h3 => lift (op h3 v l u) h3
theorem j_sl {e : Expr} {lo hi : Option Expr} {p2 pos : Pos} {fe : EF} {fl fh : POF} (he : PE X e (tE (ct X) W fe)) (hl : PO X lo (tO (ct X) W fl)) (hu : PO X hi (tO (ct X) W fh)) : PE X (.Subscript e (.Slice lo hi none p2) pos) (tE (ct X) W (eSl opSl fe fl fh)) :=
  PE.mono (pe_slice (SlR.or sl_list (SlR.or sl_tupA sl_str)) he hl hu) fun σ H Q ⟨g, ρ, h0, rh, rs, p⟩ => by
    refine ⟨g, ρ, h0, rh, rs, (Pst.bind (R := RT (ct X)) p).imp fun u H1 ⟨g1, v, h1, st, rh1, rv1, p1⟩ => ?_⟩
    refine ⟨g1, ρ, h1, rh1, rs.stp st, (Pst.bind (R := RO_) p1).imp fun l H2 ⟨g2, l', h2, st2, rh2, el, p2⟩ => ?_⟩
    cases el
    refine ⟨g2, ρ, h2, rh2, (rs.stp st).stp st2, (Pst.bind (R := RO_) p2).imp fun l2 H3 ⟨g3, l2', h3, st3, rh3, el2, p3⟩ => ?_⟩
    cases el2
    have rv3 := (rv1.stp st2).stp st3
    unfold lift at p3
    cases er : opSl h3 v l l2 with
    | none => rw [er] at p3; exact p3.elim
    | some r =>
      rw [er] at p3
      unfold opSl at er
      split at er
      · cases er
        obtain ⟨p, us, ep, sp, rp⟩ := tup_get rv3
        refine .inr (.inl ⟨p, us, ep, sp.sq, fun hw => ?_, fun hne p hp => ?_⟩)
        · rw [← rp.len] at hw
          unfold J.cut at p3
          rw [hw.1, hw.2, List.drop_zero, Nat.sub_zero, List.take_length] at p3
          rw [← ep]
          exact p3 g3 H3 _ .refl rh3 rv3
        · obtain ⟨s1, s2, s3⟩ := pair_new rh3 hp (RVs.cut rp l l2)
          exact p3 _ _ _ s1 s2 s3
      · split at er
        · rename_i hz
          cases er
          exact .inr (.inr ⟨_, str_get rv3, SZ_le hz, p3 g3 H3 _ .refl rh3 rt_str⟩)
        · cases er
      · obtain ⟨xs, e1, e2⟩ := Option.map_eq_some_iff.mp er
        cases e2
        obtain ⟨p, us, ep, sp, rp⟩ := lstOf_get rh3 rv3 e1
        refine .inl ⟨p, us, ep, sp, fun p hp => ?_⟩
        obtain ⟨s1, s2, s3⟩ := new_lst rh3 hp (RVs.cut rp l l2)
        exact p3 _ _ _ s1 s2 s3
/-! == of data -/
mutual
def toD : VV → PyData
  | .non => .none
  | .bl b => .bool b
  | .int i => .int i
  | .str x => .str x
  | .tup xs => .tuple (toDs xs)
  | .lst xs => .list (toDs xs)
  | _ => .none
def toDs : List VV → List PyData
  | [] => []
  | x :: xs => toD x :: toDs xs
end
mutual
def isD : VV → Bool
  | .non => true
  | .bl _ => true
  | .int _ => true
  | .str _ => true
  | .tup xs => isDs xs
  | .lst xs => isDs xs
  | _ => false
def isDs : List VV → Bool
  | [] => true
  | x :: xs => isD x && isDs xs
end
mutual
theorem dp_of {c : Ct} {z : Addr → Prop} {H : Hp} : ∀ (v : VV) (u : V), RV c z H v u → isD v = true → Dp c.K H u (toD v)
  | .non, u, r, _ => by rw [RV] at r; subst r; rw [toD]; exact .non
  | .bl b, u, r, _ => by rw [RV] at r; subst r; rw [toD]; exact .bl b
  | .int b, u, r, _ => by rw [RV] at r; subst r; rw [toD]; exact .int b
  | .str b, u, r, _ => by rw [RV] at r; subst r; rw [toD]; exact .str b
  | .tup xs, u, r, d => by
    rw [RV] at r
    obtain ⟨p, us, e, t, q⟩ := r
    subst e
    rw [toD]
    rw [isD] at d
    exact .tup t.sq (dps_of xs us q d)
  | .lst xs, u, r, d => by
    rw [RV] at r
    obtain ⟨p, us, e, _, t, q⟩ := r
    subst e
    rw [toD]
    rw [isD] at d
    exact .lst (SqL.of t) (dps_of xs us q d)
  | .scr _, _, _, d => by rw [isD] at d <;> first | exact (Bool.false_ne_true d).elim | simp
  | .dT _ _, _, _, d => by rw [isD] at d <;> first | exact (Bool.false_ne_true d).elim | simp
  | .dK _ _, _, _, d => by rw [isD] at d <;> first | exact (Bool.false_ne_true d).elim | simp
  | .ins _ _ _, _, _, d => by rw [isD] at d <;> first | exact (Bool.false_ne_true d).elim | simp
  | .obj _, _, _, d => by rw [isD] at d <;> first | exact (Bool.false_ne_true d).elim | simp
  | .glb _, _, _, d => by rw [isD] at d <;> first | exact (Bool.false_ne_true d).elim | simp
  | .ty _, _, _, d => by rw [isD] at d <;> first | exact (Bool.false_ne_true d).elim | simp
theorem dps_of {c : Ct} {z : Addr → Prop} {H : Hp} : ∀ (vs : List VV) (us : List V), RVs c z H vs us → isDs vs = true → DpAll c.K H us (toDs vs)
  | [], us, r, _ => by rw [RVs] at r; subst r; rw [toDs]; exact .nil
  | x :: xs, us, r, d => by
    rw [RVs] at r
    obtain ⟨u, q, e, a, b⟩ := r
    subst e
    rw [isDs, Bool.and_eq_true] at d
    rw [toDs]
    exact .cons (dp_of x u a d.1) (dps_of xs q b d.2)
end
theorem noObj {v : VV} (h : isD v = true) : v.isObj = false := by
  cases v with
  | obj n => simp [isD] at h
  | _ => rfl
/-- == : scalars of one kind, else data -/
def eqD (v w : VV) : Option Bool := match v, w with
  | .int i, .int j => some (decide (i = j))
  | .str i, .str j => some (decide (i = j))
  | .bl i, .bl j => some (decide (i = j))
  | v, w => if isD v = true ∧ isD w = true ∧ SeqAt.shaped (toD v) = true ∧ SeqAt.shaped (toD w) = true then some (PyData.eqv (toD v) (toD w)) else none
def opEq : Op2 := fun _ v w => (eqD v w).map .bl
def opNe : Op2 := fun _ v w => (eqD v w).map fun b => .bl (!b)
theorem eqD_cases {c : Ct} {g : Gh} {H : Hp} {v w : VV} {x y : V} {b : Bool} (rv : RT c g H v x) (rw' : RT c g H w y) (e : eqD v w = some b) :
    (scal x y = true ∧ decide (x = y) = b) ∨ ∃ d e, Dp c.K H x d ∧ Dp c.K H y e ∧ SeqAt.shaped d = true ∧ SeqAt.shaped e = true ∧ PyData.eqv d e = b := by
  unfold eqD at e
  split at e
  · cases e
    rw [int_get rv, int_get rw']
    exact .inl ⟨rfl, by rw [dec_int, Bool.beq_eq_decide_eq]⟩
  · cases e
    rw [str_get rv, str_get rw']
    exact .inl ⟨rfl, by rw [dec_str, Bool.beq_eq_decide_eq]⟩
  · cases e
    rw [bl_get rv, bl_get rw']
    exact .inl ⟨rfl, by rw [dec_bl, Bool.beq_eq_decide_eq]⟩
  · split at e
    · rename_i hd
      cases e
      have n1 : v.isObj = false := noObj hd.1
      have n2 : w.isObj = false := noObj hd.2.1
      exact .inr ⟨_, _, dp_of _ _ (rv.rv n1) hd.1, dp_of _ _ (rw'.rv n2) hd.2.1, hd.2.2.1, hd.2.2.2, rfl⟩
    · cases e
theorem or_eq {k : Nat} (hr : Room k X.A) : OpR X (compareOp .Eq) (Rd2 (ct X) opEq) :=
  OpR.imp (OpR.or op_eq (op_eqD hr.units)) fun x y H Q ⟨g, h, v, w, r, rh, rv, rw', e, kk⟩ => by
    obtain ⟨b, e1, e2⟩ := Option.map_eq_some_iff.mp e
    cases e2
    rcases eqD_cases rv rw' e1 with ⟨q1, q2⟩ | ⟨d, e, q1, q2, q3, q4, q5⟩
    · exact .inl ⟨q1, by rw [q2]; exact kk g H _ .refl rh rt_bl⟩
    · exact .inr ⟨d, e, q1, q2, q3, q4, by rw [q5]; exact kk g H _ .refl rh rt_bl⟩
theorem or_ne {k : Nat} (hr : Room k X.A) : OpR X (compareOp .NotEq) (Rd2 (ct X) opNe) :=
  OpR.imp (OpR.or op_ne (op_neD hr.units)) fun x y H Q ⟨g, h, v, w, r, rh, rv, rw', e, kk⟩ => by
    obtain ⟨b, e1, e2⟩ := Option.map_eq_some_iff.mp e
    cases e2
    rcases eqD_cases rv rw' e1 with ⟨q1, q2⟩ | ⟨d, e, q1, q2, q3, q4, q5⟩
    · exact .inl ⟨q1, by rw [q2]; exact kk g H _ .refl rh rt_bl⟩
    · exact .inr ⟨d, e, q1, q2, q3, q4, by rw [q5]; exact kk g H _ .refl rh rt_bl⟩
/-- is None -/
def opIsN : Op2 := fun _ v w => match v, w with
  | .non, .non => some (.bl true)
  | v, .non => if v.isObj = true then none else some (.bl false)
  | _, _ => none
def opNotN : Op2 := fun _ v w => match v, w with
  | .non, .non => some (.bl false)
  | v, .non => if v.isObj = true then none else some (.bl true)
  | _, _ => none
theorem non_dec {c : Ct} {g : Gh} {H : Hp} {v : VV} {u : V} (rv : RT c g H v u) (no : v.isObj = false) (nn : v ≠ .non) : decide (u = V.non) = false := by
  have r := rv.rv no
  refine decide_eq_false fun z => ?_
  subst z
  cases v with
  | non => exact nn rfl
  | bl b => rw [RV] at r; cases r
  | int b => rw [RV] at r; cases r
  | str b => rw [RV] at r; cases r
  | tup xs => rw [RV] at r; obtain ⟨p, us, e, _⟩ := r; cases e
  | lst xs => rw [RV] at r; obtain ⟨p, us, e, _⟩ := r; cases e
  | scr xs => rw [RV] at r; obtain ⟨p, us, e, _⟩ := r; cases e
  | dT ks xs => rw [RV] at r; obtain ⟨p, us, e, _⟩ := r; cases e
  | dK ks xs => rw [RV] at r; obtain ⟨p, us, e, _⟩ := r; cases e
  | ins a ks xs => rw [RV] at r; obtain ⟨p, C, dx, us, e, _⟩ := r; cases e
  | obj n => cases no
  | glb x => rw [RV] at r; obtain ⟨a, _, e⟩ := r; cases e
  | ty n => rw [RV] at r; cases r
  | raw n => rw [RV] at r; cases r
theorem or_isN : OpR X (compareOp .Is) (Rd2 (ct X) opIsN) :=
  OpR.imp op_isN fun x y H Q ⟨g, h, v, w, r, rh, rv, rw', e, kk⟩ => by
    unfold opIsN at e
    split at e
    · cases e
      refine ⟨non_get rw', ?_⟩
      rw [non_get rv]
      exact kk g H _ .refl rh rt_bl
    · split at e
      · cases e
      · rename_i nv no
        cases e
        refine ⟨non_get rw', ?_⟩
        rw [non_dec rv (by simpa using no) (fun z => nv z)]
        exact kk g H _ .refl rh rt_bl
    · cases e
/-! calls of built-ins -/
def cLen : OpN := fun h vs => match vs with
  | [.tup xs] => some (.int xs.length)
  | [.str z] => if z.length ≤ SZ then some (.int z.length) else none
  | [v] => (lstR h v).map fun xs => .int xs.length
  | _ => none
theorem cr_len : CallR X (.builtin "len") (RdN (ct X) cLen) :=
  CallR.imp (CallR.or call_len_seq call_len_str) fun xs H Q ⟨g, h, vs, r, rh, rv, e, kk⟩ => by
    unfold cLen at e
    split at e
    · cases e
      obtain ⟨u, q, rfl, a, rfl⟩ := rv
      obtain ⟨p, us, ep, sp, rp⟩ := tup_get a
      exact .inl ⟨p, us, by rw [ep], .inr sp.sq, by rw [← rp.len]; exact kk g H _ .refl rh rt_int⟩
    · split at e
      · rename_i hz
        cases e
        obtain ⟨u, q, rfl, a, rfl⟩ := rv
        exact .inr ⟨_, by rw [str_get a], SZ_le hz, kk g H _ .refl rh rt_int⟩
      · cases e
    · obtain ⟨ys, e1, e2⟩ := Option.map_eq_some_iff.mp e
      cases e2
      obtain ⟨u, q, rfl, a, rfl⟩ := rv
      obtain ⟨p, us, ep, sp, rp⟩ := lstR_get rh a e1
      exact .inl ⟨p, us, by rw [ep], .inl sp, by rw [← rp.len]; exact kk g H _ .refl rh rt_int⟩
    · cases e
def intsOf : List VV → Option (List Int)
  | [] => some []
  | .int i :: xs => (intsOf xs).map fun l => i :: l
  | _ => none
def blsOf : List VV → Option (List Bool)
  | [] => some []
  | .bl i :: xs => (blsOf xs).map fun l => i :: l
  | _ => none
def strsOf : List VV → Option (List Str)
  | [] => some []
  | .str i :: xs => (strsOf xs).map fun l => i :: l
  | _ => none
theorem intsOf_rv {c : Ct} {z : Addr → Prop} {H : Hp} : ∀ {vs : List VV} {us : List V} {ns : List Int}, RVs c z H vs us → intsOf vs = some ns → us = ns.map V.int
  | [], us, ns, r, e => by cases e; rw [RVs] at r; exact r
  | x :: xs, us, ns, r, e => by
    rw [RVs] at r
    obtain ⟨u, q, rfl, a, b⟩ := r
    cases x with
    | int i =>
      rw [intsOf] at e
      obtain ⟨l, e1, rfl⟩ := Option.map_eq_some_iff.mp e
      rw [RV] at a
      rw [a, intsOf_rv b e1]; rfl
    | _ => simp [intsOf] at e
theorem blsOf_rv {c : Ct} {z : Addr → Prop} {H : Hp} : ∀ {vs : List VV} {us : List V} {ns : List Bool}, RVs c z H vs us → blsOf vs = some ns → us = ns.map V.bl
  | [], us, ns, r, e => by cases e; rw [RVs] at r; exact r
  | x :: xs, us, ns, r, e => by
    rw [RVs] at r
    obtain ⟨u, q, rfl, a, b⟩ := r
    cases x with
    | bl i =>
      rw [blsOf] at e
      obtain ⟨l, e1, rfl⟩ := Option.map_eq_some_iff.mp e
      rw [RV] at a
      rw [a, blsOf_rv b e1]; rfl
    | _ => simp [blsOf] at e
theorem strsOf_rv {c : Ct} {z : Addr → Prop} {H : Hp} : ∀ {vs : List VV} {us : List V} {ns : List Str}, RVs c z H vs us → strsOf vs = some ns → us = ns.map V.str
  | [], us, ns, r, e => by cases e; rw [RVs] at r; exact r
  | x :: xs, us, ns, r, e => by
    rw [RVs] at r
    obtain ⟨u, q, rfl, a, b⟩ := r
    cases x with
    | str i =>
      rw [strsOf] at e
      obtain ⟨l, e1, rfl⟩ := Option.map_eq_some_iff.mp e
      rw [RV] at a
      rw [a, strsOf_rv b e1]; rfl
    | _ => simp [strsOf] at e
def cAll : OpN := fun h vs => match vs with
  | [v] => (lstOf h v).bind fun xs => (blsOf xs).map fun ns => .bl (ns.all id)
  | _ => none
theorem cr_allJ (hc : X.calm = true) : CallR X (.builtin "all") (RdN (ct X) cAll) :=
  CallR.imp (cr_all hc) fun xs H Q ⟨g, h, vs, r, rh, rv, e, kk⟩ => by
    unfold cAll at e
    split at e
    · obtain ⟨ys, e1, e2⟩ := Option.bind_eq_some_iff.mp e
      obtain ⟨ns, e3, e4⟩ := Option.map_eq_some_iff.mp e2
      cases e4
      obtain ⟨u, q, rfl, a, rfl⟩ := rv
      obtain ⟨p, us, ep, sp, rp⟩ := lstOf_get rh a e1
      exact ⟨p, ns, by rw [ep], by rw [← blsOf_rv rp e3]; exact sp, kk g H _ .refl rh rt_bl⟩
    · cases e
/-- list(..), tuple(..): data -/
def cList : OpN := fun h vs => match vs with
  | [.tup xs] => some (.lst xs)
  | [v] => (lstOf h v).map fun xs => .lst xs
  | _ => none
theorem cr_listJ : CallR X (.type "list") (RdN (ct X) cList) :=
  CallR.imp call_list_of fun xs H Q ⟨g, h, vs, r, rh, rv, e, kk⟩ => by
    unfold cList at e
    split at e
    · cases e
      obtain ⟨u, q, rfl, a, rfl⟩ := rv
      obtain ⟨p, us, ep, sp, rp⟩ := tup_get a
      refine ⟨p, us, by rw [ep], .inr sp.sq, fun l hl => ?_⟩
      obtain ⟨s1, s2, s3⟩ := new_lst rh hl rp
      exact kk _ _ _ s1 s2 s3
    · obtain ⟨ys, e1, e2⟩ := Option.map_eq_some_iff.mp e
      cases e2
      obtain ⟨u, q, rfl, a, rfl⟩ := rv
      obtain ⟨p, us, ep, sp, rp⟩ := lstOf_get rh a e1
      refine ⟨p, us, by rw [ep], .inl sp, fun l hl => ?_⟩
      obtain ⟨s1, s2, s3⟩ := new_lst rh hl rp
      exact kk _ _ _ s1 s2 s3
    · cases e
def cTuple : OpN := fun h vs => match vs with
  | [.tup xs] => some (.tup xs)
  | [v] => (lstOf h v).map fun xs => .tup xs
  | _ => none
theorem cr_tupleJ : CallR X (.type "tuple") (RdN (ct X) cTuple) :=
  CallR.imp call_tuple_of fun xs H Q ⟨g, h, vs, r, rh, rv, e, kk⟩ => by
    unfold cTuple at e
    split at e
    · cases e
      obtain ⟨u, q, rfl, a, rfl⟩ := rv
      obtain ⟨p, us, ep, sp, rp⟩ := tup_get a
      exact ⟨p, us, by rw [ep], .inr ⟨sp.sq, by rw [← ep]; exact kk g H u .refl rh a⟩⟩
    · obtain ⟨ys, e1, e2⟩ := Option.map_eq_some_iff.mp e
      cases e2
      obtain ⟨u, q, rfl, a, rfl⟩ := rv
      obtain ⟨p, us, ep, sp, rp⟩ := lstOf_get rh a e1
      refine ⟨p, us, by rw [ep], .inl ⟨sp, fun l hl => ?_⟩⟩
      obtain ⟨s1, s2, s3⟩ := pair_new rh hl rp
      exact kk _ _ _ s1 s2 s3
    · cases e
/-- isinstance(x, T), T a built-in type, x data -/
def tyN (h : VH) : VV → Option String
  | .non => some "NoneType"
  | .bl _ => some "bool"
  | .int _ => some "int"
  | .str _ => some "str"
  | .tup _ => some "tuple"
  | .lst _ => some "list"
  | .obj n => match h[n]? with
    | some (.fl _) => some "list"
    | some (.fzn (.lst _)) => some "list"
    | _ => none
  | _ => none
theorem tyX_of {c : Ct} {g : Gh} {h : VH} {H : Hp} {v : VV} {u : V} {n : String} (rh : RH c g h H) (rv : RT c g H v u) (e : tyN h v = some n) : TyX c.K H u (.type n) := by
  cases v with
  | non => cases e; rw [non_get rv]; exact .base .non
  | bl b => cases e; rw [bl_get rv]; exact .base (.bl b)
  | int b => cases e; rw [int_get rv]; exact .base (.int b)
  | str b => cases e; rw [str_get rv]; exact .base (.str b)
  | tup xs =>
    cases e
    obtain ⟨p, us, ep, sp, rp⟩ := tup_get rv
    rw [ep]
    exact .base (.tup sp)
  | lst xs =>
    cases e
    obtain ⟨p, us, ep, sp, rp⟩ := lstOf'_get (xs := xs) rh rv rfl
    rw [ep]
    exact .base (.lst sp)
  | obj m =>
    unfold tyN at e
    simp only at e
    split at e
    · rename_i xs en
      cases e
      obtain ⟨p, us, ep, sp, rp⟩ := lstOf'_get (xs := xs) rh rv (by unfold lstOf'; simp only [en])
      rw [ep]
      exact .base (.lst sp)
    · rename_i xs en
      cases e
      obtain ⟨p, us, ep, sp, rp⟩ := lstOf'_get (xs := xs) rh rv (by unfold lstOf'; simp only [en])
      rw [ep]
      exact .base (.lst sp)
    · cases e
  | _ => cases e
def cIsi : OpN := fun h vs => match vs with
  | [v, .ty b] => (tyN h v).bind fun a => (kitB a b).map .bl
  | _ => none
theorem cr_isi : CallR X (.builtin "isinstance") (RdN (ct X) cIsi) :=
  CallR.imp call_isi fun xs H Q ⟨g, h, vs, r, rh, rv, e, kk⟩ => by
    unfold cIsi at e
    split at e
    · obtain ⟨n, e1, e2⟩ := Option.bind_eq_some_iff.mp e
      obtain ⟨b, e3, e4⟩ := Option.map_eq_some_iff.mp e2
      cases e4
      obtain ⟨u, q, rfl, a, u2, q2, rfl, a2, rfl⟩ := rv
      exact ⟨u, u2, _, _, b, rfl, by rw [ty_get a2]; exact .ty _, tyX_of rh a e1, kit_ty e3, kk g H _ .refl rh rt_bl⟩
    · cases e
end
end J
namespace J
open PySem L2
theorem fn_no {P : Program} {w : World} {K : PySem.W.Frag} {mg : Str → Option Value} {base : Heap} {CX : CXT} {k n : Nat} {f : Addr} {fd : FuncData} {ps : List Str} {c : Ct} (hn : ps.length = n) : FnOk P w K mg base CX k f fd ps (spF c n (fun _ _ => .no)) :=
  ⟨fun vs H Q E h => by obtain ⟨_, _, _, _, _, _, p⟩ := h; exact p.elim, fun A outer s H args us vs Q E hr e0 hb r hsp => by obtain ⟨_, _, _, _, _, _, p⟩ := hsp; exact p.elim⟩
/-- a law's end: its own function gives True at every script -/
theorem law_sp {K : PySem.W.Frag} {mg : Str → Option Value} {F : FF} {H : Hp} {a : Addr} {ns : List Int} (hT : LTab ⟨K, mg⟩ H) (hS : SqL K H a (ns.map V.int)) (hF : ∃ h', F [.scr (ns.map VV.int)] [] = .ok (.bl true) h') :
    spF ⟨K, mg⟩ 1 F [.ref a] H (fun v _ => v = .bl true) fun _ _ _ => False := by
  obtain ⟨h', e⟩ := hF
  have rvs : ∀ (z : Addr → Prop) (l : List Int), RVs ⟨K, mg⟩ z H (l.map VV.int) (l.map V.int) := by
    intro z l
    induction l with
    | nil => exact RVs.nil
    | cons x xs ih => exact RVs.cons (rv_int _ _ _ _) ih
  have fin : ∀ g : Gh, RH ⟨K, mg⟩ g [] H → RT ⟨K, mg⟩ g H (.scr (ns.map VV.int)) (.ref a) → spF ⟨K, mg⟩ 1 F [.ref a] H (fun v _ => v = .bl true) fun _ _ _ => False := by
    intro g rh rt
    refine ⟨g, [.scr (ns.map VV.int)], [], rh, ⟨.ref a, [], rfl, rt, rfl⟩, rfl, ?_⟩
    rw [e]
    exact fun g' H' u st rh' rv => bl_get rv
  rcases hS with hS | hS
  · refine fin ⟨[], fun q => q = a, fun _ => False⟩ ⟨rfl, List.nodup_nil, fun n o a h => by simp at h, fun q z => ?_, fun q z => z.elim, fun q z => z.elim, hT, fun q z ps y => ?_⟩ ?_
    · have z' : q = a := z
      subst z'
      rcases hS with hS | ⟨o, hS⟩
      · exact ⟨_, hS⟩
      · exact ⟨_, hS⟩
    · have z' : q = a := z.elim id (fun z => z.elim)
      subst z'
      rcases hS with hS | ⟨o, hS⟩ <;> (rw [hS] at y; cases y)
    · show RV _ _ _ _ _
      rw [RV]
      exact ⟨a, _, rfl, .inl ⟨rfl, hS⟩, rvs _ _⟩
  · refine fin ⟨[], fun _ => False, fun _ => False⟩ ⟨rfl, List.nodup_nil, fun n o a h => by simp at h, fun q z => z.elim, fun q z => z.elim, fun q z => z.elim, hT, fun q z => z.elim False.elim False.elim⟩ ?_
    show RV _ _ _ _ _
    rw [RV]
    exact ⟨a, _, rfl, .inr hS, rvs _ _⟩
theorem cx_no {P : Program} {w : World} {l : List Env} {H : Hp} {s : Shared} {e : Value} {s' : Shared} (h : L2N.CX P w l H s (fun _ _ _ => False) e s') : False := by
  obtain ⟨_, _, _, _, _, _, _, _, _, _, _, _, z⟩ := h
  exact z.elim
section
variable {X : Cx} {W : WX}
theorem j_globI {x : Str} {i : Int} {pos : Pos} (hg : Gl X x) (h : ∃ t, X.mg x = some (.int i t)) (hd : (x == ("__debug__" : Str)) = false := by decide) : PE X (.Name x pos) (tE (ct X) W (eC (.int i))) := by
  obtain ⟨t, h⟩ := h
  exact j_c (pe_glob (v := .int i) hg h ⟨t, rfl⟩ hd) fun _ _ => rt_int
theorem j_globS {x : Str} {i : Str} {pos : Pos} (hg : Gl X x) (h : ∃ t, X.mg x = some (.str i t)) (hd : (x == ("__debug__" : Str)) = false := by decide) : PE X (.Name x pos) (tE (ct X) W (eC (.str i))) := by
  obtain ⟨t, h⟩ := h
  exact j_c (pe_glob (v := .str i) hg h ⟨t, rfl⟩ hd) fun _ _ => rt_str
theorem j_ty {x : Str} {n : String} {pos : Pos} (hg : Gl X x) (hm : X.mg x = none) (hv : bootBuiltins x = some (.type n)) (hn : x ≠ "__name__" := by decide) (hd : (x == ("__debug__" : Str)) = false := by decide) : PE X (.Name x pos) (tE (ct X) W (eC (.ty n))) :=
  j_c (pe_bltn (v := .ty n) hg hm hv rfl hn hd) fun _ _ => rt_ty
theorem jt_chain {o o' : Op2} {op op' : CmpOp} {a b c : Expr} {fa fb fc : EF} {pos : Pos} (ho : OpR X (compareOp op) (Rd2 (ct X) o)) (ho' : OpR X (compareOp op') (Rd2 (ct X) o')) (ha : PE X a (tE (ct X) W fa)) (hb : PE X b (tE (ct X) W fb)) (hc : PE X c (tE (ct X) W fc))
    (hm : lastMarks [op, op'] [b, c] = false := by with_unfolding_all rfl) : PT X (.Compare a [op, op'] [b, c] pos) (tT (ct X) W (tVal (eChain o o' fa fb fc))) :=
  PT.mono (pt_chain ho ho' ha hb hc hm) fun σ H Q h => by
    have := tChain_of (tVal_of h)
    exact this
end
open PyProof.Rows (envOfC)
/-- a def of the text -/
structure Dn (K : PySem.W.Frag) (mg : Str → Option Value) (x : Str) (st : Stmt) (dvs : List V) (kws : List (Str × V)) (f : Addr) (fd : FuncData) : Prop where
  F : FunD K x x (defArgs st) (defBody st) (defScope st) dvs kws f fd
  m : mg x = some (.ref f)
/-- a def that may be called with the last arguments left out (dws in their place) -/
structure Ok1 (P : Program) (w : World) (K : PySem.W.Frag) (mg : Str → Option Value) (base : Heap) (k : Nat) (x : Str) (n : Nat) (dws : List VV) (Fm : FF) : Prop where
  ex : ∃ (f : Addr) (fd : FuncData) (ps : List Str) (dvs : List V) (ds : List Value), mg x = some (.ref f) ∧ PySem.W.keepIn K (.ref f) = true ∧ FnOk P w K mg base (L2N.CX P w) k f fd ps (spF ⟨K, mg⟩ n Fm) ∧ Binds K fd ps ds ∧ Vals dvs ds ∧ ∀ g H, RTs ⟨K, mg⟩ g H dws dvs
section
variable {X : Cx} {W : WX}
theorem j_callO {k n : Nat} {Fm : FF} {dws : List VV} {x : Str} {p pos : Pos} {e : Expr} {es : List Expr} {fa : AF} (O : Ok1 X.prog X.w X.K X.mg X.base k x n dws Fm) (hr : Room k X.A) (hg : Gl X x) (tk : L2N.Takes X W)
    (ha : PA X (e :: es) (tA (ct X) W fa)) (hdb : (x == ("__debug__" : Str)) = false := by decide) (he : starEach (e :: es) X.env = (false, eval e X.env) :: starEach es X.env := by rfl) (hpl : (backTo pos (starEach es X.env)).any (·.1) = false := by rfl) :
    PE X (.Call (.Name x p) (e :: es) [] pos) (tE (ct X) W (eFn n Fm dws fa)) := by
  obtain ⟨f, fd, ps, dvs, ds, h1, h2, h3, h4, h5, h6⟩ := O.ex
  exact j_call h3 hr hg h1 h2 h4 h5 h6 tk ha hdb he hpl
end
section
variable {P : Program} {w : World} {K : PySem.W.Frag} {mg : Str → Option Value} {base : Heap}
/-- every parameter is given -/
theorem ok_of {x : Str} {st : Stmt} {f : Addr} {fd : FuncData} {ps : List Str} {k m : Nat} {Fm : FF} (D : Dn K mg x st [] [] f fd) (hF : FnOk P w K mg base (L2N.CX P w) k f fd ps (spF ⟨K, mg⟩ m Fm))
    (hb : ∀ (kV doc pm : Value) (an : Option Addr) (cdv ct : Value) (us : List Value), us.length = ps.length → bindArgs (PySem.W.fnOf x x (defArgs st) (defBody st) (defScope st) .none kV doc pm an cdv ct) ⟨us, []⟩ = pure (ps.zip us)) :
    Ok1 P w K mg base k x m [] Fm := by
  refine ⟨f, fd, ps, [], [], D.m, D.F.kp, hF, ?_, .nil, fun _ _ => rfl⟩
  obtain ⟨oc, od, dV, kV, doc, pm, an, cdv, ct, osl, e, lk, hcd, hD, _⟩ := D.F.ex
  subst e
  rcases hD with ⟨_, rfl⟩ | ⟨h, _⟩
  · exact .all (hb kV doc pm an cdv ct)
  · exact absurd rfl h
end
end J
namespace J
open PySem L2
/-! evaluation -/
/-- a step that is told, not seen through -/
theorem nr {α : Sort _} {a b : α} (h : a = b) : a = b := h
/-- a mark by which simp leaves a continuation alone -/
def Tg {γ : Type} (_ : γ) : Type := Unit
def tg {γ : Type} (k : γ) : Tg k := ()
section
variable {α β : Type}
def bnd (r : Res α) (k : α → VH → Res β) (_ : Tg k) : Res β := r.bind k
def sbd (r : Res α) (ρ : VSt) (k : α → VH → SR) (_ : Tg k) : SR := r.st ρ k
theorem bind_ok {a : α} {h : VH} {k : α → VH → Res β} : (Res.ok a h).bind k = k a h := nr rfl
theorem bnd_ok {a : α} {h : VH} {k : α → VH → Res β} {u : Tg k} : bnd (Res.ok a h) k u = k a h := nr rfl
theorem bnd_no {k : α → VH → Res β} {u : Tg k} : bnd (Res.no : Res α) k u = .no := nr rfl
theorem bnd_exc {x ns vs h} {k : α → VH → Res β} {u : Tg k} : bnd (Res.exc x ns vs h : Res α) k u = .exc x ns vs h := nr rfl
theorem sbd_ok {a : α} {h : VH} {ρ : VSt} {k : α → VH → SR} {u : Tg k} : sbd (Res.ok a h) ρ k u = k a h := nr rfl
theorem sbd_no {ρ : VSt} {k : α → VH → SR} {u : Tg k} : sbd (Res.no : Res α) ρ k u = .no := nr rfl
theorem sbd_exc {x ns vs h} {ρ : VSt} {k : α → VH → SR} {u : Tg k} : sbd (Res.exc x ns vs h : Res α) ρ k u = .exc x ns vs ρ h := nr rfl
end
def getV (o : Option (Option VV)) (h : VH) : Res VV := match o with
  | some (some v) => .ok v h
  | _ => .no
theorem getV_some {v : VV} {h : VH} : getV (some (some v)) h = .ok v h := nr rfl
section
variable {ρ : VSt} {h : VH}
theorem a_var {i : Nat} : eVar i ρ h = getV (ρ[i]?) h := nr rfl
theorem a_c {v : VV} : eC v ρ h = .ok v h := nr rfl
theorem a_bin {op a b} : eBin op a b ρ h = bnd (a ρ h) (fun v h1 => bnd (b ρ h1) (fun w h2 => lift (op h2 v w) h2) (tg _)) (tg _) := nr rfl
theorem a_un {op a} : eUn op a ρ h = bnd (a ρ h) (fun v h1 => lift (op h1 v) h1) (tg _) := nr rfl
theorem a_call {op a} : eCall op a ρ h = bnd (a ρ h) (fun v h1 => lift (op h1 v) h1) (tg _) := nr rfl
theorem a_nil : aNil ρ h = .ok [] h := nr rfl
theorem a_cons {a b} : aCons a b ρ h = bnd (a ρ h) (fun v h1 => bnd (b ρ h1) (fun w h2 => .ok (v :: w) h2) (tg _)) (tg _) := nr rfl
theorem a_tup {a} : eTup a ρ h = bnd (a ρ h) (fun vs h1 => if vs.any VV.isObj = true ∨ vs.length > SZ then .no else .ok (.tup vs) h1) (tg _) := nr rfl
theorem a_lst {a} : eLst a ρ h = bnd (a ρ h) (fun vs h1 => if vs.any VV.isObj = true ∨ vs.length > SZ then .no else .ok (.lst vs) h1) (tg _) := nr rfl
theorem a_lstO {a} : eLstO a ρ h = bnd (a ρ h) (fun vs h1 => if vs.any VV.isObj = true ∨ vs.length > SZ then .no else .ok (.obj h1.length) (h1 ++ [.fl vs])) (tg _) := nr rfl
def toB (v : VV) (h : VH) : Res Bool := match v with
  | .bl b => .ok b h
  | _ => .no
theorem toB_bl {b : Bool} : toB (.bl b) h = .ok b h := nr rfl
theorem a_val {a} : tVal a ρ h = bnd (a ρ h) toB (tg _) := nr rfl
theorem a_tand {a b} : tAnd a b ρ h = bnd (a ρ h) (fun v h1 => if v = true then b ρ h1 else .ok false h1) (tg _) := nr rfl
theorem a_tor {a b} : tOr a b ρ h = bnd (a ρ h) (fun v h1 => if v = true then .ok true h1 else b ρ h1) (tg _) := nr rfl
theorem a_tnot {a} : tNot a ρ h = bnd (a ρ h) (fun v h1 => .ok (!v) h1) (tg _) := nr rfl
theorem a_if {c a b} : eIf c a b ρ h = bnd (c ρ h) (fun v h1 => if v = true then a ρ h1 else b ρ h1) (tg _) := nr rfl
theorem a_and {a b} : eAnd a b ρ h = bnd (bnd (a ρ h) toB (tg _)) (fun v h1 => if v = true then b ρ h1 else .ok (.bl false) h1) (tg _) := by
  unfold eAnd
  cases a ρ h with
  | no => rfl
  | exc => rfl
  | ok v h1 =>
    simp only [bind_ok]
    cases v with
    | bl b => cases b <;> rfl
    | _ => rfl
theorem a_or {a b} : eOr a b ρ h = bnd (bnd (a ρ h) toB (tg _)) (fun v h1 => if v = true then .ok (.bl true) h1 else b ρ h1) (tg _) := by
  unfold eOr
  cases a ρ h with
  | no => rfl
  | exc => rfl
  | ok v h1 =>
    simp only [bind_ok]
    cases v with
    | bl b => cases b <;> rfl
    | _ => rfl
theorem a_not {a} : eNot a ρ h = bnd (bnd (a ρ h) toB (tg _)) (fun v h1 => .ok (.bl (!v)) h1) (tg _) := by
  unfold eNot
  cases a ρ h with
  | no => rfl
  | exc => rfl
  | ok v h1 =>
    simp only [bind_ok]
    cases v <;> rfl
theorem a_chain {o o' a b c} : eChain o o' a b c ρ h = bnd (a ρ h) (fun v h1 => bnd (b ρ h1) (fun w h2 => bnd (bnd (lift (o h2 v w) h2) toB (tg _)) (fun k h3 => if k = true then bnd (c ρ h3) (fun z h4 => lift (o' h4 w z) h4) (tg _) else .ok (.bl false) h3) (tg _)) (tg _)) (tg _) := by
  unfold eChain
  congr 1; funext v h1; congr 1; funext w h2
  cases lift (o h2 v w) h2 with
  | no => rfl
  | exc => rfl
  | ok v h1 =>
    simp only [bind_ok]
    cases v with
    | bl b => cases b <;> rfl
    | _ => rfl
theorem a_fn {n F dws a} : eFn n F dws a ρ h = bnd (a ρ h) (fun vs h1 => if (vs ++ dws).length = n then F (vs ++ dws) h1 else .no) (tg _) := nr rfl
def afterL (r : Res (List VV)) : Res VV := match r with
  | .ok vs h2 => .ok (.lst vs) h2
  | _ => .no
theorem afterL_ok {vs : List VV} : afterL (.ok vs h) = .ok (.lst vs) h := nr rfl
theorem a_lc' {own it b t e} : eLc own it b t e ρ h = bnd (it ρ h) (fun xs h1 => if xs.length > SZ then .no else afterL (lcGo b t e (wp ρ own) xs h1)) (tg _) := nr rfl
def seqItems (v : VV) (h : VH) : Res (List VV) := match v with
  | .lst xs => .ok xs h
  | .scr xs => .ok xs h
  | .tup xs => .ok xs h
  | .str s => .ok (signs s) h
  | _ => .no
theorem seqI_lst {xs} : seqItems (.lst xs) h = .ok xs h := nr rfl
theorem seqI_scr {xs} : seqItems (.scr xs) h = .ok xs h := nr rfl
theorem seqI_tup {xs} : seqItems (.tup xs) h = .ok xs h := nr rfl
theorem seqI_str {s} : seqItems (.str s) h = .ok (signs s) h := nr rfl
theorem a_seq {f} : iSeq f ρ h = bnd (f ρ h) seqItems (tg _) := nr rfl
def rng1 (v : VV) (h : VH) : Res (List VV) := match v with
  | .int n => if -(2 ^ 62) ≤ n ∧ n < 2 ^ 62 then .ok (rngV 0 n.toNat) h else .no
  | _ => .no
theorem rng1_int {n : Int} : rng1 (.int n) h = if -(2 ^ 62) ≤ n ∧ n < 2 ^ 62 then .ok (rngV 0 n.toNat) h else .no := nr rfl
theorem a_range1 {f} : iRange1 f ρ h = bnd (f ρ h) rng1 (tg _) := nr rfl
def zipI (v : List VV) (h : VH) : Res (List VV) := match v with
  | [.lst xs, .lst ys] => .ok (prs xs ys) h
  | [.tup xs, .tup ys] => .ok (prs xs ys) h
  | _ => .no
theorem zip_lst {xs ys} : zipI [.lst xs, .lst ys] h = .ok (prs xs ys) h := nr rfl
theorem zip_tup {xs ys} : zipI [.tup xs, .tup ys] h = .ok (prs xs ys) h := nr rfl
theorem a_zip {f} : iZip f ρ h = bnd (f ρ h) zipI (tg _) := nr rfl
theorem a_sl {op a lo hi} : eSl op a lo hi ρ h = bnd (a ρ h) (fun v h1 => bnd (lo ρ h1) (fun l h2 => bnd (hi ρ h2) (fun u h3 => lift (op h3 v l u) h3) (tg _)) (tg _)) (tg _) := nr rfl
theorem a_onone : oNone ρ h = .ok none h := nr rfl
def toO (v : VV) (h : VH) : Res (Option Int) := match v with
  | .int i => .ok (some i) h
  | _ => .no
theorem toO_int {i : Int} : toO (.int i) h = .ok (some i) h := nr rfl
theorem a_osome {a} : oSome a ρ h = bnd (a ρ h) toO (tg _) := nr rfl
theorem lift_some {v : VV} : lift (some v) h = .ok v h := nr rfl
theorem lift_none : lift none h = .no := nr rfl
/-! statements -/
def SR.thn (r : SR) (b : SF) (_ : Tg b) : SR := match r with
  | .nx ρ' h' => b ρ' h'
  | r => r
theorem thn_nx {b : SF} {u : Tg b} : (SR.nx ρ h).thn b u = b ρ h := nr rfl
theorem thn_ret {v} {b : SF} {u : Tg b} : (SR.ret v h).thn b u = .ret v h := nr rfl
theorem thn_no {b : SF} {u : Tg b} : (SR.no).thn b u = .no := nr rfl
theorem thn_brk {b : SF} {u : Tg b} : (SR.brk ρ h).thn b u = .brk ρ h := nr rfl
theorem thn_cnt {b : SF} {u : Tg b} : (SR.cnt ρ h).thn b u = .cnt ρ h := nr rfl
theorem thn_exc {x ns vs} {b : SF} {u : Tg b} : (SR.exc x ns vs ρ h).thn b u = .exc x ns vs ρ h := nr rfl
theorem s_skip : sSkip ρ h = .nx ρ h := nr rfl
theorem s_seq {a b} : sSeq a b ρ h = (a ρ h).thn b (tg _) := nr rfl
theorem s_set {i e} : sSet i e ρ h = sbd (e ρ h) ρ (fun v h1 => .nx (ρ.set i (some v)) h1) (tg _) := nr rfl
def onx (o : Option VSt) (h : VH) : SR := match o with
  | some ρ' => .nx ρ' h
  | none => .no
theorem onx_some {ρ' : VSt} : onx (some ρ') h = .nx ρ' h := nr rfl
theorem s_asg {e b} : sAsg e b ρ h = sbd (e ρ h) ρ (fun v h1 => onx (b v ρ) h1) (tg _) := nr rfl
theorem s_if {c a b} : sIf c a b ρ h = sbd (c ρ h) ρ (fun k h1 => if k = true then a ρ h1 else b ρ h1) (tg _) := nr rfl
theorem s_ret {e} : sRet e ρ h = sbd (e ρ h) ρ (fun v h1 => .ret v h1) (tg _) := nr rfl
theorem s_expr {e} : sExpr e ρ h = sbd (e ρ h) ρ (fun v h1 => .nx ρ h1) (tg _) := nr rfl
theorem s_for {it b body} : sFor it b body ρ h = sbd (it ρ h) ρ (fun xs h1 => forGo b body xs ρ h1) (tg _) := nr rfl
theorem for_nil {b body} : forGo b body [] ρ h = .nx ρ h := by rw [forGo]
def SR.trn (r : SR) (k : VSt → VH → SR) (_ : Tg k) : SR := match r with
  | .nx ρ2 h2 => k ρ2 h2
  | .cnt ρ2 h2 => k ρ2 h2
  | .brk ρ2 h2 => .nx ρ2 h2
  | r => r
theorem trn_nx {k} {u : Tg k} : (SR.nx ρ h).trn k u = k ρ h := nr rfl
def obd (o : Option VSt) (k : VSt → SR) (_ : Tg k) : SR := match o with
  | none => .no
  | some ρ' => k ρ'
theorem obd_some {ρ' : VSt} {k} {u : Tg k} : obd (some ρ') k u = k ρ' := nr rfl
theorem for_cons {b body x xs} : forGo b body (x :: xs) ρ h = obd (b x ρ) (fun ρ' => (body ρ' h).trn (fun ρ2 h2 => forGo b body xs ρ2 h2) (tg _)) (tg _) := by
  rw [forGo]
  cases b x ρ with
  | none => rfl
  | some ρ' => simp only [obd]; cases body ρ' h <;> rfl
theorem bNm_ap {i v} : bNm i v ρ = some (ρ.set i (some v)) := nr rfl
theorem s_par {i j a} : sPar i j a ρ h = sbd (a ρ h) ρ (fun vs h1 => match vs with
  | [v, w] => .nx ((ρ.set i (some v)).set j (some w)) h1
  | _ => .no) (tg _) := nr rfl
theorem s_par3 {i j l a} : sPar3 i j l a ρ h = sbd (a ρ h) ρ (fun vs h1 => match vs with
  | [u, v, w] => .nx (((ρ.set i (some u)).set j (some v)).set l (some w)) h1
  | _ => .no) (tg _) := nr rfl
def onh (o : Option VH) (ρ : VSt) : SR := match o with
  | some h4 => .nx ρ h4
  | none => .no
theorem onh_some {h' : VH} : onh (some h') ρ = .nx ρ h' := nr rfl
theorem s_setI {o i e} : sSetI o i e ρ h = sbd (e ρ h) ρ (fun v h1 => sbd (o ρ h1) ρ (fun ov h2 => sbd (i ρ h2) ρ (fun iv h3 => onh (setI h3 ov iv v) ρ) (tg _)) (tg _)) (tg _) := nr rfl
def SR.fin (r : SR) (n : Nat) : Res VV := match r with
  | .nx _ h' => .ok .non (trim n .non h')
  | .ret v h' => .ok v (trim n v h')
  | .exc x ns vs _ h' => .exc x ns vs h'
  | _ => .no
theorem fn_ap {k B vs} : fnF k B vs h = (B (vs.map some ++ List.replicate (k - vs.length) none) h).fin h.length := by
  unfold fnF
  cases B (vs.map some ++ List.replicate (k - vs.length) none) h <;> rfl
theorem fin_ret {v n} (hl : h.length = n) : (SR.ret v h).fin n = .ok v h := by
  show Res.ok v (trim n v h) = _
  unfold trim
  rw [if_pos hl]
/-! operations -/
theorem o_sub {i j : Int} : opSub h (.int i) (.int j) = some (.int (i - j)) := nr rfl
theorem o_add {i j : Int} : opAdd h (.int i) (.int j) = some (.int (i + j)) := nr rfl
theorem o_lt {i j : Int} : opLt h (.int i) (.int j) = some (.bl (decide (i < j))) := nr rfl
theorem o_le {i j : Int} : opLe h (.int i) (.int j) = some (.bl (decide (i ≤ j))) := nr rfl
theorem o_gt {i j : Int} : opGt h (.int i) (.int j) = some (.bl (decide (j < i))) := nr rfl
theorem o_ge {i j : Int} : opGe h (.int i) (.int j) = some (.bl (decide (j ≤ i))) := nr rfl
theorem o_neg {i : Int} : opNeg h (.int i) = some (.int (-i)) := nr rfl
theorem o_eqI {i j : Int} : opEq h (.int i) (.int j) = some (.bl (decide (i = j))) := nr rfl
theorem o_neI {i j : Int} : opNe h (.int i) (.int j) = some (.bl (!decide (i = j))) := nr rfl
theorem o_eqB {i j : Bool} : opEq h (.bl i) (.bl j) = some (.bl (decide (i = j))) := nr rfl
theorem o_neB {i j : Bool} : opNe h (.bl i) (.bl j) = some (.bl (!decide (i = j))) := nr rfl
theorem o_eqS {i j : Str} : opEq h (.str i) (.str j) = some (.bl (decide (i = j))) := nr rfl
theorem o_fdiv {i j : Int} (h0 : j ≠ 0) (h1 : j.natAbs.log2 < 9000) : opFdiv h (.int i) (.int j) = some (.int (i.fdiv j)) := by
  show (if _ then _ else _) = _; rw [if_pos ⟨h0, h1⟩]
theorem o_mod {i j : Int} (h0 : j ≠ 0) : opMod h (.int i) (.int j) = some (.int (i.fmod j)) := by
  show (if _ then _ else _) = _; rw [if_pos h0]
theorem o_mul {i j : Int} (h0 : mulOk i j = true) : opMul h (.int i) (.int j) = some (.int (i * j)) := by
  show (if _ then _ else _) = _; rw [if_pos h0]
theorem o_pow {i j : Int} (h0 : 0 ≤ j ∧ j ≤ 1000000 ∧ i.natAbs < 2 ^ 64) : opPow h (.int i) (.int j) = some (.int (i ^ j.toNat)) := by
  show (if _ then _ else _) = _; rw [if_pos h0]
theorem o_mul_r {i j : Int} (h0 : j.natAbs < 18446744073709551616) : opMul h (.int i) (.int j) = some (.int (i * j)) := by
  refine o_mul ?_
  unfold mulOk
  rw [decide_eq_true (p := j.natAbs < 2 ^ 64) (by omega)]; simp
theorem o_mul_l {i j : Int} (h0 : i.natAbs < 18446744073709551616) : opMul h (.int i) (.int j) = some (.int (i * j)) := by
  refine o_mul ?_
  unfold mulOk
  rw [decide_eq_true (p := i.natAbs < 2 ^ 64) (by omega)]; simp
end
/-! loops by what holds -/
inductive F2 {α β : Type} (P : α → β → Prop) : List α → List β → Prop
  | nil : F2 P [] []
  | cons {a b as bs} : P a b → F2 P as bs → F2 P (a :: as) (b :: bs)
theorem F2.len {α β : Type} {P : α → β → Prop} {as : List α} {bs : List β} (h : F2 P as bs) : as.length = bs.length := by
  induction h with
  | nil => rfl
  | cons _ _ ih => simp [ih]
theorem for_inv {b : VV → VSt → Option VSt} {body : SF} (I : VSt → VH → Prop) : ∀ {xs : List VV} {ρ : VSt} {h : VH}, I ρ h → (∀ x ∈ xs, ∀ ρ h, I ρ h → ∃ ρ' ρ2 h2, b x ρ = some ρ' ∧ body ρ' h = .nx ρ2 h2 ∧ I ρ2 h2) → ∃ ρ2 h2, forGo b body xs ρ h = .nx ρ2 h2 ∧ I ρ2 h2
  | [], ρ, h, hi, _ => ⟨ρ, h, rfl, hi⟩
  | x :: xs, ρ, h, hi, hx => by
    obtain ⟨ρ', ρ2, h2, e1, e2, hi2⟩ := hx x List.mem_cons_self ρ h hi
    obtain ⟨ρ3, h3, e3, hi3⟩ := for_inv I (xs := xs) hi2 fun y hy => hx y (List.mem_cons_of_mem _ hy)
    refine ⟨ρ3, h3, ?_, hi3⟩
    rw [for_cons, e1, obd_some, e2, trn_nx, e3]
end J
namespace J
open PySem L2
theorem ix_root {h : VH} {n : Nat} {xs : List VV} {k : Int} (e : h[n]? = some (.fl xs)) : opIx h (.obj n) (.int k) = atI xs k := by
  unfold opIx
  simp only [lstR, lstOf, e, Option.bind_some]
theorem set_root {h : VH} {n : Nat} {xs : List VV} {k : Int} {j : Nat} {v : VV} (e : h[n]? = some (.fl xs)) (ej : ixN xs.length k = some j) (hv : v.isObj = false) : setI h (.obj n) (.int k) v = some (h.set n (.fl (xs.set j v))) := by
  unfold setI
  simp only [e, ej, hv, Bool.false_eq_true, if_false]
theorem get_set {h : VH} {n : Nat} {v : VO} (hn : n < h.length) : (h.set n v)[n]? = some v := List.getElem?_set_self hn
theorem lt_of_get {α : Type} {h : List α} {n : Nat} {v : α} (e : h[n]? = some v) : n < h.length := (List.getElem?_eq_some_iff.mp e).1
section
variable {a b c d e : VV}
theorem at5_0 : atI [a, b, c, d, e] 0 = some a := nr rfl
theorem at5_1 : atI [a, b, c, d, e] 1 = some b := nr rfl
theorem at5_2 : atI [a, b, c, d, e] 2 = some c := nr rfl
theorem at5_3 : atI [a, b, c, d, e] 3 = some d := nr rfl
theorem at5_4 : atI [a, b, c, d, e] 4 = some e := nr rfl
end
theorem x_lst {h : VH} {xs : List VV} {k : Int} : opIx h (.lst xs) (.int k) = atI xs k := nr rfl
theorem x_tup {h : VH} {xs : List VV} {k : Int} : opIx h (.tup xs) (.int k) = atI xs k := nr rfl
theorem len_lst {h : VH} {xs : List VV} : cLen h [.lst xs] = some (.int xs.length) := nr rfl
theorem len_tup {h : VH} {xs : List VV} : cLen h [.tup xs] = some (.int xs.length) := nr rfl
theorem list_lst {h : VH} {xs : List VV} : cList h [.lst xs] = some (.lst xs) := nr rfl
theorem list_tup {h : VH} {xs : List VV} : cList h [.tup xs] = some (.lst xs) := nr rfl
theorem tuple_lst {h : VH} {xs : List VV} : cTuple h [.lst xs] = some (.tup xs) := nr rfl
theorem atI_in {xs : List VV} {k : Nat} {v : VV} (e : xs[k]? = some v) : atI xs (k : Int) = some v := atI_nat e
end J
namespace J
open PySem L2
theorem kit_NoneType_list : kitB "NoneType" "list" = some false := by decide +kernel
theorem isi_NoneType_list {h : VH} : cIsi h [.non, .ty "list"] = some (.bl false) := by show ((kitB "NoneType" "list").map VV.bl) = _; rw [kit_NoneType_list]; rfl
theorem kit_NoneType_tuple : kitB "NoneType" "tuple" = some false := by decide +kernel
theorem isi_NoneType_tuple {h : VH} : cIsi h [.non, .ty "tuple"] = some (.bl false) := by show ((kitB "NoneType" "tuple").map VV.bl) = _; rw [kit_NoneType_tuple]; rfl
theorem kit_NoneType_bool : kitB "NoneType" "bool" = some false := by decide +kernel
theorem isi_NoneType_bool {h : VH} : cIsi h [.non, .ty "bool"] = some (.bl false) := by show ((kitB "NoneType" "bool").map VV.bl) = _; rw [kit_NoneType_bool]; rfl
theorem kit_NoneType_int : kitB "NoneType" "int" = some false := by decide +kernel
theorem isi_NoneType_int {h : VH} : cIsi h [.non, .ty "int"] = some (.bl false) := by show ((kitB "NoneType" "int").map VV.bl) = _; rw [kit_NoneType_int]; rfl
theorem kit_NoneType_str : kitB "NoneType" "str" = some false := by decide +kernel
theorem isi_NoneType_str {h : VH} : cIsi h [.non, .ty "str"] = some (.bl false) := by show ((kitB "NoneType" "str").map VV.bl) = _; rw [kit_NoneType_str]; rfl
theorem kit_bool_list : kitB "bool" "list" = some false := by decide +kernel
theorem isi_bool_list {h : VH} {b : Bool} : cIsi h [(.bl b), .ty "list"] = some (.bl false) := by show ((kitB "bool" "list").map VV.bl) = _; rw [kit_bool_list]; rfl
theorem kit_bool_tuple : kitB "bool" "tuple" = some false := by decide +kernel
theorem isi_bool_tuple {h : VH} {b : Bool} : cIsi h [(.bl b), .ty "tuple"] = some (.bl false) := by show ((kitB "bool" "tuple").map VV.bl) = _; rw [kit_bool_tuple]; rfl
theorem kit_bool_bool : kitB "bool" "bool" = some true := by decide +kernel
theorem isi_bool_bool {h : VH} {b : Bool} : cIsi h [(.bl b), .ty "bool"] = some (.bl true) := by show ((kitB "bool" "bool").map VV.bl) = _; rw [kit_bool_bool]; rfl
theorem kit_bool_int : kitB "bool" "int" = some true := by decide +kernel
theorem isi_bool_int {h : VH} {b : Bool} : cIsi h [(.bl b), .ty "int"] = some (.bl true) := by show ((kitB "bool" "int").map VV.bl) = _; rw [kit_bool_int]; rfl
theorem kit_bool_str : kitB "bool" "str" = some false := by decide +kernel
theorem isi_bool_str {h : VH} {b : Bool} : cIsi h [(.bl b), .ty "str"] = some (.bl false) := by show ((kitB "bool" "str").map VV.bl) = _; rw [kit_bool_str]; rfl
theorem kit_int_list : kitB "int" "list" = some false := by decide +kernel
theorem isi_int_list {h : VH} {i : Int} : cIsi h [(.int i), .ty "list"] = some (.bl false) := by show ((kitB "int" "list").map VV.bl) = _; rw [kit_int_list]; rfl
theorem kit_int_tuple : kitB "int" "tuple" = some false := by decide +kernel
theorem isi_int_tuple {h : VH} {i : Int} : cIsi h [(.int i), .ty "tuple"] = some (.bl false) := by show ((kitB "int" "tuple").map VV.bl) = _; rw [kit_int_tuple]; rfl
theorem kit_int_bool : kitB "int" "bool" = some false := by decide +kernel
theorem isi_int_bool {h : VH} {i : Int} : cIsi h [(.int i), .ty "bool"] = some (.bl false) := by show ((kitB "int" "bool").map VV.bl) = _; rw [kit_int_bool]; rfl
theorem kit_int_int : kitB "int" "int" = some true := by decide +kernel
theorem isi_int_int {h : VH} {i : Int} : cIsi h [(.int i), .ty "int"] = some (.bl true) := by show ((kitB "int" "int").map VV.bl) = _; rw [kit_int_int]; rfl
theorem kit_int_str : kitB "int" "str" = some false := by decide +kernel
theorem isi_int_str {h : VH} {i : Int} : cIsi h [(.int i), .ty "str"] = some (.bl false) := by show ((kitB "int" "str").map VV.bl) = _; rw [kit_int_str]; rfl
theorem kit_str_list : kitB "str" "list" = some false := by decide +kernel
theorem isi_str_list {h : VH} {x : Str} : cIsi h [(.str x), .ty "list"] = some (.bl false) := by show ((kitB "str" "list").map VV.bl) = _; rw [kit_str_list]; rfl
theorem kit_str_tuple : kitB "str" "tuple" = some false := by decide +kernel
theorem isi_str_tuple {h : VH} {x : Str} : cIsi h [(.str x), .ty "tuple"] = some (.bl false) := by show ((kitB "str" "tuple").map VV.bl) = _; rw [kit_str_tuple]; rfl
theorem kit_str_bool : kitB "str" "bool" = some false := by decide +kernel
theorem isi_str_bool {h : VH} {x : Str} : cIsi h [(.str x), .ty "bool"] = some (.bl false) := by show ((kitB "str" "bool").map VV.bl) = _; rw [kit_str_bool]; rfl
theorem kit_str_int : kitB "str" "int" = some false := by decide +kernel
theorem isi_str_int {h : VH} {x : Str} : cIsi h [(.str x), .ty "int"] = some (.bl false) := by show ((kitB "str" "int").map VV.bl) = _; rw [kit_str_int]; rfl
theorem kit_str_str : kitB "str" "str" = some true := by decide +kernel
theorem isi_str_str {h : VH} {x : Str} : cIsi h [(.str x), .ty "str"] = some (.bl true) := by show ((kitB "str" "str").map VV.bl) = _; rw [kit_str_str]; rfl
theorem kit_tuple_list : kitB "tuple" "list" = some false := by decide +kernel
theorem isi_tuple_list {h : VH} {xs : List VV} : cIsi h [(.tup xs), .ty "list"] = some (.bl false) := by show ((kitB "tuple" "list").map VV.bl) = _; rw [kit_tuple_list]; rfl
theorem kit_tuple_tuple : kitB "tuple" "tuple" = some true := by decide +kernel
theorem isi_tuple_tuple {h : VH} {xs : List VV} : cIsi h [(.tup xs), .ty "tuple"] = some (.bl true) := by show ((kitB "tuple" "tuple").map VV.bl) = _; rw [kit_tuple_tuple]; rfl
theorem kit_tuple_bool : kitB "tuple" "bool" = some false := by decide +kernel
theorem isi_tuple_bool {h : VH} {xs : List VV} : cIsi h [(.tup xs), .ty "bool"] = some (.bl false) := by show ((kitB "tuple" "bool").map VV.bl) = _; rw [kit_tuple_bool]; rfl
theorem kit_tuple_int : kitB "tuple" "int" = some false := by decide +kernel
theorem isi_tuple_int {h : VH} {xs : List VV} : cIsi h [(.tup xs), .ty "int"] = some (.bl false) := by show ((kitB "tuple" "int").map VV.bl) = _; rw [kit_tuple_int]; rfl
theorem kit_tuple_str : kitB "tuple" "str" = some false := by decide +kernel
theorem isi_tuple_str {h : VH} {xs : List VV} : cIsi h [(.tup xs), .ty "str"] = some (.bl false) := by show ((kitB "tuple" "str").map VV.bl) = _; rw [kit_tuple_str]; rfl
theorem kit_list_list : kitB "list" "list" = some true := by decide +kernel
theorem isi_list_list {h : VH} {xs : List VV} : cIsi h [(.lst xs), .ty "list"] = some (.bl true) := by show ((kitB "list" "list").map VV.bl) = _; rw [kit_list_list]; rfl
theorem kit_list_tuple : kitB "list" "tuple" = some false := by decide +kernel
theorem isi_list_tuple {h : VH} {xs : List VV} : cIsi h [(.lst xs), .ty "tuple"] = some (.bl false) := by show ((kitB "list" "tuple").map VV.bl) = _; rw [kit_list_tuple]; rfl
theorem kit_list_bool : kitB "list" "bool" = some false := by decide +kernel
theorem isi_list_bool {h : VH} {xs : List VV} : cIsi h [(.lst xs), .ty "bool"] = some (.bl false) := by show ((kitB "list" "bool").map VV.bl) = _; rw [kit_list_bool]; rfl
theorem kit_list_int : kitB "list" "int" = some false := by decide +kernel
theorem isi_list_int {h : VH} {xs : List VV} : cIsi h [(.lst xs), .ty "int"] = some (.bl false) := by show ((kitB "list" "int").map VV.bl) = _; rw [kit_list_int]; rfl
theorem kit_list_str : kitB "list" "str" = some false := by decide +kernel
theorem isi_list_str {h : VH} {xs : List VV} : cIsi h [(.lst xs), .ty "str"] = some (.bl false) := by show ((kitB "list" "str").map VV.bl) = _; rw [kit_list_str]; rfl
theorem all_true {h : VH} {n : Nat} : cAll h [.lst (List.replicate n (.bl true))] = some (.bl true) := by
  have : ∀ n, blsOf (List.replicate n (.bl true)) = some (List.replicate n true) := by
    intro n
    induction n with
    | zero => rfl
    | succ n ih => rw [List.replicate_succ, blsOf, ih]; rfl
  show ((blsOf (List.replicate n (.bl true))).map fun ns => VV.bl (ns.all id)) = _
  rw [this]
  simp
theorem lc_const {b : VV → VSt → Option VSt} {t : TF} {e : EF} {ρ : VSt} {h : VH} {v : VV} (hv : v.isObj = false) : ∀ {xs : List VV}, (∀ x ∈ xs, ∃ ρ', b x ρ = some ρ' ∧ t ρ' h = .ok true h ∧ e ρ' h = .ok v h) → lcGo b t e ρ xs h = .ok (List.replicate xs.length v) h
  | [], _ => rfl
  | x :: xs, hx => by
    obtain ⟨ρ', h1, h2, h3⟩ := hx x List.mem_cons_self
    rw [lcGo, h1]
    simp only [h2, bind_ok, h3, hv, Bool.false_eq_true, if_false, if_true, lc_const hv fun y hy => hx y (List.mem_cons_of_mem _ hy), List.length_cons, List.replicate_succ]
theorem prs_same : ∀ xs : List VV, prs xs xs = xs.map fun x => .tup [x, x]
  | [] => rfl
  | x :: xs => by rw [prs, prs_same xs]; rfl
mutual
def dep : VV → Nat
  | .tup xs => deps xs + 1
  | .lst xs => deps xs + 1
  | _ => 0
def deps : List VV → Nat
  | [] => 0
  | x :: xs => max (dep x) (deps xs)
end
mutual
def wide : VV → Nat
  | .tup xs => max xs.length (wides xs)
  | .lst xs => max xs.length (wides xs)
  | _ => 0
def wides : List VV → Nat
  | [] => 0
  | x :: xs => max (wide x) (wides xs)
end
theorem mem_deps : ∀ {xs : List VV} {x : VV}, x ∈ xs → dep x ≤ deps xs ∧ wide x ≤ wides xs
  | [], _, h => by simp at h
  | y :: ys, x, h => by
    rw [deps, wides]
    rcases List.mem_cons.mp h with rfl | h
    · omega
    · have := mem_deps h; omega
theorem mem_isDs : ∀ {xs : List VV} {x : VV}, isDs xs = true → x ∈ xs → isD x = true
  | [], _, _, h => by simp at h
  | y :: ys, x, d, h => by
    rw [isDs, Bool.and_eq_true] at d
    rcases List.mem_cons.mp h with rfl | h
    · exact d.1
    · exact mem_isDs d.2 h
end J
namespace J
open PySem L2
theorem isDs_ints : ∀ l : List Int, isDs (l.map VV.int) = true
  | [] => by simp [isDs]
  | x :: xs => by simp [isDs, isD, isDs_ints xs]
theorem deps_ints : ∀ l : List Int, deps (l.map VV.int) = 0 ∧ wides (l.map VV.int) = 0
  | [] => by simp [deps, wides]
  | x :: xs => by have := deps_ints xs; simp [deps, dep, wides, wide, this.1, this.2]
/-- == of lists of ints -/
theorem toDs_ints : ∀ l : List Int, toDs (l.map VV.int) = l.map PyData.int
  | [] => by simp [toDs]
  | x :: xs => by simp [toDs, toD, toDs_ints xs]
theorem eqvAll_ints : ∀ l m : List Int, PyData.eqvAll (l.map PyData.int) (m.map PyData.int) = decide (l = m)
  | [], [] => by simp [PyData.eqvAll]
  | [], y :: ys => by simp [PyData.eqvAll]
  | x :: xs, [] => by simp [PyData.eqvAll]
  | x :: xs, y :: ys => by
    simp only [List.map_cons, PyData.eqvAll, PyData.eqv, eqvAll_ints xs ys]
    by_cases h1 : x = y <;> by_cases h2 : xs = ys <;> simp [h1, h2]
theorem canLay_ints : ∀ l : List Int, PyData.canLayAll0 (l.map PyData.int) = true
  | [] => by simp [PyData.canLayAll0]
  | x :: xs => by simp [PyData.canLayAll0, PyData.canLay0, canLay_ints xs]
end J
namespace J
open PySem L2
theorem depth_ints : ∀ l : List Int, PyData.depthAll (l.map PyData.int) = 0
  | [] => by simp [PyData.depthAll]
  | x :: xs => by simp [PyData.depthAll, PyData.depth, depth_ints xs]
end J
namespace J
open PySem L2
end J
namespace J
open PySem L2
open PyProof.Rows (envOfC)
/-! loops of a comprehension's block, whatever a turn does -/
/-- what the slots knew they still know -/
def Knows (σ σ' : St) : Prop := σ.length = σ'.length ∧ ∀ (i : Nat) (v : V), σ[i]? = some (some v) → σ'[i]? = some (some v)
theorem Knows.refl {σ : St} : Knows σ σ := ⟨rfl, fun _ _ h => h⟩
end J
namespace J
open PySem L2
open PyProof.Rows (envOfC)
/-! an accumulator that grows by turns -/
def accGo {α : Type} (b : VV → VSt → Option VSt) (stp : VSt → VH → α → Res α) (ρ : VSt) : List VV → VH → α → Res α
  | [], h, a => .ok a h
  | x :: xs, h, a => match b x ρ with
    | none => .no
    | some ρ' => (stp ρ' h a).bind fun a' h' => accGo b stp ρ xs h' a'
end J
namespace J
open PySem L2
open PyProof.Rows (envOfC)
open PpSet (compTurn_set)
def noX {α : Type} : Res α → Res α
  | .ok a h => .ok a h
  | _ => .no
end J
namespace J
open PySem L2
open PyProof.Rows (envOfC)
/-! len({e for x in xs}), ints -/
def stSet (fe : EF) : VSt → VH → List Int → Res (List Int) := fun ρ h a => (fe ρ h).bind fun v h1 => match v with
  | .int i => if a.length ≥ 4000 then .no else .ok (if i ∈ a then a else a ++ [i]) h1
  | _ => .no
section
variable {X : Cx} {W : WX}
def eLenSc (own : List Nat) (it : AF) (b : VV → VSt → Option VSt) (fe : EF) : EF := fun ρ h => (it ρ h).bind fun xs h1 => (noX (accGo b (stSet fe) (wp ρ own) xs h1 [])).bind fun a h2 => .ok (.int a.length) h2
end
end J
namespace J
open PySem L2
open PyProof.Rows (envOfC)
/-! dicts whose keys are tuples -/
def keyA : VV → Option Key
  | .int i => some (.inl i)
  | .str x => some (.inr x)
  | _ => none
def keyL : List VV → Option (List Key)
  | [] => some []
  | x :: xs => (keyA x).bind fun a => (keyL xs).map fun r => a :: r
def keyV : VV → Option (List Key)
  | .tup xs => keyL xs
  | _ => none
theorem keyL_vals {c : Ct} {z : Addr → Prop} {H : Hp} : ∀ {xs : List VV} {us : List V} {k : List Key}, RVs c z H xs us → keyL xs = some k → us = k.map kV
  | [], us, k, r, e => by
    cases e
    rw [RVs] at r
    rw [r]; rfl
  | x :: xs, us, k, r, e => by
    rw [RVs] at r
    obtain ⟨u, q, rfl, a, b⟩ := r
    unfold keyL at e
    obtain ⟨y, e1, e2⟩ := Option.bind_eq_some_iff.mp e
    obtain ⟨l, e3, e4⟩ := Option.map_eq_some_iff.mp e2
    subst e4
    rw [keyL_vals b e3, List.map_cons]
    congr 1
    cases x with
    | int i => cases e1; rw [RV] at a; exact a
    | str i => cases e1; rw [RV] at a; exact a
    | _ => cases e1
theorem keyV_at {c : Ct} {g : Gh} {H : Hp} {v : VV} {u : V} {k : List Key} (r : RT c g H v u) (e : keyV v = some k) : ∃ b, u = .ref b ∧ H b = some (.tup (k.map kV)) := by
  cases v with
  | tup xs =>
    obtain ⟨p, us, rfl, ta, rs⟩ := tup_get r
    refine ⟨p, rfl, ?_⟩
    rw [← keyL_vals rs e]
    exact ta
  | _ => cases e
def hasK (ks : List (List Key)) (k : List Key) : Bool := ks.any fun x => decide (x = k)
/-- in its place, or at the end -/
def putVs {α : Type} (ks : List (List Key)) (vs : List α) (k : List Key) (v : α) : List α := if hasK ks k = true then (ks.zip vs).map (fun p => if p.1 = k then v else p.2) else vs ++ [v]
def putKs (ks : List (List Key)) (k : List Key) : List (List Key) := if hasK ks k = true then ks else ks ++ [k]
theorem RVs.put {c : Ct} {z : Addr → Prop} {H : Hp} {ks : List (List Key)} {vs : List VV} {us : List V} {k : List Key} {v : VV} {u : V} (hl : ks.length = us.length) (r : RVs c z H vs us) (q : RV c z H v u) : RVs c z H (putVs ks vs k v) (putVs ks us k u) := by
  unfold putVs
  split
  · rename_i m
    clear m
    induction ks generalizing vs us with
    | nil => simp only [List.zip_nil_left, List.map_nil]; exact RVs.nil
    | cons x xs ih =>
      cases us with
      | nil => cases hl
      | cons w us =>
        cases vs with
        | nil => rw [RVs] at r; cases r
        | cons y ys =>
          rw [RVs] at r
          obtain ⟨a1, a2, e, a3, a4⟩ := r
          cases e
          simp only [List.zip_cons_cons, List.map_cons]
          refine RVs.cons ?_ (ih (Nat.succ.inj hl) a4)
          by_cases e : x = k
          · rw [if_pos e, if_pos e]; exact q
          · rw [if_neg e, if_neg e]; exact a3
  · exact RVs.app r (RVs.one q)
end J
namespace J
open PySem L2
open PyProof.Rows (envOfC)
/-! {k: v for x in xs for y in ys}, keys tuples -/
abbrev DA := List (List Key) × List VV
def stDict (fk fv : EF) : VSt → VH → DA → Res DA := fun ρ h a => (fk ρ h).bind fun kv h1 => (fv ρ h1).bind fun v h2 => match keyV kv with
  | some k => if v.isObj = true ∨ a.1.length ≥ SZ then .no else .ok (putKs a.1 k, putVs a.1 a.2 k v) h2
  | none => .no
def stIn {α : Type} (it1 : AF) (b1 : VV → VSt → Option VSt) (vs1 : List Nat) (stp : VSt → VH → α → Res α) : VSt → VH → α → Res α := fun ρ h a => (it1 ρ h).bind fun xs h1 => accGo b1 stp (wp ρ vs1) xs h1 a
def RaD (c : Ct) (_ : Addr) (g : Gh) (H : Hp) (a : DA) (o : HO) : Prop := ∃ us, o = .dT (a.1.zip us) ∧ a.1.length = us.length ∧ RVs c g.fz H a.2 us
theorem RaD.nt {c : Ct} {D : Addr} {g : Gh} {H : Hp} {a : DA} {o : HO} (h : RaD c D g H a o) (ps : Array Value) : o ≠ .tbl ps := by
  obtain ⟨us, rfl, _⟩ := h
  intro z
  cases z
theorem RaD.stp {c : Ct} {D : Addr} {g g' : Gh} {H H' : Hp} {a : DA} {o : HO} (s : Stp g H g' H') (h : RaD c D g H a o) : RaD c D g' H' a o := by
  obtain ⟨us, e, l, r⟩ := h
  exact ⟨us, e, l, s.rvs r⟩
end J
namespace J
open PySem L2
open PyProof.Rows (envOfC)
section
variable {X : Cx} {W : WX}
def eDc2 (own : List Nat) (it : AF) (b : VV → VSt → Option VSt) (it1 : AF) (b1 : VV → VSt → Option VSt) (vs1 : List Nat) (fk fv : EF) : EF := fun ρ h => (it ρ h).bind fun xs h1 => (noX (accGo b (stIn it1 b1 vs1 (stDict fk fv)) (wp ρ own) xs h1 ([], []))).bind fun a h2 => .ok (.dT a.1 a.2) h2
end
end J
namespace J
open PySem PySem.Spec L2 PyProof.Rows
/-! sets of int tuples, up to seventy-six of them -/
structure SetW (P : Program) (w : World) (h : Heap) (a : Addr) (L : List (Addr × List Int)) (es : Array (Int × Value)) (ep : Nat) (t : SetTable) : Prop where
  ob : ∃ o, h.get? a = some o ∧ o.ExactSet ∧ o.data = .set es ep t
  rows : es.toList = L2.rowsOf P w L
  tab : TabOk t (L.map fun q => thash P w q.2)
  nd : (L.map (·.2)).Nodup
  tup : ∀ q ∈ L, IsT P w h q.2 q.1
  plain : t.plain = true
  led : w.params.followText "set-order" = true ∨ t.led = true
  room : L.length * 5 < t.mask * 3
section
variable {P : Program} {w : World} {A : Around} {E : Value → Shared → Prop} {s : Shared} {h : Heap} {a : Addr} {L : List (Addr × List Int)} {es : Array (Int × Value)} {ep : Nat} {t : SetTable}
theorem SetW.of (R : SetTR P w h a L es ep t) : SetW P w h a L es ep t := ⟨R.ob, R.rows, R.tab, R.nd, R.tup, R.plain, R.led, R.room⟩
theorem SetW.low (R : SetW P w h a L es ep t) (f : L.length < 64) : SetTR P w h a L es ep t := ⟨R.ob, R.rows, R.tab, R.nd, R.tup, R.plain, R.led, R.room, f⟩
theorem SetW.size (R : SetW P w h a L es ep t) : es.size = L.length := by
  rw [← Array.length_toList, R.rows]
  exact List.length_map ..
theorem SetW.places (R : SetW P w h a L es ep t) : t.place.size = L.length := by
  have z := R.tab.sz
  rwa [List.length_map] at z
theorem SetW.fits (R : SetW P w h a L es ep t) : t.fits es.size = true := by
  have a1 := R.places
  have a2 := R.size
  have a3 := R.room
  have e : t.fill = L.length := by
    unfold SetTable.fill
    rw [R.tab.dm, a1]
    rfl
  unfold SetTable.fits
  rw [Bool.and_eq_true]
  exact ⟨by rw [a1, a2]; exact beq_self_eq_true _, decide_eq_true (by rw [e]; omega)⟩
theorem SetW.row (R : SetW P w h a L es ep t) {i : Nat} {q : Addr × List Int} (e : L[i]? = some q) : es[i]? = some (thash P w q.2, Value.ref q.1) := by
  have z : es.toList[i]? = (L[i]?).map fun q => (thash P w q.2, Value.ref q.1) := by
    rw [R.rows]
    exact List.getElem?_map
  rw [Array.getElem?_toList] at z
  rw [z, e]
  rfl
theorem SetW.keep {h' : Heap} (R : SetW P w h a L es ep t) (k : ∀ o, h.get? a = some o → h'.get? a = some o) (kt : ∀ q ∈ L, IsT P w h' q.2 q.1) : SetW P w h' a L es ep t := by
  obtain ⟨o, e, r⟩ := R.ob
  exact ⟨⟨o, k o e, r⟩, R.rows, R.tab, R.nd, kt, R.plain, R.led, R.room⟩
/-- where the way stands behind c steps -/
abbrev spot (m : Nat) (H : Int) (c : Nat) : SetTable.Probe := nth m (runAt m (SetTable.bits H % (m + 1)) (SetTable.bits H)) c
theorem spot_plain (m : Nat) (H : Int) : ∀ c, (spot m H c).dummy = none
  | 0 => rfl
  | c + 1 => by
    have ih := spot_plain m H c
    show (nth m _ (c + 1)).dummy = none
    rw [nth_succ]
    unfold adv
    split
    · exact ih
    · exact ih
theorem spot_go (m : Nat) (H : Int) (c d : Nat) : nth m (spot m H c) d = spot m H (c + d) := (nth_add m c _ d).symm
/-- what is met from the c-th step on -/
theorem SetW.meet (R : SetW P w h a L es ep t) {H : Int} {K c : Nat} (hc : c ≤ K) (hf : K < 10 * SetTable.turns t.mask) (hK : way t.mask H K ∉ t.place.toList) (hb : ∀ d, d < K → way t.mask H d ∈ t.place.toList) (ha : Nat → Int) :
    (∃ d i, c ≤ d ∧ d < K ∧ t.place.toList[i]? = some (way t.mask H d) ∧ ha i = H ∧ (∀ d' i', c ≤ d' → d' < d → t.place.toList[i']? = some (way t.mask H d') → ha i' ≠ H) ∧ t.probe ha H (spot t.mask H c) = some (.candidate (way t.mask H d) i (spot t.mask H (d + 1)))) ∨
    ((∀ d' i', c ≤ d' → d' < K → t.place.toList[i']? = some (way t.mask H d') → ha i' ≠ H) ∧ t.probe ha H (spot t.mask H c) = some (.empty (way t.mask H K) none)) := by
  have end_ : c + (K - c) = K := by omega
  have sp := go_spec t R.tab.ris R.tab.dm ha H (10 * SetTable.turns t.mask) (K - c) (spot t.mask H c) (spot_plain _ _ _) (by omega)
    (fun d hd => by rw [spot_go]; exact hb _ (by omega)) (by rw [spot_go, end_]; exact hK)
  have back : ∀ {u : Nat}, (∀ d' i', d' < u → t.place.toList[i']? = some (nth t.mask (spot t.mask H c) d').j → ha i' ≠ H) → ∀ d' i', c ≤ d' → d' < c + u → t.place.toList[i']? = some (way t.mask H d') → ha i' ≠ H := by
    intro u z d' i' h1 h2 h3
    refine z (d' - c) i' (by omega) ?_
    rw [spot_go, show c + (d' - c) = d' by omega]
    exact h3
  rcases sp with ⟨d, i, h1, h2, h3, h4, h5⟩ | ⟨h4, h5⟩
  · refine .inl ⟨c + d, i, by omega, by omega, by rw [spot_go] at h2; exact h2, h3, back h4, ?_⟩
    rw [spot_go, spot_go] at h5
    exact h5
  · refine .inr ⟨fun d' i' z1 z2 => back h4 d' i' z1 (by omega), ?_⟩
    rw [spot_go, end_] at h5
    exact h5
theorem SetW.seek (R : SetW P w s.heap a L es ep t) {x : Addr} {k : List Int} (hx : IsT P w s.heap k x) (hu : A.units < cLine) {K : Nat} (hf : K < 10 * SetTable.turns t.mask) (hK : way t.mask (thash P w k) K ∉ t.place.toList) (hb : ∀ d, d < K → way t.mask (thash P w k) d ∈ t.place.toList)
    {Q : SetFound → Shared → Prop} (yes : k ∈ L.map (·.2) → Q (.there none) s) (no : k ∉ L.map (·.2) → Q (.free (way t.mask (thash P w k) K) false) s) :
    ∀ (n c : Nat) (st : Option SetTable.Probe), c ≤ K → K < c + n → st.getD (t.probeStart (thash P w k)) = spot t.mask (thash P w k) c →
      (∀ (i : Nat) (q : Addr × List Int), L[i]? = some q → q.2 = k → ∃ d, c ≤ d ∧ d < K ∧ t.place.toList[i]? = some (way t.mask (thash P w k) d)) →
      wpAny (model P w) A (setSearchFrom a (.ref x) (thash P w k) true n st) Q E s := by
  obtain ⟨o, eo, ex, ed⟩ := R.ob
  intro n
  induction n with
  | zero => intro c st h1 h2; omega
  | succ n ih =>
    intro c st h1 h2 h3 h4
    rw [setSearchFrom_succ]
    refine wpAny_bind (wpAny_setState_of eo ed R.fits ?_)
    dsimp only
    have calm : ¬ t.gaveWay = true := by
      unfold SetTable.gaveWay
      rw [mask_odd R.tab.mok]
      decide
    refine wp_if_neg calm ?_
    try refine wpAny_bind (wpAny_pure ?_)
    rw [h3]
    have hashes : ∀ (i : Nat) q, L[i]? = some q → (es[i]?.map (·.1)).getD 0 = thash P w q.2 := fun i q e => by rw [R.row e]; rfl
    rcases R.meet h1 hf hK hb (fun i => (es[i]?.map (·.1)).getD 0) with ⟨d, i, m1, m2, m3, m4, m5, m6⟩ | ⟨m5, m6⟩
    · rw [m6]
      dsimp only
      have il : i < L.length := by
        have z := (List.getElem?_eq_some_iff.mp m3).1
        rw [Array.length_toList, R.places] at z
        exact z
      obtain ⟨q, eq⟩ : ∃ q, L[i]? = some q := ⟨_, List.getElem?_eq_getElem il⟩
      have hq := R.tup q (List.mem_of_getElem? eq)
      have live := slot_live R.tab.ris m3
      have tail : wpAny (model P w) A (searchRest a (.ref x) (thash P w k) true n es t (way t.mask (thash P w k) d) i (spot t.mask (thash P w k) (d + 1))) Q E s := by
        unfold searchRest
        rw [R.row eq]
        dsimp only
        refine wpAny_bind (wpAny_holding (wpAny_eqBool_tuple hu hq hx ?_))
        refine wpAny_bind (wpAny_setState_of eo ed R.fits ?_)
        dsimp only
        by_cases same : q.2 = k
        · refine wp_if_pos (by simp [same]) (wpAny_pure (yes ?_))
          exact List.mem_map.mpr ⟨q, List.mem_of_getElem? eq, same⟩
        · refine wp_if_neg (by simp [same]) ?_
          try refine wpAny_bind (wpAny_pure ?_)
          rw [sameMem]
          dsimp only
          simp only [if_true, live, R.row eq]
          refine wpAny_bind (wpAny_isSame_ref_self (wpAny_bind (wpAny_pure ?_)))
          simp only [if_true]
          refine wp_if_neg (by simp [same]) ?_
          refine ih (d + 1) _ (by omega) (by omega) rfl fun i0 q0 e0 k0 => ?_
          obtain ⟨d0, c1, c2, c3⟩ := h4 i0 q0 e0 k0
          refine ⟨d0, ?_, c2, c3⟩
          rcases Nat.lt_trichotomy d0 d with z | z | z
          · exact absurd ((hashes i0 q0 e0).trans (by rw [k0])) (m5 d0 i0 c1 z c3)
          · subst z
            have l2 := slot_live R.tab.ris c3
            rw [live] at l2
            injection l2 with l2
            rw [← l2, eq] at e0
            cases e0
            exact absurd k0 same
          · exact z
      cases lc : t.led with
      | true =>
        refine wp_if_neg (by simp) ?_
        try refine wpAny_bind (wpAny_pure ?_)
        exact tail
      | false =>
        refine wp_if_pos (by simp) ?_
        refine wpAny_bind (seen_tup hx (fun y hy => ?_) (wp_if_neg (by decide) ?_))
        · obtain ⟨e, he, rfl⟩ := List.mem_map.mp hy
          have m : e ∈ L2.rowsOf P w L := by
            rw [← R.rows]
            have z := (Array.mem_filter.mp (Array.mem_def.mpr he)).1
            exact Array.mem_def.mp z
          obtain ⟨q2, h5, rfl⟩ := List.mem_map.mp m
          exact ⟨q2.2, q2.1, rfl, R.tup q2 h5⟩
        · try refine wpAny_bind (wpAny_pure ?_)
          exact tail
    · rw [m6]
      dsimp only
      refine wpAny_pure (no fun hm => ?_)
      obtain ⟨q0, e0, k0⟩ := List.mem_map.mp hm
      obtain ⟨i0, hi0, ei0⟩ := List.getElem_of_mem e0
      have e1 : L[i0]? = some q0 := by rw [List.getElem?_eq_getElem hi0, ei0]
      obtain ⟨d0, c1, c2, c3⟩ := h4 i0 q0 e1 k0
      exact m5 d0 i0 c1 c2 c3 ((hashes i0 q0 e1).trans (by rw [k0]))
theorem SetW.search (R : SetW P w s.heap a L es ep t) {x : Addr} {k : List Int} (hx : IsT P w s.heap k x) (hu : A.units < cLine) {Q : SetFound → Shared → Prop} (yes : k ∈ L.map (·.2) → Q (.there none) s)
    (no : ∀ K, k ∉ L.map (·.2) → way t.mask (thash P w k) K ∉ t.place.toList → (∀ d, d < K → way t.mask (thash P w k) d ∈ t.place.toList) → Q (.free (way t.mask (thash P w k) K) false) s) : wpAny (model P w) A (setSearch a (.ref x) (thash P w k) true) Q E s := by
  have rm := R.room
  obtain ⟨K, h1, h2, h3⟩ := R.tab.first (by rw [List.length_map]; omega) (thash P w k)
  have small : K < 100000 := by
    have z : SetTable.turns t.mask ≤ 142 := by
      unfold SetTable.turns
      have := R.tab.mok
      unfold MaskOk at this
      omega
    omega
  unfold setSearch
  refine R.seek hx hu h1 h2 h3 yes (fun z => no K z h2 h3) 100000 0 none (Nat.zero_le _) (by omega) rfl fun i q e ek => ?_
  have il := (List.getElem?_eq_some_iff.mp e).1
  have ip : i < t.place.toList.length := by rw [Array.length_toList, R.places]; exact il
  obtain ⟨d, c1, c2⟩ := R.tab.before h2 (i := i) (h := thash P w k) (by rw [List.getElem?_map, e, ← ek]; rfl) (List.getElem?_eq_getElem ip)
  exact ⟨d, Nat.zero_le _, c1, by rw [c2]; exact List.getElem?_eq_getElem ip⟩
/-- one more -/
theorem SetW.add (R : SetW P w s.heap a L es ep t) {x : Addr} {k : List Int} (hx : IsT P w s.heap k x) (hu : A.units < cLine) (few : L.length < 76) {Q : Bool → Shared → Prop}
    (hQ : ∀ b h' L' es' ep' t', Heap.SameBut a s.heap h' → SetW P w h' a L' es' ep' t' → (k ∈ L.map (·.2) → L' = L) → (k ∉ L.map (·.2) → L'.Perm ((x, k) :: L)) → Q b { s with heap := h' }) :
    wpAny (model P w) A (setAddHashed a (.ref x) (thash P w k)) Q E s := by
  rcases Nat.lt_or_ge (L.length + 1) 64 with c | c
  · exact add_at (R.low (by omega)) hx hu c fun b h' L' es' ep' t' sb r q1 q2 => hQ b h' L' es' ep' t' sb (.of r) q1 q2
  · obtain ⟨o, eo, ex, ed⟩ := R.ob
    have rm := R.room
    have mk : t.mask = 127 := by
      have := R.tab.mok
      unfold MaskOk at this
      omega
    unfold setAddHashed
    refine wpAny_holding ?_
    rw [show (100000 : Nat) = 99999 + 1 from rfl, setAddHashedIn_succ]
    refine wpAny_bind (wpAny_setState_of eo ed R.fits ?_)
    dsimp only
    refine wp_if_neg (by simp [byScan, Value.scannable]) ?_
    try refine wpAny_bind (wpAny_pure ?_)
    refine wpAny_bind (R.search hx hu (fun hm => ?_) fun K hm h1 h2 => ?_)
    · dsimp only
      exact wpAny_pure (hQ false s.heap L es ep t (Heap.SameBut.refl a _) R (fun _ => rfl) fun z => absurd hm z)
    · dsimp only
      refine wpAny_bind (wpAny_setState_of eo ed R.fits ?_)
      dsimp only
      obtain ⟨p1, p2, p3, p4, p5, p6, p7, p8, p9⟩ := R.tab.put h1 h2
      rw [List.length_map] at p2 p9
      have rw' : (SetTable.insertAt es (t.put (way t.mask (thash P w k) K)).2 (thash P w k, Value.ref x)).toList = L2.rowsOf P w (L.take (t.put (way t.mask (thash P w k) K)).2 ++ (x, k) :: L.drop (t.put (way t.mask (thash P w k) K)).2) := by
        rw [SetTable.toList_insertAt, rows_put, R.rows]
      rw [← p1] at p2 p3
      generalize t.put (way t.mask (thash P w k) K) = pt at p1 p2 p3 p4 p5 p6 p7 p8 p9 rw' ⊢
      obtain ⟨t1, p⟩ := pt
      dsimp only at p1 p2 p3 p4 p5 p6 p7 p8 p9 rw' ⊢
      have pl1 : t1.plain = true := p6.trans R.plain
      first
        | (refine wpAny_bind ?_; refine wp_if_pos pl1 ?_; refine hashBy_tup hx ?_)
        | refine wp_if_pos pl1 (wpAny_bind (hashBy_tup hx ?_))
      simp only [if_true]
      have pm := put_perm L p (x, k)
      have e3 : (L.map fun q => thash P w q.2).take p ++ thash P w k :: (L.map fun q => thash P w q.2).drop p = (L.take p ++ (x, k) :: L.drop p).map fun q => thash P w q.2 := by
        rw [List.map_append, List.map_cons, List.map_take, List.map_drop]
      rw [e3] at p3
      generalize L.take p ++ (x, k) :: L.drop p = M at pm p3 rw'
      have len : M.length = L.length + 1 := by rw [pm.length_eq]; rfl
      have len2 : (SetTable.insertAt es p (thash P w k, Value.ref x)).size = L.length + 1 := by
        rw [← Array.length_toList, rw', ← len]
        exact List.length_map ..
      generalize SetTable.insertAt es p (thash P w k, Value.ref x) = es1 at rw' len2 ⊢
      refine wpAny_bind (wpAny_storeSet_of eo ed ?_ (by rw [len2, sizeLine_eq]; omega))
      have sb : Heap.SameBut a s.heap (s.heap.update a (Obj.putSet es1 t1)) := Heap.SameBut.update ..
      have eo1 := L2.store_at (es' := es1) (t' := t1) eo ed
      generalize s.heap.update a (Obj.putSet es1 t1) = h1 at sb eo1 ⊢
      have notFull : ¬ (!false && t1.tooFull) = true := by
        unfold SetTable.tooFull
        rw [p9, p4, mk]
        simp
        omega
      first
        | refine wp_if_neg notFull ?_
        | (refine wpAny_bind ?_; refine wp_if_neg notFull ?_; refine wpAny_pure ?_)
      refine wpAny_pure (hQ true h1 M es1 (ep + 1) t1 sb ⟨⟨_, eo1, ⟨ex.1, ex.2.1, ex.2.2⟩, rfl⟩, rw', p3, ?_, fun q hq => ?_, pl1, by rw [p5]; exact R.led, by rw [len, p4, mk]; omega⟩ (fun z => absurd z hm) fun _ => pm)
      · refine (pm.map (·.2)).nodup_iff.mpr ?_
        rw [List.map_cons]
        exact List.nodup_cons.mpr ⟨hm, R.nd⟩
      · rcases List.mem_cons.mp (pm.mem_iff.mp hq) with e | e
        · rw [e]; exact isT_same hx eo ed sb
        · exact isT_same (R.tup q e) eo ed sb
end
end J
namespace J
open PySem PySem.Spec L2 PyProof.Rows
/-! set(xs) of tuples, sorted(..): few of them are unlike -/
theorem few_of {D M : List (List Int)} (hM : M.Nodup) (hs : ∀ x ∈ M, x ∈ D) : M.length ≤ D.length := by
  induction M generalizing D with
  | nil => exact Nat.zero_le _
  | cons x xs ih =>
    have hx : x ∈ D := hs x List.mem_cons_self
    rw [List.nodup_cons] at hM
    have q := ih (D := D.erase x) hM.2 fun y hy => (List.mem_erase_of_ne (fun (e : y = x) => hM.1 (e ▸ hy))).mpr (hs y (List.mem_cons_of_mem _ hy))
    rw [List.length_erase_of_mem hx] at q
    have : 0 < D.length := List.length_pos_of_mem hx
    rw [List.length_cons]; omega
end J
namespace J
open PySem PySem.Spec PySem.W L2 PyProof.Rows
/-! the order of ints, and of tuples of ints -/
def intL : List VV → Option (List Int)
  | [] => some []
  | .int i :: xs => (intL xs).map fun r => i :: r
  | _ => none
def intsV : VV → Option (List Int)
  | .tup xs => intL xs
  | _ => none
end J
namespace J
open PySem PySem.W L2
end J
namespace J
open PySem PySem.W L2
def tupI (k : List Int) : VV := .tup (k.map .int)
theorem intL_inv : ∀ {xs : List VV} {k : List Int}, intL xs = some k → xs = k.map .int
  | [], k, e => by cases e; rfl
  | x :: xs, k, e => by
    cases x with
    | int i =>
      obtain ⟨l, e3, e4⟩ := Option.map_eq_some_iff.mp (show (intL xs).map (fun r => i :: r) = some k from e)
      subst e4
      rw [intL_inv e3]; rfl
    | _ => cases e
theorem intsV_inv {v : VV} {k : List Int} (e : intsV v = some k) : v = tupI k := by
  cases v with
  | tup xs => rw [intL_inv (show intL xs = some k from e)]; rfl
  | _ => cases e
end J
namespace J
open PySem PySem.W L2
theorem nodup_eraseDups_n : ∀ (n : Nat) (l : List (List Int)), l.length ≤ n → l.eraseDups.Nodup
  | _, [], _ => by simp
  | 0, _ :: _, h => by simp at h
  | n + 1, a :: l, h => by
    rw [List.eraseDups_cons, List.nodup_cons]
    refine ⟨fun z => ?_, nodup_eraseDups_n n _ (Nat.le_trans (List.length_filter_le _ _) (by simpa using h))⟩
    rw [List.mem_eraseDups, List.mem_filter] at z
    simp at z
theorem nodup_eraseDups (l : List (List Int)) : l.eraseDups.Nodup := nodup_eraseDups_n _ l (Nat.le_refl _)
end J
namespace J
open PySem L2
/-! dicts with tuples as keys, by value -/
def dOf (h : VH) : VV → Option DA
  | .dT ks vs => some (ks, vs)
  | .obj n => match h[n]? with
    | some (.dT ks vs) => some (ks, vs)
    | some (.fzn (.dT ks vs)) => some (ks, vs)
    | _ => none
  | _ => none
theorem dOf_get {c : Ct} {g : Gh} {h : VH} {H : Hp} {v : VV} {u : V} {a : DA} (rh : RH c g h H) (rv : RT c g H v u) (e : dOf h v = some a) : ∃ p us, u = .ref p ∧ H p = some (.dT (a.1.zip us)) ∧ a.1.length = us.length ∧ RVs c g.fz H a.2 us := by
  cases v with
  | dT ks vs =>
    cases e
    have q := rv.rv rfl
    rw [RV] at q
    obtain ⟨p, us, a, b, d, l, r⟩ := q
    exact ⟨p, us, a, d, l, r⟩
  | obj n =>
    obtain ⟨b, ea, eu⟩ := rv
    unfold dOf at e
    simp only at e
    split at e
    · rename_i ks vs en
      cases e
      obtain ⟨_, us, d, l, r⟩ := rh.at' n _ b en ea
      exact ⟨b, us, eu, d, l, r⟩
    · rename_i ks vs en
      cases e
      obtain ⟨_, q⟩ := rh.at' n _ b en ea
      rw [RV] at q
      obtain ⟨p, us, z, y, d, l, r⟩ := q
      cases z
      exact ⟨b, us, eu, d, l, r⟩
    · cases e
  | _ => cases e
def getD : List (List Key) → List VV → List Key → Option VV
  | k' :: ks, v :: vs, k => if k' = k then some v else getD ks vs k
  | _, _, _ => none
theorem valV_has {k : List Key} {ks : List (List Key)} {us : List V} (hl : ks.length = us.length) : (valV (ks.zip us) k).isSome = hasK ks k := by
  unfold hasK
  induction ks generalizing us with
  | nil => simp [valV]
  | cons x ks ih =>
    cases us with
    | nil => cases hl
    | cons u us =>
      rw [List.zip_cons_cons, List.any_cons]
      by_cases ex : x = k
      · rw [valV_pos ex]; simp [ex]
      · rw [valV_neg ex, ih (Nat.succ.inj hl)]; simp [ex]
section
variable {X : Cx} {W : WX}
/-- d[k] = v, d a root -/
def setD (h : VH) (o i v : VV) : Option VH := match o with
  | .obj n => match h[n]? with
    | some (.dT ks vs) => (keyV i).bind fun k => if v.isObj = true ∨ ks.length ≥ SZ then none else some (h.set n (.dT (putKs ks k) (putVs ks vs k v)))
    | _ => none
  | _ => none
def sSetD (o i e : EF) : SF := fun ρ h => (e ρ h).st ρ fun v h1 => (o ρ h1).st ρ fun ov h2 => (i ρ h2).st ρ fun iv h3 => match setD h3 ov iv v with
  | some h4 => .nx ρ h4
  | none => .no
def keyB : Key → VV
  | .inl i => .int i
  | .inr x => .str x
end
end J
namespace J
open PySem L2
/-! instances -/
def lookN : List Str → List VV → Str → Option VV
  | n :: ns, v :: vs, f => if n = f then some v else lookN ns vs f
  | _, _, _ => none
def insOf (h : VH) : VV → Option (Str × List Str × List VV)
  | .ins c ns vs => some (c, ns, vs)
  | .obj n => match h[n]? with
    | some (.ins c ns vs) => some (c, ns, vs)
    | some (.fzn (.ins c ns vs)) => some (c, ns, vs)
    | _ => none
  | _ => none
def eFld (cn f : Str) (fe : EF) : EF := fun ρ h => (fe ρ h).bind fun v h1 => match insOf h1 v with
  | some a => if a.1 = cn then lift (lookN a.2.1 a.2.2 f) h1 else .no
  | none => .no
end J
namespace J
open PySem L2
def putN : List Str → Str → List Str
  | [], f => [f]
  | n :: ns, f => if n = f then n :: ns else n :: putN ns f
def putW {α : Type} : List Str → List α → Str → α → List α
  | n :: ns, x :: xs, f, v => if n = f then v :: xs else x :: putW ns xs f v
  | _, _, _, v => [v]
def setF (h : VH) (cn f : Str) (o v : VV) : Option VH := match o with
  | .obj n => match h[n]? with
    | some (.ins c ns vs) => if c = cn ∧ ns.length < 1000 then some (h.set n (.ins c (putN ns f) (putW ns vs f v))) else none
    | _ => none
  | _ => none
def sFldS (cn f : Str) (fo fe : EF) : SF := fun ρ h => (fe ρ h).st ρ fun v h1 => (fo ρ h1).st ρ fun ov h2 => match setF h2 cn f ov v with
  | some h3 => .nx ρ h3
  | none => .no
section
variable {X : Cx} {W : WX}
def eMeth (cn m : Str) (n : Nat) (F : FF) (dws : List VV) (fo : EF) (fa : AF) : EF := fun ρ h => (fo ρ h).bind fun v h1 => match insOf h1 v with
  | some a => if a.1 = cn ∧ lookN a.2.1 a.2.2 m = none then (fa ρ h1).bind fun vs h2 => if (v :: (vs ++ dws)).length = n then noX (F (v :: (vs ++ dws)) h2) else .no else .no
  | none => .no
end
end J
namespace J
open PySem L2
/-! a made thing, frozen through and through -/
def optM {α β : Type} (f : α → Option β) : List α → Option (List β)
  | [] => some []
  | x :: xs => (f x).bind fun y => (optM f xs).map fun r => y :: r
def dzV (h : VH) (n0 : Nat) : Nat → VV → Option VV
  | 0, _ => none
  | k + 1, .obj n => if n < n0 then none else match h[n]? with
    | some (.fzn v) => some v
    | some (.fl xs) => some (.lst xs)
    | some (.dT ks vs) => some (.dT ks vs)
    | some (.dK ks vs) => some (.dK ks vs)
    | some (.lo xs) => (optM (dzV h n0 k) xs).map .lst
    | some (.ins c ns vs) => (optM (dzV h n0 k) vs).map (.ins c ns)
    | none => none
  | _ + 1, v => some v
/-- made, and frozen at once -/
def mkZ (n0 : Nat) (r : Res VV) : Res VV := match r with
  | .ok .non h' => if n0 ≤ h'.length ∧ (h'.take n0).all (lowO n0) = true then (match dzV h' n0 8 (.obj n0) with
    | some w => .ok w (h'.take n0)
    | none => .no) else .no
  | _ => .no
def eMakeZ (cn : Str) (n : Nat) (F : FF) (dws : List VV) (fa : AF) : EF := fun ρ h => (fa ρ h).bind fun vs h1 => if (VV.obj h1.length :: (vs ++ dws)).length = n then mkZ h1.length (F (.obj h1.length :: (vs ++ dws)) (h1 ++ [.ins cn [] []])) else .no
end J
namespace J
open PySem L2
section
variable {X : Cx} {W : WX}
/-! xs.pop(i), xs a root -/
def popI (h : VH) (o i : VV) : Option (VV × VH) := match o, i with
  | .obj n, .int k => match h[n]? with
    | some (.fl xs) => if 0 ≤ k ∧ k < xs.length ∧ k < 2 ^ 62 then (xs[k.toNat]?).map fun v => (v, h.set n (.fl (xs.eraseIdx k.toNat))) else none
    | _ => none
  | _, _ => none
def ePop (fo fi : EF) : EF := fun ρ h => (fo ρ h).bind fun ov h1 => match lstOf h1 ov with
  | none => .no
  | some _ => (fi ρ h1).bind fun iv h2 => match popI h2 ov iv with
    | some (v, h3) => .ok v h3
    | none => .no
theorem RVs.eraseIdx {c : Ct} {z : Addr → Prop} {H : Hp} : ∀ {vs : List VV} {us : List V} {k : Nat}, RVs c z H vs us → RVs c z H (vs.eraseIdx k) (us.eraseIdx k)
  | [], us, k, r => by rw [RVs] at r; subst r; simp only [List.eraseIdx_nil]; exact RVs.nil
  | v :: vs, us, k, r => by
    rw [RVs] at r
    obtain ⟨u, q, rfl, a, b⟩ := r
    cases k with
    | zero => simp only [List.eraseIdx_cons_zero]; exact b
    | succ k => simp only [List.eraseIdx_cons_succ]; exact RVs.cons a (RVs.eraseIdx b)
end
end J
namespace J
open PySem L2
open PyProof.Rows (envOfC)
/-! a root, frozen through and through -/
def frzL (f : VH → VV → Option (VV × VH)) : VH → List VV → Option (List VV × VH)
  | h, [] => some ([], h)
  | h, v :: vs => match f h v with
    | some (w, h1) => match frzL f h1 vs with
      | some (ws, h2) => some (w :: ws, h2)
      | none => none
    | none => none
def frzV : Nat → VH → VV → Option (VV × VH)
  | 0, _, _ => none
  | k + 1, h, .obj n => match h[n]? with
    | some (.fzn w) => some (w, h)
    | some (.fl xs) => some (.lst xs, h.set n (.fzn (.lst xs)))
    | some (.dT ks vs) => some (.dT ks vs, h.set n (.fzn (.dT ks vs)))
    | some (.dK ks vs) => some (.dK ks vs, h.set n (.fzn (.dK ks vs)))
    | some (.lo xs) => match frzL (frzV k) h xs with
      | some (ys, h') => some (.lst ys, h'.set n (.fzn (.lst ys)))
      | none => none
    | some (.ins c ns vs) => match frzL (frzV k) h vs with
      | some (ys, h') => some (.ins c ns ys, h'.set n (.fzn (.ins c ns ys)))
      | none => none
    | none => none
  | _ + 1, h, v => some (v, h)
def FrzOk (c : Ct) (H : Hp) (f : VH → VV → Option (VV × VH)) : Prop := ∀ g h v u w h', RH c g h H → RT c g H v u → f h v = some (w, h') → ∃ g', Stp g H g' H ∧ g'.io = g.io ∧ RH c g' h' H ∧ RV c g'.fz H w u
theorem frzL_ok {c : Ct} {H : Hp} {f : VH → VV → Option (VV × VH)} (hf : FrzOk c H f) : ∀ (vs : List VV) (us : List V) (g : Gh) (h : VH) (ws : List VV) (h' : VH), RH c g h H → RTs c g H vs us → frzL f h vs = some (ws, h') → ∃ g', Stp g H g' H ∧ g'.io = g.io ∧ RH c g' h' H ∧ RVs c g'.fz H ws us
  | [], us, g, h, ws, h', rh, r, e => by
    unfold frzL at e
    cases e
    rw [show us = [] from r]
    exact ⟨g, .refl, rfl, rh, RVs.nil⟩
  | v :: vs, us, g, h, ws, h', rh, r, e => by
    obtain ⟨u, q, rfl, a, b⟩ := r
    unfold frzL at e
    split at e
    · rename_i w h1 e1
      obtain ⟨g1, s1, i1, r1, v1⟩ := hf g h v u w h1 rh a e1
      split at e
      · rename_i ws' h2 e2
        cases e
        obtain ⟨g2, s2, i2, r2, v2⟩ := frzL_ok hf vs q g1 h1 _ _ r1 (b.stp s1) e2
        exact ⟨g2, s1.trans s2, i2.trans i1, r2, RVs.cons (s2.rv v1) v2⟩
      · cases e
    · cases e
theorem frzV_ok {c : Ct} {H : Hp} : ∀ k : Nat, FrzOk c H (frzV k)
  | 0 => fun g h v u w h' _ _ e => by simp [frzV] at e
  | k + 1 => fun g h v u w h' rh r e => by
    cases v with
    | obj n =>
      obtain ⟨a, ea, eu⟩ := r
      unfold frzV at e
      split at e
      · rename_i w' en
        cases e
        obtain ⟨fa, rv⟩ := rh.at' n _ a en ea
        exact ⟨g, .refl, rfl, rh, by rw [eu]; exact rv⟩
      · rename_i xs en
        cases e
        obtain ⟨nz, us, hl, rvs⟩ := rh.at' n _ a en ea
        have rv : RV c (g.frz a).fz H (.lst xs) (.ref a) := by
          rw [RV]
          exact ⟨a, us, rfl, .inr rfl, hl, (Stp.kill (p := a)).rvs rvs⟩
        exact ⟨g.frz a, .kill, rfl, rh.kill ea rv, by rw [eu]; exact rv⟩
      · rename_i ks vs en
        cases e
        obtain ⟨nz, us, hl, ln, rvs⟩ := rh.at' n _ a en ea
        have rv : RV c (g.frz a).fz H (.dT ks vs) (.ref a) := by
          rw [RV]
          exact ⟨a, us, rfl, .inr rfl, hl, ln, (Stp.kill (p := a)).rvs rvs⟩
        exact ⟨g.frz a, .kill, rfl, rh.kill ea rv, by rw [eu]; exact rv⟩
      · rename_i ks vs en
        cases e
        obtain ⟨nz, us, hl, ln, rvs⟩ := rh.at' n _ a en ea
        have rv : RV c (g.frz a).fz H (.dK ks vs) (.ref a) := by
          rw [RV]
          exact ⟨a, us, rfl, (.inr rfl), .inl hl, ln, (Stp.kill (p := a)).rvs rvs⟩
        exact ⟨g.frz a, .kill, rfl, rh.kill ea rv, by rw [eu]; exact rv⟩
      · rename_i xs en
        obtain ⟨nz, us, hl, rts⟩ := rh.at' n _ a en ea
        split at e
        · rename_i ys h1 e1
          cases e
          obtain ⟨g1, s1, i1, r1, v1⟩ := frzL_ok (frzV_ok k) xs us g h ys h1 rh rts e1
          have rv : RV c (g1.frz a).fz H (.lst ys) (.ref a) := by
            rw [RV]
            exact ⟨a, us, rfl, .inr rfl, hl, (Stp.kill (p := a)).rvs v1⟩
          exact ⟨g1.frz a, s1.trans .kill, i1, r1.kill (by rw [i1]; exact ea) rv, by rw [eu]; exact rv⟩
        · cases e
      · rename_i x ns vs en
        obtain ⟨nz, C, dx, us, m, hl, ln, rts⟩ := rh.at' n _ a en ea
        split at e
        · rename_i ys h1 e1
          cases e
          obtain ⟨g1, s1, i1, r1, v1⟩ := frzL_ok (frzV_ok k) vs us g h ys h1 rh rts e1
          have rv : RV c (g1.frz a).fz H (.ins x ns ys) (.ref a) := by
            rw [RV]
            exact ⟨a, C, dx, us, rfl, .inr rfl, m, hl, ln, (Stp.kill (p := a)).rvs v1⟩
          exact ⟨g1.frz a, s1.trans .kill, i1, r1.kill (by rw [i1]; exact ea) rv, by rw [eu]; exact rv⟩
        · cases e
      · cases e
    | _ =>
      unfold frzV at e
      cases e
      exact ⟨g, .refl, rfl, rh, r.rv rfl⟩
def frzR (v : VV) (h : VH) : Res VV := match frzV 4 h v with
  | some (w, h2) => .ok w h2
  | none => .no
def eFrzD (f : EF) : EF := fun ρ h => (f ρ h).bind frzR
section
variable {X : Cx} {W : WX}
theorem j_frzD {e : Expr} {f : EF} (h : PE X e (tE (ct X) W f)) : PE X e (tE (ct X) W (eFrzD f)) :=
  PE.mono h fun σ H Q ⟨g, ρ, h0, rh, rs, p⟩ => by
    refine ⟨g, ρ, h0, rh, rs, (Pst.bind (R := RT (ct X)) p).imp fun u H1 ⟨g1, v, h1, st, rh1, rv1, p1⟩ => ?_⟩
    unfold frzR at p1
    split at p1
    · rename_i w h2 e
      obtain ⟨g2, s2, _, r2, v2⟩ := frzV_ok 4 g1 h1 v u w h2 rh1 rv1 e
      exact p1 g2 H1 u s2 r2 (RT.of_rv v2)
    · exact p1.elim
end
/-! comprehensions whose elements may be roots -/
def lcGoR (b : VV → VSt → Option VSt) (t : TF) (e : EF) (ρ : VSt) : List VV → VH → Res (List VV)
  | [], h => .ok [] h
  | x :: xs, h => match b x ρ with
    | none => .no
    | some ρ' => (t ρ' h).bind fun k h1 => if k = true then (e ρ' h1).bind fun v h2 => (lcGoR b t e ρ xs h2).bind fun vs h3 => .ok (v :: vs) h3 else lcGoR b t e ρ xs h1
def eLcR (own : List Nat) (it : AF) (b : VV → VSt → Option VSt) (t : TF) (e : EF) : EF := fun ρ h => (it ρ h).bind fun xs h1 => if xs.length > SZ then .no else match lcGoR b t e (wp ρ own) xs h1 with
  | .ok vs h2 => .ok (.obj h2.length) (h2 ++ [.lo vs])
  | _ => .no
end J
namespace J
open PySem L2
open PyProof.Rows (envOfC)
/-! calls with keywords -/
section
variable {X : Cx} {W : WX}
theorem PK.mono {e : List Keyword} {t t' : TA} (h : PK X e t) (m : ∀ σ H Q, t' σ H Q → t σ H Q) : PK X e t' := ⟨fun pos pins s σ H Q I q => h.run pos pins s σ H Q I (m σ H Q q)⟩
/-- positional values, then the keywords' -/
def aApp (n m : Nat) (a b : AF) : AF := fun ρ h => (a ρ h).bind fun vs h1 => (b ρ h1).bind fun ws h2 => if vs.length = n ∧ ws.length = m then .ok (vs ++ ws) h2 else .no
end
section
variable {X : Cx} {W : WX}
/-! xs[i] op= e, xs a root -/
/-- o[i] += e, ints -/
def augV (fe : EF) (ρ : VSt) (ov iv : VV) (h2 : VH) : SR := if ov.isObj = true then (match opIx h2 ov iv with
  | some (.int a) => (fe ρ h2).st ρ fun v h3 => match v with
    | .int b => match setI h3 ov iv (.int (a + b)) with
      | some h4 => .nx ρ h4
      | none => .no
    | _ => .no
  | _ => .no) else .no
def sAugI (o i e : EF) : SF := fun ρ h => (o ρ h).st ρ fun ov h1 => (i ρ h1).st ρ fun iv h2 => augV e ρ ov iv h2
end
end J
namespace J
open PySem L2
open PyProof.Rows (envOfC)
/-! x in y -/
def seqV (h : VH) : VV → Option (List VV)
  | .tup xs => some xs
  | v => lstOf h v
theorem seqV_get {c : Ct} {g : Gh} {h : VH} {H : Hp} {v : VV} {u : V} {xs : List VV} (rh : RH c g h H) (rv : RT c g H v u) (e : seqV h v = some xs) : ∃ p us, u = .ref p ∧ (SqL c.K H p us ∨ SqT c.K H p us) ∧ RVs c g.fz H xs us := by
  have old : lstOf h v = some xs → ∃ p us, u = .ref p ∧ (SqL c.K H p us ∨ SqT c.K H p us) ∧ RVs c g.fz H xs us := fun e => by
    obtain ⟨p, us, a, b, r⟩ := lstOf_get rh rv e
    exact ⟨p, us, a, .inl b, r⟩
  cases v with
  | tup ys =>
    cases e
    obtain ⟨p, us, a, b, r⟩ := tup_get rv
    exact ⟨p, us, a, .inr b.sq, r⟩
  | _ => exact old e
/-- lists of tuples of ints -/
def tupsOf : List VV → Option (List (List Int))
  | [] => some []
  | v :: vs => (intsV v).bind fun k => (tupsOf vs).map fun ks => k :: ks
theorem tupsOf_inv : ∀ {xs : List VV} {ks : List (List Int)}, tupsOf xs = some ks → xs = ks.map tupI
  | [], ks, e => by cases e; rfl
  | v :: vs, ks, e => by
    unfold tupsOf at e
    obtain ⟨k, e1, e2⟩ := Option.bind_eq_some_iff.mp e
    obtain ⟨l, e3, e4⟩ := Option.map_eq_some_iff.mp e2
    subst e4
    rw [intsV_inv e1, tupsOf_inv e3]; rfl
theorem isD_tupI (k : List Int) : isD (tupI k) = true := by unfold tupI; rw [isD]; exact isDs_ints k
theorem isDs_tups : ∀ ks : List (List Int), isDs (ks.map tupI) = true
  | [] => rfl
  | k :: ks => by rw [List.map_cons, isDs, isD_tupI, isDs_tups ks]; rfl
theorem toD_tupI (k : List Int) : toD (tupI k) = .tuple (k.map PyData.int) := by unfold tupI; rw [toD, toDs_ints]
theorem toDs_tups : ∀ ks : List (List Int), toDs (ks.map tupI) = ks.map fun k => .tuple (k.map PyData.int)
  | [] => rfl
  | k :: ks => by rw [List.map_cons, toDs, toD_tupI, toDs_tups ks]; rfl
theorem eqv_tups (k l : List Int) : PyData.eqv (.tuple (k.map PyData.int)) (.tuple (l.map PyData.int)) = decide (k = l) := by rw [PyData.eqv, eqvAll_ints]
theorem canLay_tups : ∀ ks : List (List Int), PyData.canLayAll0 (ks.map fun k => .tuple (k.map PyData.int)) = true
  | [] => rfl
  | k :: ks => by rw [List.map_cons, PyData.canLayAll0, PyData.canLay0, canLay_ints, canLay_tups ks]; rfl
theorem depth_tups : ∀ ks : List (List Int), PyData.depthAll (ks.map fun k => .tuple (k.map PyData.int)) ≤ 1
  | [] => Nat.zero_le _
  | k :: ks => by
    rw [List.map_cons, PyData.depthAll, PyData.depth, depth_ints]
    have := depth_tups ks
    omega
theorem shaped_tupI (k : List Int) : SeqAt.shaped (toD (tupI k)) = true := by
  rw [toD_tupI]; unfold SeqAt.shaped; rw [PyData.canLay0, canLay_ints, PyData.depth, depth_ints]; rfl
theorem shaped_tups (ks : List (List Int)) : SeqAt.shaped (toD (.lst (ks.map tupI))) = true := by
  rw [toD, toDs_tups]; unfold SeqAt.shaped; rw [PyData.canLay0, canLay_tups, PyData.depth]
  have := depth_tups ks
  rw [decide_eq_true (by omega)]; rfl
/-- what is in -/
def inV (h : VH) (x y : VV) : Option Bool := match dOf h y with
  | some a => (keyV x).map fun k => hasK a.1 k
  | none => match x with
    | .int i => (seqV h y).bind fun xs => (intsOf xs).map fun ns => decide (i ∈ ns)
    | .str i => (seqV h y).bind fun xs => (strsOf xs).map fun ns => decide (i ∈ ns)
    | .tup k => (intsV (.tup k)).bind fun k => match y with
      | .lst xs => (tupsOf xs).map fun ks => decide (k ∈ ks)
      | _ => none
    | _ => none
def opIn : Op2 := fun h x y => (inV h x y).map .bl
theorem any_dec {α : Type} [DecidableEq α] (x : α) : ∀ l : List α, (l.any fun y => decide (y = x)) = decide (x ∈ l)
  | [] => rfl
  | y :: l => by
    rw [List.any_cons, any_dec x l]
    by_cases h : y = x
    · subst h; simp
    · simp [h, Ne.symm h]
theorem inV_int {i : Int} {ns : List Int} : L2.inV (.int i) (ns.map V.int) = decide (i ∈ ns) := by
  unfold L2.inV
  rw [List.any_map, ← any_dec]
  rfl
theorem inV_str {i : Str} {ns : List Str} : L2.inV (.str i) (ns.map V.str) = decide (i ∈ ns) := by
  unfold L2.inV
  rw [List.any_map, ← any_dec]
  rfl
theorem flat_ints (ns : List Int) : (ns.map V.int).all flatV = true := by simp [flatV]
theorem flat_strs (ns : List Str) : (ns.map V.str).all flatV = true := by simp [flatV]
section
variable {X : Cx} {W : WX}
theorem inV_cases {c : Ct} {g : Gh} {h : VH} {H : Hp} {v w : VV} {x y : V} {b : Bool} (rh : RH c g h H) (rv : RT c g H v x) (rw' : RT c g H w y) (e : inV h v w = some b) :
    (∃ a o, y = .ref a ∧ DGet H a x o ∧ o.isSome = b) ∨ (∃ p xs, y = .ref p ∧ (SqL c.K H p xs ∨ SqT c.K H p xs) ∧ flatV x = true ∧ xs.all flatV = true ∧ L2.inV x xs = b)
      ∨ ∃ d ds, Dp c.K H x d ∧ Dp c.K H y (.list ds) ∧ SeqAt.shaped d = true ∧ SeqAt.shaped (.list ds) = true ∧ (ds.any fun z => PyData.eqv z d) = b := by
  unfold inV at e
  split at e
  · rename_i a ea
    obtain ⟨k, e1, e2⟩ := Option.map_eq_some_iff.mp e
    obtain ⟨p, us, rfl, hp, hl, rvs⟩ := dOf_get rh rw' ea
    obtain ⟨q, rfl, hb⟩ := keyV_at rv e1
    exact .inl ⟨p, _, rfl, .t hp hb, by rw [valV_has hl]; exact e2⟩
  · split at e
    · rename_i i
      obtain ⟨xs, e1, e2⟩ := Option.bind_eq_some_iff.mp e
      obtain ⟨ns, e3, e4⟩ := Option.map_eq_some_iff.mp e2
      obtain ⟨p, us, ep, sq, rvs⟩ := seqV_get rh rw' e1
      have eu := intsOf_rv rvs e3
      subst eu
      rw [int_get rv]
      exact .inr (.inl ⟨p, _, ep, sq, rfl, flat_ints ns, by rw [inV_int]; exact e4⟩)
    · rename_i i
      obtain ⟨xs, e1, e2⟩ := Option.bind_eq_some_iff.mp e
      obtain ⟨ns, e3, e4⟩ := Option.map_eq_some_iff.mp e2
      obtain ⟨p, us, ep, sq, rvs⟩ := seqV_get rh rw' e1
      have eu := strsOf_rv rvs e3
      subst eu
      rw [str_get rv]
      exact .inr (.inl ⟨p, _, ep, sq, rfl, flat_strs ns, by rw [inV_str]; exact e4⟩)
    · rename_i k
      obtain ⟨k', e1, e2⟩ := Option.bind_eq_some_iff.mp e
      split at e2
      · rename_i xs
        obtain ⟨ks, e3, e4⟩ := Option.map_eq_some_iff.mp e2
        have ek := intsV_inv e1
        have ex := tupsOf_inv e3
        subst ex
        have d1 := dp_of _ _ (rv.rv (by rfl)) (by rw [ek]; exact isD_tupI k')
        have d2 := dp_of _ _ (rw'.rv (by rfl)) (by rw [isD]; exact isDs_tups ks)
        have s1 := shaped_tupI k'
        have s2 := shaped_tups ks
        rw [ek, toD_tupI] at d1
        rw [toD, toDs_tups] at d2
        rw [toD_tupI] at s1
        rw [toD, toDs_tups] at s2
        refine .inr (.inr ⟨_, _, d1, d2, s1, s2, ?_⟩)
        rw [← e4, List.any_map]
        have := any_dec k' ks
        refine Eq.trans (congrArg ks.any (funext fun n => eqv_tups n k')) (this.trans ?_)
        congr
      · cases e2
    · cases e
theorem op_din (hu : X.A.units + 1 < cLine) : OpR X (compareOp .In) (fun x y H Q => ∃ a o, y = .ref a ∧ DGet H a x o ∧ Q (.bl o.isSome) H) := by
  intro pins s σ H x y v u Q I rx ry h
  obtain ⟨a, o, rfl, g, q⟩ := h
  obtain rfl : u = Value.ref a := ry
  exact d_in hu I g rx fun s' I' => ⟨.bl o.isSome, H, I', rfl, q⟩
theorem or_in {k : Nat} (hr : Room k X.A) : OpR X (compareOp .In) (Rd2 (ct X) opIn) :=
  OpR.imp (OpR.or (op_din (by have := hr.units; omega)) (OpR.or op_in_seq (op_inD (by have := hr.un; omega)))) fun x y H Q ⟨g, h, v, w, r, rh, rv, rw', e, kk⟩ => by
    obtain ⟨b, e1, e2⟩ := Option.map_eq_some_iff.mp e
    subst e2
    have fin := kk g H _ .refl rh rt_bl
    rcases inV_cases rh rv rw' e1 with ⟨a, o, q1, q2, q3⟩ | ⟨p, xs, q1, q2, q3, q4, q5⟩ | ⟨d, ds, q1, q2, q3, q4, q5⟩
    · exact .inl ⟨a, o, q1, q2, by rw [q3]; exact fin⟩
    · exact .inr (.inl ⟨p, xs, q1, q2, q3, q4, by rw [q5]; exact fin⟩)
    · exact .inr (.inr ⟨d, ds, q1, q2, q3, q4, by rw [q5]; exact fin⟩)
/-! min, int -/
/-! new lists as roots -/
abbrev OpL := VH → List VV → Option (List VV)
def newO (o : Option (List VV)) (h : VH) : Res VV := match o with
  | some xs => .ok (.obj h.length) (h ++ [.fl xs])
  | none => .no
def eNewO (op : OpL) (a : AF) : EF := fun ρ h => (a ρ h).bind fun v h1 => newO (op h1 v) h1
def lList : OpL := fun h vs => match vs with
  | [v] => seqV h v
  | _ => none
/-- [..] * n as a root -/
def repO (v w : VV) : Option (List VV) := match v, w with
  | .lst xs, .int k => if -(2 ^ 63) ≤ k ∧ k < 2 ^ 63 ∧ xs.length * k.toNat ≤ SZ then some (List.replicate k.toNat xs).flatten else none
  | _, _ => none
def eRepO (a b : EF) : EF := fun ρ h => (a ρ h).bind fun v h1 => (b ρ h1).bind fun w h2 => newO (repO v w) h2
/-! list(range(n)) -/
def eListRngO (f : EF) : EF := fun ρ h => (f ρ h).bind fun v h1 => match v with
  | .int n => if 0 ≤ n ∧ n ≤ SZ then .ok (.obj h1.length) (h1 ++ [.fl (rngV 0 n.toNat)]) else .no
  | _ => .no
/-! l.index(x), tuples of ints -/
/-- a statement that is never reached -/
theorem js_never {st : Stmt} : PS X st (tS (ct X) W (fun _ _ => .no)) := PS.mono ps_never fun D σ H ⟨g, ρ, h, rh, rs, p⟩ => p
end
end J
namespace J
open PySem L2
open PyProof.Rows (envOfC)
def eDnew : EF := fun _ h => .ok (.obj h.length) (h ++ [.dT [] []])
/-! methods and classes of the text -/
structure Dm (K : PySem.W.Frag) (x q : Str) (st : Stmt) (dvs : List V) (kws : List (Str × V)) (f : Addr) (fd : FuncData) : Prop where
  F : FunD K x q (defArgs st) (defBody st) (defScope st) dvs kws f fd
/-- a class: what is read of it -/
structure ClsT (K : PySem.W.Frag) (mg : Str → Option Value) (cn : Str) (C : Addr) : Prop where
  m : mg cn = some (.ref C)
  c : Cls K C
section
variable {P : Program} {w : World} {K : PySem.W.Frag} {mg : Str → Option Value} {base : Heap}
theorem fnokM_of {x q : Str} {st : Stmt} {dvs : List V} {kws : List (Str × V)} {f : Addr} {fd : FuncData} {N ps : List Str} {k n m : Nat} {B : SF} (D : Dm K x q st dvs kws f fd) (S : FnScope N ps (defScope st)) (hn : n = N.length) (hp : ps.length ≤ n) (hm : m = ps.length)
    (hbody : ∀ (cdv : Value) (A : Around) (outer : List Env) (s : Shared) (H : Hp) (E : XK), Room k (A.deeper (envOfC q (defScope st) s.heap.objs.size f cdv)) →
      PSs (cxOf (L2N.CX P w) P w K mg base N q (defScope st) f cdv A outer s H E) (defBody st) (tS ⟨K, mg⟩ (fun a d _ H' => E a d H') B)) :
    FnOk P w K mg base (L2N.CX P w) (k + 1) f fd ps (spF ⟨K, mg⟩ m (fnF n B)) := by
  subst hm
  exact fn_ok D.F S hn hp hbody
end
end J
namespace J
open PySem L2
/-! evaluation of what J8 to J27 added -/
section
variable {ρ : VSt} {h : VH}
def frzO (o : Option VO) (n : Nat) (h : VH) : Res VV := match o with
  | some (.fl xs) => .ok (.lst xs) (h.set n (.fzn (.lst xs)))
  | some (.fzn w) => .ok w h
  | some (.dT ks vs) => .ok (.dT ks vs) (h.set n (.fzn (.dT ks vs)))
  | some (.dK ks vs) => .ok (.dK ks vs) (h.set n (.fzn (.dK ks vs)))
  | some (.lo xs) => frzR (.obj n) h
  | some (.ins _ _ _) => frzR (.obj n) h
  | none => .no
theorem a_frzD {f} : eFrzD f ρ h = bnd (f ρ h) frzR (tg _) := nr rfl
theorem frzR_obj {n : Nat} : frzR (.obj n) h = frzO (h[n]?) n h := by
  cases e : h[n]? with
  | none => simp only [frzO, frzR, frzV, e]
  | some o => cases o <;> simp only [frzO, frzR, frzV, e]
theorem frzO_fl {xs n} : frzO (some (.fl xs)) n h = .ok (.lst xs) (h.set n (.fzn (.lst xs))) := nr rfl
theorem frzO_fzn {w n} : frzO (some (.fzn w)) n h = .ok w h := nr rfl
theorem frzR_lst {xs} : frzR (.lst xs) h = .ok (.lst xs) h := nr rfl
theorem frzR_tup {xs} : frzR (.tup xs) h = .ok (.tup xs) h := nr rfl
theorem frzR_int {i} : frzR (.int i) h = .ok (.int i) h := nr rfl
theorem a_newO {op a} : eNewO op a ρ h = bnd (a ρ h) (fun v h1 => newO (op h1 v) h1) (tg _) := nr rfl
theorem newO_some {xs} : newO (some xs) h = .ok (.obj h.length) (h ++ [.fl xs]) := nr rfl
theorem lList_lst {xs} : lList h [.lst xs] = some xs := nr rfl
theorem lList_tup {xs} : lList h [.tup xs] = some xs := nr rfl
def lrO (v : VV) (h1 : VH) : Res VV := match v with
  | .int n => if 0 ≤ n ∧ n ≤ SZ then .ok (.obj h1.length) (h1 ++ [.fl (rngV 0 n.toNat)]) else .no
  | _ => .no
theorem a_listRngO {f} : eListRngO f ρ h = bnd (f ρ h) lrO (tg _) := nr rfl
theorem lrO_int {n : Int} : lrO (.int n) h = if 0 ≤ n ∧ n ≤ SZ then .ok (.obj h.length) (h ++ [.fl (rngV 0 n.toNat)]) else .no := nr rfl
theorem a_repO {a b} : eRepO a b ρ h = bnd (a ρ h) (fun v h1 => bnd (b ρ h1) (fun w h2 => newO (repO v w) h2) (tg _)) (tg _) := nr rfl
theorem repO_lst {xs : List VV} {k : Int} : repO (.lst xs) (.int k) = if -(2 ^ 63) ≤ k ∧ k < 2 ^ 63 ∧ xs.length * k.toNat ≤ SZ then some (List.replicate k.toNat xs).flatten else none := nr rfl
def chkL {α : Type} (o : Option (List VV)) (r : Res α) : Res α := match o with
  | none => .no
  | some _ => r
theorem chkL_some {α : Type} {xs : List VV} {r : Res α} : chkL (some xs) r = r := nr rfl
def lstO (o : Option VO) : Option (List VV) := match o with
  | some (.fl xs) => some xs
  | some (.fzn (.lst xs)) => some xs
  | _ => none
theorem lstOf_obj {n : Nat} : lstOf h (.obj n) = lstO (h[n]?) := by
  unfold lstOf lstO
  rfl
theorem lstO_fl {xs} : lstO (some (.fl xs)) = some xs := nr rfl
theorem lstO_fzn {xs} : lstO (some (.fzn (.lst xs))) = some xs := nr rfl
def lstRO (o : Option VO) : Option (List VV) := match o with
  | some (.lo xs) => some xs
  | some (.fl xs) => some xs
  | some (.fzn (.lst xs)) => some xs
  | _ => none
theorem lstR_obj {n : Nat} : lstR h (.obj n) = lstRO (h[n]?) := by
  cases e : h[n]? with
  | none => simp only [lstR, lstRO, lstOf, e]
  | some o =>
    cases o with
    | fzn w => cases w <;> simp only [lstR, lstRO, lstOf, e]
    | _ => simp only [lstR, lstRO, lstOf, e]
theorem lstRO_fl {xs} : lstRO (some (.fl xs)) = some xs := nr rfl
theorem lstRO_lo {xs} : lstRO (some (.lo xs)) = some xs := nr rfl
theorem lstRO_fzn {xs} : lstRO (some (.fzn (.lst xs))) = some xs := nr rfl
def popO (o : Option VO) (n : Nat) (k : Int) (h : VH) : Res VV := match o with
  | some (.fl xs) => if 0 ≤ k ∧ k < xs.length ∧ k < 2 ^ 62 then (match xs[k.toNat]? with
    | some v => .ok v (h.set n (.fl (xs.eraseIdx k.toNat)))
    | none => .no) else .no
  | _ => .no
def popR (h : VH) (ov iv : VV) : Res VV := match popI h ov iv with
  | some (v, h3) => .ok v h3
  | none => .no
theorem a_pop {fo fi} : ePop fo fi ρ h = bnd (fo ρ h) (fun ov h1 => chkL (lstOf h1 ov) (bnd (fi ρ h1) (fun iv h2 => popR h2 ov iv) (tg _))) (tg _) := by
  unfold ePop
  cases fo ρ h with
  | no => rfl
  | exc => rfl
  | ok ov h1 =>
    show (match lstOf h1 ov with
      | none => Res.no
      | some _ => _) = chkL (lstOf h1 ov) _
    cases lstOf h1 ov with
    | none => rfl
    | some _ => rfl
theorem popR_obj {n : Nat} {k : Int} : popR h (.obj n) (.int k) = popO (h[n]?) n k h := by
  cases e : h[n]? with
  | none => simp only [popR, popI, popO, e]
  | some o =>
    cases o with
    | fl xs =>
      simp only [popR, popI, popO, e]
      by_cases c : 0 ≤ k ∧ k < xs.length ∧ k < 2 ^ 62
      · rw [if_pos c, if_pos c]
        cases xs[k.toNat]? <;> rfl
      · rw [if_neg c, if_neg c]
    | _ => simp only [popR, popI, popO, e]
def appO (o : Option VO) (n : Nat) (h2 : VH) (v : VV) : Res VV := match o with
  | some (.fl xs) => if xs.length ≥ SZ then .no else if v.isObj = true then .ok .non (h2.set n (.lo (xs ++ [v]))) else .ok .non (h2.set n (.fl (xs ++ [v])))
  | some (.lo xs) => if xs.length ≥ SZ then .no else .ok .non (h2.set n (.lo (xs ++ [v])))
  | _ => .no
theorem a_app {o e} : eApp o e ρ h = bnd (o ρ h) (fun ov h1 => chkL (lstR h1 ov) (bnd (e ρ h1) (fun v h2 => appV h2 ov v) (tg _))) (tg _) := by
  unfold eApp
  cases o ρ h with
  | no => rfl
  | exc => rfl
  | ok ov h1 =>
    show (match lstR h1 ov with
      | none => Res.no
      | some _ => _) = chkL (lstR h1 ov) _
    cases lstR h1 ov with
    | none => rfl
    | some _ => rfl
theorem appV_obj {n : Nat} {v : VV} : appV h (.obj n) v = appO (h[n]?) n h v := nr rfl
theorem appO_fl {xs : List VV} {n : Nat} {v : VV} (hl : xs.length < 16777216) (hv : v.isObj = false) : appO (some (.fl xs)) n h v = .ok .non (h.set n (.fl (xs ++ [v]))) := by
  show (if xs.length ≥ 16777216 then _ else _) = _
  rw [if_neg (by omega), if_neg (by rw [hv]; decide)]
def enumI (v : List VV) (h : VH) : Res (List VV) := match v with
  | [.lst xs] => .ok (enum 0 xs) h
  | [.scr xs] => .ok (enum 0 xs) h
  | _ => .no
theorem enumI_lst {xs} : enumI [.lst xs] h = .ok (enum 0 xs) h := nr rfl
theorem s_augI {o i e} : sAugI o i e ρ h = sbd (o ρ h) ρ (fun ov h1 => sbd (i ρ h1) ρ (fun iv h2 => augV e ρ ov iv h2) (tg _)) (tg _) := nr rfl
def augO (fe : EF) (ρ : VSt) (n : Nat) (k : Int) (o : Option VV) (h2 : VH) : SR := match o with
  | some (.int a) => sbd (fe ρ h2) ρ (fun v h3 => match v with
    | .int b => onh (setI h3 (.obj n) (.int k) (.int (a + b))) ρ
    | _ => .no) (tg _)
  | _ => .no
theorem augV_obj {fe n} {k : Int} : augV fe ρ (.obj n) (.int k) h = augO fe ρ n k (opIx h (.obj n) (.int k)) h := by
  unfold augV augO
  rw [if_pos (show (VV.obj n).isObj = true from rfl)]
  rfl
theorem augO_int {fe n} {k a : Int} : augO fe ρ n k (some (.int a)) h = sbd (fe ρ h) ρ (fun v h3 => match v with
    | .int b => onh (setI h3 (.obj n) (.int k) (.int (a + b))) ρ
    | _ => .no) (tg _) := rfl
theorem s_setD {o i e} : sSetD o i e ρ h = sbd (e ρ h) ρ (fun v h1 => sbd (o ρ h1) ρ (fun ov h2 => sbd (i ρ h2) ρ (fun iv h3 => onh (setD h3 ov iv v) ρ) (tg _)) (tg _)) (tg _) := nr rfl
theorem a_dnew : eDnew ρ h = .ok (.obj h.length) (h ++ [.dT [] []]) := nr rfl
def fldR (cn f : Str) (o : Option (Str × List Str × List VV)) (h : VH) : Res VV := match o with
  | some a => if a.1 = cn then lift (lookN a.2.1 a.2.2 f) h else .no
  | none => .no
theorem a_fld {cn f fe} : eFld cn f fe ρ h = bnd (fe ρ h) (fun v h1 => fldR cn f (insOf h1 v) h1) (tg _) := nr rfl
def insO (o : Option VO) : Option (Str × List Str × List VV) := match o with
  | some (.ins c ns vs) => some (c, ns, vs)
  | some (.fzn (.ins c ns vs)) => some (c, ns, vs)
  | _ => none
theorem insOf_obj {n : Nat} : insOf h (.obj n) = insO (h[n]?) := by
  unfold insOf insO
  rfl
theorem insO_ins {c ns vs} : insO (some (.ins c ns vs)) = some (c, ns, vs) := nr rfl
theorem insOf_ins {c ns vs} : insOf h (.ins c ns vs) = some (c, ns, vs) := nr rfl
def methC (cn m : Str) (o : Option (Str × List Str × List VV)) (r : Res VV) : Res VV := match o with
  | some a => if a.1 = cn ∧ lookN a.2.1 a.2.2 m = none then r else .no
  | none => .no
theorem a_meth {cn m n F dws fo fa} : eMeth cn m n F dws fo fa ρ h = bnd (fo ρ h) (fun v h1 => methC cn m (insOf h1 v) (bnd (fa ρ h1) (fun vs h2 => if (v :: (vs ++ dws)).length = n then noX (F (v :: (vs ++ dws)) h2) else .no) (tg _))) (tg _) := by
  unfold eMeth
  cases fo ρ h with
  | no => rfl
  | exc => rfl
  | ok v h1 =>
    show (match insOf h1 v with
      | some a => _
      | none => Res.no) = methC cn m (insOf h1 v) _
    cases insOf h1 v with
    | none => rfl
    | some _ => rfl
theorem noX_ok {α : Type} {a : α} : noX (.ok a h) = .ok a h := nr rfl
theorem a_make {cn n F dws fa} : eMakeZ cn n F dws fa ρ h = bnd (fa ρ h) (fun vs h1 => if (VV.obj h1.length :: (vs ++ dws)).length = n then mkZ h1.length (F (.obj h1.length :: (vs ++ dws)) (h1 ++ [.ins cn [] []])) else .no) (tg _) := nr rfl
theorem s_fldS {cn f fo fe} : sFldS cn f fo fe ρ h = sbd (fe ρ h) ρ (fun v h1 => sbd (fo ρ h1) ρ (fun ov h2 => onh (setF h2 cn f ov v) ρ) (tg _)) (tg _) := nr rfl
def setFO (o : Option VO) (n : Nat) (h : VH) (cn f : Str) (v : VV) : Option VH := match o with
  | some (.ins c ns vs) => if c = cn ∧ ns.length < 1000 then some (h.set n (.ins c (putN ns f) (putW ns vs f v))) else none
  | _ => none
theorem setF_obj {n : Nat} {cn f v} : setF h cn f (.obj n) v = setFO (h[n]?) n h cn f v := nr rfl
theorem a_aApp {n m a b} : aApp n m a b ρ h = bnd (a ρ h) (fun vs h1 => bnd (b ρ h1) (fun ws h2 => if vs.length = n ∧ ws.length = m then .ok (vs ++ ws) h2 else .no) (tg _)) (tg _) := nr rfl
def afterR (r : Res (List VV)) : Res VV := match r with
  | .ok vs h2 => .ok (.obj h2.length) (h2 ++ [.lo vs])
  | _ => .no
theorem afterR_ok {vs : List VV} : afterR (.ok vs h) = .ok (.obj h.length) (h ++ [.lo vs]) := nr rfl
theorem a_lcR {own it b t e} : eLcR own it b t e ρ h = bnd (it ρ h) (fun xs h1 => if xs.length > SZ then .no else afterR (lcGoR b t e (wp ρ own) xs h1)) (tg _) := nr rfl
theorem a_lenSc {own it b fe} : eLenSc own it b fe ρ h = bnd (it ρ h) (fun xs h1 => bnd (noX (accGo b (stSet fe) (wp ρ own) xs h1 [])) (fun a h2 => .ok (.int a.length) h2) (tg _)) (tg _) := nr rfl
theorem a_dc2 {own it b it1 b1 vs1 fk fv} : eDc2 own it b it1 b1 vs1 fk fv ρ h = bnd (it ρ h) (fun xs h1 => bnd (noX (accGo b (stIn it1 b1 vs1 (stDict fk fv)) (wp ρ own) xs h1 ([], []))) (fun a h2 => .ok (.dT a.1 a.2) h2) (tg _)) (tg _) := nr rfl
theorem a_enum {f} : iEnum f ρ h = bnd (f ρ h) enumI (tg _) := nr rfl
end
/-! loops -/
section
variable {α : Type}
theorem lc_map {b : VV → VSt → Option VSt} {t : TF} {e : EF} {ρ : VSt} {h : VH} (f g : α → VV) {ys : List α} (hy : ∀ y ∈ ys, ∃ ρ', b (f y) ρ = some ρ' ∧ t ρ' h = .ok true h ∧ e ρ' h = .ok (g y) h ∧ (g y).isObj = false) : lcGo b t e ρ (ys.map f) h = .ok (ys.map g) h := by
  induction ys with
  | nil => rfl
  | cons y ys ih =>
    obtain ⟨ρ', h1, h2, h3, h4⟩ := hy y List.mem_cons_self
    rw [List.map_cons, lcGo, h1]
    simp only [h2, bind_ok, h3, h4, Bool.false_eq_true, if_false, if_true, ih fun z hz => hy z (List.mem_cons_of_mem _ hz), List.map_cons]
/-- elements that draw, typed -/
theorem lc_draw {β : Type} {b : VV → VSt → Option VSt} {t : TF} {e : EF} {ρ : VSt} (f : α → VV) (g : β → VV) (I : VH → Prop) (P : β → Prop) : ∀ {ys : List α} {h : VH}, I h → (∀ y ∈ ys, ∀ h, I h → ∃ ρ' v h', b (f y) ρ = some ρ' ∧ t ρ' h = .ok true h ∧ e ρ' h = .ok (g v) h' ∧ (g v).isObj = false ∧ I h' ∧ P v) →
    ∃ (vs : List β) (h' : VH), lcGo b t e ρ (ys.map f) h = .ok (vs.map g) h' ∧ I h' ∧ vs.length = ys.length ∧ ∀ v ∈ vs, P v
  | [], h, hi, _ => ⟨[], h, rfl, hi, rfl, fun v hv => by simp at hv⟩
  | y :: ys, h, hi, hx => by
    obtain ⟨ρ', v, h1, e1, e2, e3, e4, hi1, hp⟩ := hx y List.mem_cons_self h hi
    obtain ⟨vs, h2, e5, hi2, hl, hps⟩ := lc_draw f g I P (ys := ys) hi1 fun z hz => hx z (List.mem_cons_of_mem _ hz)
    refine ⟨v :: vs, h2, ?_, hi2, by simp [hl], fun w hw => ?_⟩
    · rw [List.map_cons, lcGo, e1]
      simp only [e2, bind_ok, e3, e4, Bool.false_eq_true, if_false, if_true, e5, List.map_cons]
    · rcases List.mem_cons.mp hw with rfl | hw
      · exact hp
      · exact hps w hw
/-- a loop by what holds behind each first part of the items -/
theorem for_pre {b : VV → VSt → Option VSt} {body : SF} (f : α → VV) (I : List α → VSt → VH → Prop) (ys : List α) {ρ : VSt} {h : VH} (h0 : I [] ρ h)
    (hs : ∀ pre y post, ys = pre ++ y :: post → ∀ ρ h, I pre ρ h → ∃ ρ' ρ2 h2, b (f y) ρ = some ρ' ∧ body ρ' h = .nx ρ2 h2 ∧ I (pre ++ [y]) ρ2 h2) : ∃ ρ2 h2, forGo b body (ys.map f) ρ h = .nx ρ2 h2 ∧ I ys ρ2 h2 := by
  have key : ∀ (post pre : List α), ys = pre ++ post → ∀ ρ h, I pre ρ h → ∃ ρ2 h2, forGo b body (post.map f) ρ h = .nx ρ2 h2 ∧ I ys ρ2 h2 := by
    intro post
    induction post with
    | nil =>
      intro pre e ρ h hi
      rw [List.append_nil] at e
      subst e
      exact ⟨ρ, h, for_nil, hi⟩
    | cons y post ih =>
      intro pre e ρ h hi
      obtain ⟨ρ', ρ2, h2, e1, e2, hi2⟩ := hs pre y post e ρ h hi
      obtain ⟨ρ3, h3, e3, hi3⟩ := ih (pre ++ [y]) (by rw [e]; simp) ρ2 h2 hi2
      refine ⟨ρ3, h3, ?_, hi3⟩
      rw [List.map_cons, for_cons, e1, obd_some, e2, trn_nx, e3]
  exact key ys [] rfl ρ h h0
end
end J
namespace M
open J
/-! sorted lists of ints -/
def leI (a b : Int) : Bool := decide (a ≤ b)
def isort (l : List Int) : List Int := l.mergeSort leI
/-- strictly growing -/
abbrev Inc (l : List Int) : Prop := l.Pairwise (fun a b => a < b)
theorem Inc.le {l : List Int} (h : Inc l) : l.Pairwise (fun a b => a ≤ b) := h.imp fun h => Int.le_of_lt h
/-! all parts of a list -/
def allS (l : List Int) : List (List Int) := l.foldl (fun acc p => acc ++ acc.map (fun s => s ++ [p])) [[]]
def subs (l : List Int) : List (List Int) := (allS l).drop 1
/-! faces -/
/-! lists of faces, in order -/
/-- the faces of faces, each once, in order -/
def parts (fs : List (List Int)) : List (List Int) := fs.flatMap fun f => subs (isort f)
/-! few faces -/
def Few (fs : List (List Int)) : Prop := ∃ D : List (List Int), D.length < 61 ∧ ∀ s ∈ parts fs, s ∈ D
theorem Few.low {fs : List (List Int)} (h : Few fs) : (parts fs).eraseDups.length < 61 := by
  obtain ⟨D, hl, hD⟩ := h
  exact Nat.lt_of_le_of_lt (few_of (nodup_eraseDups _) fun x hx => hD x (List.mem_eraseDups.mp hx)) hl
theorem Few.len {fs : List (List Int)} (h : Few fs) : (parts fs).eraseDups.length < 76 := Nat.lt_trans h.low (by decide)
/-! faces told by places -/
end M
namespace M
open J PySem L2
/-! each thing once, in the order in which they come -/
section
variable {α : Type} [DecidableEq α]
def dd (l : List α) : List α := l.foldl (fun a x => if x ∈ a then a else a ++ [x]) []
end
/-! dict keys -/
/-! a web as a value -/
def sz (E : List (List Int)) (k : Nat) : List (List Int) := E.filter fun f => decide (f.length = k)
end M
namespace J
open PySem L2 M
section
variable {ρ : VSt} {h : VH}
theorem fin_low {v : VV} {n : Nat} {h : VH} {t : VH} (hn : h.length = n) (hv : lowV n v = true) (ho : h.all (lowO n) = true) : (SR.ret v (h ++ t)).fin n = .ok v h := by
  show Res.ok v (trim n v (h ++ t)) = _
  unfold trim
  by_cases e : (h ++ t).length = n
  · rw [if_pos e]
    have : t = [] := by
      rw [List.length_append] at e
      exact List.length_eq_zero_iff.mp (by omega)
    rw [this, List.append_nil]
  · rw [if_neg e]
    have : (h ++ t).take n = h := by rw [← hn, List.take_left]
    rw [this, if_pos ⟨hv, ho⟩]
theorem fin_o {v : VV} {o : VO} {t : VH} (hv : lowV 1 v = true) (ho : lowO 1 o = true) : (SR.ret v (o :: t)).fin 1 = .ok v [o] := fin_low (h := [o]) rfl hv (by simp [ho])
/-! sorted -/
theorem rng_eq (n : Nat) : rngV 0 n = (List.range n).map fun (i : Nat) => VV.int (0 + (i : Int)) := nr rfl
theorem sl_lst {xs : List VV} {lo hi : Option Int} : opSl h (.lst xs) lo hi = some (.lst (cut xs lo hi)) := nr rfl
theorem sl_tup {xs : List VV} {lo hi : Option Int} : opSl h (.tup xs) lo hi = some (.tup (cut xs lo hi)) := nr rfl
theorem add_lst {xs ys : List VV} (hl : xs.length + ys.length ≤ 16777216) : opAdd h (.lst xs) (.lst ys) = some (.lst (xs ++ ys)) := by
  show (if xs.length + ys.length ≤ 16777216 then _ else _) = _
  rw [if_pos hl]
theorem add_tup {xs ys : List VV} (hl : xs.length + ys.length ≤ 16777216) : opAdd h (.tup xs) (.tup ys) = some (.tup (xs ++ ys)) := by
  show (if xs.length + ys.length ≤ 16777216 then _ else _) = _
  rw [if_pos hl]
end
end J
namespace J
theorem rngB {n : Int} (h0 : 0 ≤ n) (h1 : n ≤ 1000000) : -(2 ^ 62) ≤ n ∧ n < 2 ^ 62 := ⟨by omega, by omega⟩
end J
namespace J
open PySem L2
/-! dicts with ints or texts as keys, by value -/
abbrev DKA := List Key × List VV
def hasQ (ks : List Key) (k : Key) : Bool := ks.any fun x => decide (x = k)
def putVQ {α : Type} (ks : List Key) (vs : List α) (k : Key) (v : α) : List α := if hasQ ks k = true then (ks.zip vs).map (fun p => if p.1 = k then v else p.2) else vs ++ [v]
def putKQ (ks : List Key) (k : Key) : List Key := if hasQ ks k = true then ks else ks ++ [k]
section
variable {X : Cx} {W : WX}
def eKnew : EF := fun _ h => .ok (.obj h.length) (h ++ [.dK [] []])
/-- d[k] = v, d a root -/
def setK (h : VH) (o i v : VV) : Option VH := match o with
  | .obj n => match h[n]? with
    | some (.dK ks vs) => (keyA i).bind fun k => if v.isObj = true ∨ ks.length ≥ SZ then none else some (h.set n (.dK (putKQ ks k) (putVQ ks vs k v)))
    | _ => none
  | _ => none
def sSetK (o i e : EF) : SF := fun ρ h => (e ρ h).st ρ fun v h1 => (o ρ h1).st ρ fun ov h2 => (i ρ h2).st ρ fun iv h3 => match setK h3 ov iv v with
  | some h4 => .nx ρ h4
  | none => .no
/-! for k in d -/
def iKeysK (f : EF) : AF := fun ρ h => (f ρ h).bind fun v h1 => match v with
  | .dK ks vs => .ok (ks.map keyB) h1
  | _ => .no
end
/-! {k: v for t in xs} -/
def dcGo (b : VV → VSt → Option VSt) (fk fv : EF) (ρ : VSt) : List VV → VH → DKA → Res DKA
  | [], h, a => .ok a h
  | x :: xs, h, a => match b x ρ with
    | none => .no
    | some ρ' => (fk ρ' h).bind fun kv h2 => (fv ρ' h2).bind fun v h3 => match keyA kv with
      | some k => if v.isObj = true then .no else dcGo b fk fv ρ xs h3 (putKQ a.1 k, putVQ a.1 a.2 k v)
      | none => .no
def eDc1 (own : List Nat) (it : AF) (b : VV → VSt → Option VSt) (fk fv : EF) : EF := fun ρ h => (it ρ h).bind fun xs h1 => if xs.length > SZ then .no else match dcGo b fk fv (wp ρ own) xs h1 ([], []) with
  | .ok a h2 => .ok (.dK a.1 a.2) h2
  | _ => .no
end J
namespace J
open PySem PySem.Spec L2 PyProof.Rows
/-! sorted(set(xs)), sorted({..}): ints -/
def leJ (a b : Int) : Bool := decide (a ≤ b)
def srtI (l : List Int) : List Int := l.eraseDups.mergeSort leJ
end J
namespace J
open PySem L2
open PyProof.Rows (IntsAre)
/-! sorted(set(xs)), ints -/
section
variable {X : Cx} {W : WX}
/-! sorted({e for x in xs}) -/
def eSortSc (own : List Nat) (it : AF) (b : VV → VSt → Option VSt) (fe : EF) : EF := fun ρ h => (it ρ h).bind fun xs h1 => (noX (accGo b (stSet fe) (wp ρ own) xs h1 [])).bind fun a h2 => if a.length < 64 then .ok (.lst ((srtI a).map .int)) h2 else .no
/-! xs.insert(i, e), xs a root -/
def insI (h : VH) (o i v : VV) : Option VH := match o, i with
  | .obj n, .int k => match h[n]? with
    | some (.fl xs) => if 0 ≤ k ∧ k < 2 ^ 62 ∧ xs.length < SZ ∧ v.isObj = false then some (h.set n (.fl (xs.take k.toNat ++ [v] ++ xs.drop k.toNat))) else none
    | _ => none
  | _, _ => none
def eIns (fo fi fe : EF) : EF := fun ρ h => (fo ρ h).bind fun ov h1 => match lstOf h1 ov with
  | none => .no
  | some _ => (aCons fi (aCons fe aNil) ρ h1).bind fun vs h2 => match vs with
    | [iv, v] => (match insI h2 ov iv v with
      | some h3 => .ok .non h3
      | none => .no)
    | _ => .no
/-! o.m(e, .., k=v) -/
end
end J
namespace J
open PySem L2
/-! [e for .. in .. for .. in .. if ..] -/
def lc2Go (b : VV → VSt → Option VSt) (t : TF) (it1 : AF) (b1 : VV → VSt → Option VSt) (vs1 : List Nat) (t1 : TF) (e : EF) (ρ : VSt) : List VV → VH → List VV → Res (List VV)
  | [], h, acc => .ok acc h
  | x :: xs, h, acc => match b x ρ with
    | none => .no
    | some ρ' => (t ρ' h).bind fun k h1 => if k = true then (it1 ρ' h1).bind fun ys h2 => if acc.length + ys.length > SZ then .no else (lcGo b1 t1 e (wp ρ' vs1) ys h2).bind fun vs h3 => lc2Go b t it1 b1 vs1 t1 e ρ xs h3 (acc ++ vs) else lc2Go b t it1 b1 vs1 t1 e ρ xs h1 acc
def eLc2 (own : List Nat) (it : AF) (b : VV → VSt → Option VSt) (t : TF) (it1 : AF) (b1 : VV → VSt → Option VSt) (vs1 : List Nat) (t1 : TF) (e : EF) : EF := fun ρ h => (it ρ h).bind fun xs h1 => match lc2Go b t it1 b1 vs1 t1 e (wp ρ own) xs h1 [] with
  | .ok vs h2 => .ok (.lst vs) h2
  | _ => .no
end J
namespace J
open PySem L2
/-! [e for x in xs if ..], xs a root that nothing in it changes -/
def rootL (v : VV) (h : VH) : Option (List VV) := match v with
  | .obj n => match h[n]? with
    | some (.fl xs) => some xs
    | _ => none
  | _ => none
def afterP (r : Res (List VV)) (h : VH) : Res VV := match r with
  | .ok vs _ => .ok (.lst vs) h
  | _ => .no
def eLcP (own : List Nat) (fo : EF) (b : VV → VSt → Option VSt) (t : TF) (e : EF) : EF := fun ρ h => (fo ρ h).bind fun v h1 => match rootL v h1 with
  | none => .no
  | some xs => if xs.length > SZ then .no else afterP (lcGo b t e (wp ρ own) xs h1) h1
end J
namespace J
open PySem L2
/-! len(set(xs)), ints -/
end J
namespace J
open PySem L2
/-! dict(zip(xs, ys)), the keys unlike -/
def keysA : List VV → Option (List Key)
  | [] => some []
  | v :: vs => (keyA v).bind fun k => (keysA vs).map fun r => k :: r
def dzM (vs : List VV) : Option VV := match vs with
  | [.lst xs, .lst ys] => (keysA xs).bind fun ks => if ks.Nodup ∧ ks.length = ys.length ∧ ks.length ≤ 1000 then some (.dK ks ys) else none
  | _ => none
def eDictZip (a : AF) : EF := fun ρ h => (a ρ h).bind fun vs h1 => lift (dzM vs) h1
end J
namespace J
open PySem L2 M
/-! evaluation of what J28 to J31 added -/
section
variable {ρ : VSt} {h : VH}
theorem a_knew : eKnew ρ h = .ok (.obj h.length) (h ++ [.dK [] []]) := nr rfl
theorem s_setK {o i e} : sSetK o i e ρ h = sbd (e ρ h) ρ (fun v h1 => sbd (o ρ h1) ρ (fun ov h2 => sbd (i ρ h2) ρ (fun iv h3 => onh (setK h3 ov iv v) ρ) (tg _)) (tg _)) (tg _) := nr rfl
def keysI (v : VV) (h1 : VH) : Res (List VV) := match v with
  | .dK ks vs => .ok (ks.map keyB) h1
  | _ => .no
theorem a_keysK {f} : iKeysK f ρ h = bnd (f ρ h) keysI (tg _) := nr rfl
theorem keysI_dK {ks vs} : keysI (.dK ks vs) h = .ok (ks.map keyB) h := nr rfl
def afterK (r : Res DKA) : Res VV := match r with
  | .ok a h2 => .ok (.dK a.1 a.2) h2
  | _ => .no
theorem a_dc1 {own it b fk fv} : eDc1 own it b fk fv ρ h = bnd (it ρ h) (fun xs h1 => if xs.length > SZ then .no else afterK (dcGo b fk fv (wp ρ own) xs h1 ([], []))) (tg _) := nr rfl
theorem a_sortSc {own it b fe} : eSortSc own it b fe ρ h = bnd (it ρ h) (fun xs h1 => bnd (noX (accGo b (stSet fe) (wp ρ own) xs h1 [])) (fun a h2 => if a.length < 64 then .ok (.lst ((srtI a).map .int)) h2 else .no) (tg _)) (tg _) := nr rfl
def insM (o : Option VH) : Res VV := match o with
  | some h3 => .ok .non h3
  | none => .no
def insR (h2 : VH) (ov : VV) (vs : List VV) : Res VV := match vs with
  | [iv, v] => insM (insI h2 ov iv v)
  | _ => .no
theorem a_ins {fo fi fe} : eIns fo fi fe ρ h = bnd (fo ρ h) (fun ov h1 => chkL (lstOf h1 ov) (bnd (aCons fi (aCons fe aNil) ρ h1) (fun vs h2 => insR h2 ov vs) (tg _))) (tg _) := by
  unfold eIns
  cases fo ρ h with
  | no => rfl
  | exc => rfl
  | ok ov h1 =>
    show (match lstOf h1 ov with
      | none => Res.no
      | some _ => _) = chkL (lstOf h1 ov) _
    cases lstOf h1 ov with
    | none => rfl
    | some _ => rfl
theorem a_lc2 {own it b t it1 b1 vs1 t1 e} : eLc2 own it b t it1 b1 vs1 t1 e ρ h = bnd (it ρ h) (fun xs h1 => afterL (lc2Go b t it1 b1 vs1 t1 e (wp ρ own) xs h1 [])) (tg _) := nr rfl
theorem frzO_dK {ks vs n} : frzO (some (.dK ks vs)) n h = .ok (.dK ks vs) (h.set n (.fzn (.dK ks vs))) := nr rfl
theorem frzR_dK {ks vs} : frzR (.dK ks vs) h = .ok (.dK ks vs) h := nr rfl
def lcP (own : List Nat) (b : VV → VSt → Option VSt) (t : TF) (e : EF) (ρ : VSt) (h1 : VH) (o : Option (List VV)) : Res VV := match o with
  | none => .no
  | some xs => if xs.length > SZ then .no else afterP (lcGo b t e (wp ρ own) xs h1) h1
theorem a_lcP {own fo b t e} : eLcP own fo b t e ρ h = bnd (fo ρ h) (fun v h1 => lcP own b t e ρ h1 (rootL v h1)) (tg _) := nr rfl
theorem lcP_some {own b t e xs} : lcP own b t e ρ h (some xs) = if xs.length > SZ then .no else afterP (lcGo b t e (wp ρ own) xs h) h := nr rfl
def rootO (o : Option VO) : Option (List VV) := match o with
  | some (.fl xs) => some xs
  | _ => none
theorem rootL_obj {n : Nat} : rootL (.obj n) h = rootO (h[n]?) := by
  cases e : h[n]? with
  | none => simp only [rootL, rootO, e]
  | some o => cases o <;> simp only [rootL, rootO, e]
theorem rootO_fl {xs} : rootO (some (.fl xs)) = some xs := nr rfl
theorem a_dictZip {a : AF} : eDictZip a ρ h = bnd (a ρ h) (fun vs h1 => lift (dzM vs) h1) (tg _) := nr rfl
/-! points led -/
end
end J
namespace J
open PySem L2
open PyProof.Rows (envOfC)
/-! refusals: own exception classes over one own base whose __init__ sets word and at -/
theorem takesN0 {X : Cx} : L2N.Takes X (fun _ _ _ _ => False) := fun _ _ x => by
  obtain ⟨_, _, _, _, _, _, _, _, _, _, _, _, _, _, _, _, z⟩ := x
  exact z.elim
section
variable {X : Cx} {W : WX}
def sRaise0 (x : Str) : SF := fun ρ h => .exc x ["at", "word"] [.int (-1), .str x] ρ h
end
end J
namespace J
open PySem L2
open PyProof.Rows (envOfC)
/-! methods and classes that let refusals out -/
abbrev Wc (E : XK) : WX := fun a d _ H' => E a d H'
def eMethX (cn m : Str) (n : Nat) (F : FF) (dws : List VV) (fo : EF) (fa : AF) : EF := fun ρ h => (fo ρ h).bind fun v h1 => match insOf h1 v with
  | some a => if a.1 = cn ∧ lookN a.2.1 a.2.2 m = none then (fa ρ h1).bind fun vs h2 => if (v :: (vs ++ dws)).length = n then F (v :: (vs ++ dws)) h2 else .no else .no
  | none => .no
def mkX (n0 : Nat) (r : Res VV) : Res VV := match r with
  | .ok .non h' => if n0 ≤ h'.length ∧ (h'.take n0).all (lowO n0) = true then (match dzV h' n0 8 (.obj n0) with
    | some w => .ok w (h'.take n0)
    | none => .no) else .no
  | .exc x ns vs h' => .exc x ns vs h'
  | _ => .no
def eMakeX (cn : Str) (n : Nat) (F : FF) (dws : List VV) (fa : AF) : EF := fun ρ h => (fa ρ h).bind fun vs h1 => if (VV.obj h1.length :: (vs ++ dws)).length = n then mkX h1.length (F (.obj h1.length :: (vs ++ dws)) (h1 ++ [.ins cn [] []])) else .no
end J
namespace J
open PySem L2
open PyProof.Rows (envOfC)
/-! within an except suite -/
end J
namespace J
open PySem L2
open PyProof.Rows (envOfC)
theorem PIH.mono {X : Cx} {tg e : Expr} {t t' : TI} (h : L2H.PIH X tg e t) (m : ∀ σ H R, t' σ H R → t σ H R) : L2H.PIH X tg e t' := ⟨fun pins s σ H R I q => h.run pins s σ H R I (m σ H R q)⟩
section
variable {X : Cx} {W : WX}
/-! text.split(sep) -/
def eSplit (o e : EF) : EF := fun ρ h => (o ρ h).bind fun v h1 => match v with
  | .str a => (e ρ h1).bind fun w h2 => (match w with
    | .str b => if (b.length == 0) = false ∧ a.length + 2 ≤ SZ then .ok (.lst ((Txt.split a b).map .str)) h2 else .no
    | _ => .no)
  | _ => .no
theorem rvs_strs {c : Ct} {z : Addr → Prop} {H : Hp} : ∀ ys : List Str, RVs c z H (ys.map VV.str) (ys.map V.str)
  | [] => RVs.nil
  | y :: ys => RVs.cons (by rw [RV]) (rvs_strs ys)
theorem j_split {o e : Expr} {fo fe : EF} {apos pos : Pos} (ho : PE X o (tE (ct X) W fo)) (he : PE X e (tE (ct X) W fe)) (hs : starEach [e] X.env = [(false, eval e X.env)] := by rfl) (hbase : attributeBase o "split" X.env (eval o X.env) = eval o X.env := by rfl) (hline : (apos.endLine == pos.line) = true := by rfl) :
    PE X (.Call (.Attribute o "split" apos) [e] [] pos) (tE (ct X) W (eSplit fo fe)) :=
  PE.mono (pe_split ho he hs hbase hline) fun σ H Q ⟨g, ρ, h0, rh, rs, p⟩ => by
    refine ⟨g, ρ, h0, rh, rs, (Pst.bind (R := RT (ct X)) p).imp fun u H1 ⟨g1, v, h1, st, rh1, rv1, p1⟩ => ?_⟩
    cases v with
    | str a =>
      refine ⟨⟨a, str_get rv1⟩, g1, ρ, h1, rh1, rs.stp st, (Pst.bind (R := RT (ct X)) p1).imp fun u2 H2 ⟨g2, w, h2, st2, rh2, rv2, p2⟩ => ?_⟩
      cases w with
      | str b =>
        simp only at p2
        by_cases cc : (b.length == 0) = false ∧ a.length + 2 ≤ SZ
        · rw [if_pos cc] at p2
          refine ⟨a, b, str_get rv1, by rw [str_get rv2], cc.1, SZ_le cc.2, fun q hq => ?_⟩
          obtain ⟨s1, s2, s3⟩ := new_lst rh2 hq (rvs_strs (Txt.split a b))
          exact p2 _ _ _ s1 s2 s3
        · rw [if_neg cc] at p2; exact p2.elim
      | _ => exact p2.elim
    | _ => exact p1.elim
end
/-! isinstance of the handled exception (which has a dict) -/
end J
namespace J
open PySem L2
open PyProof.Rows (envOfC)
end J
namespace J
open PySem L2
end J
namespace J
open PySem L2
open PyProof.Rows (envOfC)
/-! _law_refusal(lambda: ..) -/
end J
namespace J
open PySem L2
open PyProof.Rows (envOfC)
/-- the context of a lambda's body; what it lets out has no context of its own -/
abbrev lamN (X : Cx) (A : Around) (outer : List Env) (s : Shared) (H : Hp) (E : XK) (scope : Scope) (f c' : Addr) : Cx := (LamX.lamCx X A outer s H E scope f c').wish fun e s' =>
  wpAny (model X.prog X.w) (A.deeper (LamX.lamEnv X scope s.heap.objs.size f c')) (leaving (LamX.lamEnv X scope s.heap.objs.size f c') e) (fun _ s2 => L2N.CX X.prog X.w outer H s E e s2) (fun e2 s2 => L2N.CX X.prog X.w outer H s E e2 s2) s'
def eRef (xs : List Str) (fb : EF) : EF := fun ρ h => match fb ρ h with
  | .no => .no
  | .ok _ h' => .ok (.tup [.str "let", .int (-1)]) (trim h.length .non h')
  | .exc x ns vs h' => if x ∈ xs ∧ ns = (["at", "word"] : List Str) then (match vs with
    | [.int n, .str y] => if y = x then .ok (.tup [.str x, .int n]) (trim h.length .non h') else .no
    | _ => .no) else .no
end J
namespace J
open PySem L2
open PyProof.Rows (envOfC)
/-- what _law_refusal makes of a lambda, at the def g0 -/
def RefRun (X : Cx) (g0 : Addr) (xs : List Str) (kk : Nat) : Prop := ∀ (W : WX) (fb : EF) (k : Nat) (params : Arguments) (body : Expr) (scope : Scope), Room (k + 2) X.A → kk ≤ k → LamX.LamS X.env.scope scope →
  (∀ (q : Str) (cl : List (Str × Addr)) (pm cv ctv : Value), bindArgs (PySem.W.kla_fn "<lambda>" q params body scope cl pm cv ctv) ⟨[], []⟩ = pure []) →
  (∀ (A : Around) (outer : List Env) (s : Shared) (H : Hp) (E : XK) (f c' : Addr), Room k (A.deeper (LamX.lamEnv X scope s.heap.objs.size f c')) → PE (lamN X A outer s H E scope f c') body (tE (ct X) (Wc E) fb)) →
  ∀ (pins : List (Addr × Obj)) (s1 : Shared) (σ : St) (H1 : Hp) (Q : VK) (g : Gh) (ρ : VSt) (h0 : VH) (f c' : Addr) (pm2 ctv : Value), Inv X pins σ H1 s1 → s1.heap.get? f = some (PySem.W.kla_obj "<lambda>" (X.env.qual ++ "<lambda>") params body scope (cloFrom X.env.cells scope.names []) pm2 c' ctv) → H1 f = none → f ∉ frs X.stack → H1 c' = some (LamX.CodeO c' (X.env.qual ++ "<lambda>")) →
    RH (ct X) g h0 H1 → RS (ct X) g H1 ρ σ → Pst (ct X) W σ (RT (ct X)) g H1 Q (eRef xs fb ρ h0) → wpAny (model X.prog X.w) X.A (call (.ref g0) [.ref f]) (EP X pins σ Q) X.xe s1
structure OkR (P : Program) (w : World) (K : PySem.W.Frag) (mg : Str → Option Value) (base : Heap) (xs : List Str) (kk : Nat) : Prop where
  ex : ∃ g0, mg "_law_refusal" = some (.ref g0) ∧ PySem.W.keepIn K (.ref g0) = true ∧ ∀ X : Cx, X.prog = P → X.w = w → X.K = K → X.mg = mg → X.base = base → RefRun X g0 xs kk
end J
namespace J
open PySem L2
open PyProof.Rows (envOfC)
end J
namespace J
open PySem L2
open PyProof.Rows (envOfC)
/-! x = [a]; x.append(b): a list of two, as data -/
def sSetApp (i : Nat) (fa fb : EF) : SF := fun ρ h => (fa ρ h).st ρ fun v h1 => (fb (ρ.set i none) h1).st (ρ.set i none) fun w h2 => if (v.isObj || w.isObj) = true then .no else .nx (ρ.set i (some (.lst [v, w]))) h2
end J
namespace J
open PySem L2
variable {ρ : VSt} {h h' : VH}
theorem s_setApp {i fa fb} : sSetApp i fa fb ρ h = sbd (fa ρ h) ρ (fun v h1 => sbd (fb (ρ.set i none) h1) (ρ.set i none) (fun w h2 => if (v.isObj || w.isObj) = true then .no else .nx (ρ.set i (some (.lst [v, w]))) h2) (tg _)) (tg _) := nr rfl
theorem s_raise0 {x} : sRaise0 x ρ h = .exc x ["at", "word"] [.int (-1), .str x] ρ h := nr rfl
end J
namespace J
open PySem L2
open PyProof.Rows (envOfC)
/-! == and != of instances, by the class's own __eq__ -/
section
variable {X : Cx} {W : WX} {k : Nat} {cn : Str} {Fm : FF}
def ownR (ne : Bool) (cn : Str) (F : FF) (v w : VV) (h2 : VH) : Res VV := match insOf h2 v, insOf h2 w with
  | some a, some b => if a.1 = cn ∧ b.1 = cn then (noX (F [v, w] h2)).bind fun r h3 => (match r with
    | .bl r => .ok (.bl (if ne = true then !r else r)) h3
    | _ => .no) else .no
  | _, _ => .no
def eOwn (ne : Bool) (cn : Str) (F : FF) (fa fb : EF) : EF := fun ρ h => (fa ρ h).bind fun v h1 => (fb ρ h1).bind fun w h2 => ownR ne cn F v w h2
end
end J
namespace J
open PySem PySem.Spec L2 PyProof.Rows
section
variable {P : Program} {w : World} {A : Around} {E : Value → Shared → Prop} {s : Shared} {a : Addr} {o : Obj} {es : Array (Int × Value)} {ep : Nat} {t : SetTable}
/-! set(xs) - set(ys) == set(): ints -/
theorem SetR.typeIs {S : Int → Bool} {n : Nat} (R : SetR w s.heap a S n) : s.TypeIs (.ref a) "set" := by
  obtain ⟨o, es, ep, t, ho, hex, r⟩ := R
  exact ⟨o, ho, hex.1⟩
end
end J
namespace J
open PySem PySem.Spec L2 PyProof.Rows
end J
namespace J
open PySem L2
/-! len(x) by the class's own __len__; isinstance(x, own class) -/
def lenR (cn : Str) (F : FF) (v : VV) (h1 : VH) : Res VV := match insOf h1 v with
  | some a => if a.1 = cn then (noX (F [v] h1)).bind fun r h2 => (match r with
    | .int n => if 0 ≤ n ∧ n < 1000000 then .ok (.int n) h2 else .no
    | _ => .no) else .no
  | none => .no
def eLenOwn (cn : Str) (F : FF) (fa : EF) : EF := fun ρ h => (fa ρ h).bind fun v h1 => lenR cn F v h1
/-- is a thing of this kind one of C? -/
def isiK (h : VH) (cn : Str) (cs : List Str) (v : VV) : Option Bool := match insOf h v with
  | some a => if a.1 = cn then some true else if a.1 ∈ cs then some false else none
  | none => match v with
    | .non => some false
    | .int _ => some false
    | .str _ => some false
    | .tup _ => some false
    | .lst _ => some false
    | .dK _ _ => some false
    | _ => none
def eIsiC (cn : Str) (cs : List Str) (fa : EF) : EF := fun ρ h => (fa ρ h).bind fun v h1 => lift ((isiK h1 cn cs v).map .bl) h1
end J
namespace J
open PySem L2
/-! == and != of dicts with ints as values -/
section
variable {X : Cx} {W : WX}
/-! for k, v in d.items() -/
def iItemsK (f : EF) : AF := fun ρ h => (f ρ h).bind fun v h1 => match v with
  | .dK ks vs => .ok ((ks.zip vs).map fun p => .tup [keyB p.1, p.2]) h1
  | _ => .no
end
end J
namespace J
open PySem L2
/-! list(range(n)), as data -/
def eListRng (f : EF) : EF := fun ρ h => (f ρ h).bind fun v h1 => match v with
  | .int n => if 0 ≤ n ∧ n ≤ SZ then .ok (.lst (rngV 0 n.toNat)) h1 else .no
  | _ => .no
end J
namespace J
open PySem L2
variable {ρ : VSt} {h h' : VH}
theorem a_own {ne c F fa fb} : eOwn ne c F fa fb ρ h = bnd (fa ρ h) (fun v h1 => bnd (fb ρ h1) (fun w h2 => ownR ne c F v w h2) (tg _)) (tg _) := nr rfl
theorem a_lenOwn {c F fa} : eLenOwn c F fa ρ h = bnd (fa ρ h) (fun v h1 => lenR c F v h1) (tg _) := nr rfl
theorem a_isiC {c cs fa} : eIsiC c cs fa ρ h = bnd (fa ρ h) (fun v h1 => lift ((isiK h1 c cs v).map .bl) h1) (tg _) := nr rfl
theorem a_items {fa} : iItemsK fa ρ h = bnd (fa ρ h) (fun v h1 => match v with
  | .dK ks vs => .ok ((ks.zip vs).map fun p => VV.tup [keyB p.1, p.2]) h1
  | _ => .no) (tg _) := nr rfl
theorem a_methX {cn m n F dws fo fa} : eMethX cn m n F dws fo fa ρ h = bnd (fo ρ h) (fun v h1 => methC cn m (insOf h1 v) (bnd (fa ρ h1) (fun vs h2 => if (v :: (vs ++ dws)).length = n then F (v :: (vs ++ dws)) h2 else .no) (tg _))) (tg _) := by
  unfold eMethX
  show Res.bind _ _ = Res.bind _ _
  congr 1
theorem a_makeX {cn n F dws fa} : eMakeX cn n F dws fa ρ h = bnd (fa ρ h) (fun vs h1 => if (VV.obj h1.length :: (vs ++ dws)).length = n then mkX h1.length (F (.obj h1.length :: (vs ++ dws)) (h1 ++ [.ins cn [] []])) else .no) (tg _) := nr rfl
theorem fin_exc {x ns vs} {n : Nat} : (SR.exc x ns vs ρ h).fin n = .exc x ns vs h := nr rfl
def lrD (v : VV) (h1 : VH) : Res VV := match v with
  | .int n => if 0 ≤ n ∧ n ≤ SZ then .ok (.lst (rngV 0 n.toNat)) h1 else .no
  | _ => .no
theorem a_listRng {f} : eListRng f ρ h = bnd (f ρ h) lrD (tg _) := nr rfl
theorem lrD_int {n : Int} : lrD (.int n) h = if 0 ≤ n ∧ n ≤ SZ then .ok (.lst (rngV 0 n.toNat)) h else .no := nr rfl
end J
namespace J
open PySem L2
/-! the head: one run in the kernel, what is leant on told by names -/
def obsL (as : List Addr) (fa : List He.Fa) (fn : List He.DefD) (ex : PySem.W.Frag → Bool) (g : Addr → Option Obj) : He.AlD × Bool := (He.obsD fa fn (He.frT g as), ex (He.frT g as))
/-- what is told of the written part -/
def SaysL (fa : List He.Fa) (fn : List He.DefD) (ex : PySem.W.Frag → Bool) (h : Heap) (K : PySem.W.Frag) : Prop := K.In h ∧ He.SaysD fa fn K ∧ ex K = true
def hookL (as : List Addr) (fa : List He.Fa) (fn : List He.DefD) (ex : PySem.W.Frag → Bool) : PySem.W.Hook where
  α := He.AlD × Bool
  obs s := obsL as fa fn ex s.heap.get?
  val _ := (He.valD fn, true)
  says _ h := ∃ K : PySem.W.Frag, SaysL fa fn ex h K
  of _ _ e := ⟨_, He.frT_in, congrArg (fun z : He.AlD × Bool => z.1) e, congrArg (fun z : He.AlD × Bool => z.2) e⟩
  keeps _ _ _ := fun ⟨K, a, b⟩ k => ⟨K, PySem.W.Frag.In.keeps a k, b⟩
theorem obsL_eq {as : List Addr} {fa : List He.Fa} {fn : List He.DefD} {ex : PySem.W.Frag → Bool} (s : PySem.W.SharedT) : obsL as fa fn ex (HandSHeadRun.getT s) = (hookL as fa fn ex).obs s.abs := by
  show obsL as fa fn ex (HandSHeadRun.getT s) = obsL as fa fn ex s.abs.heap.get?
  rw [show HandSHeadRun.getT s = s.abs.heap.get? from funext (HandSHeadRun.getT_eq s)]
section
variable {fa : List He.Fa} {fn : List He.DefD} {ex : PySem.W.Frag → Bool} {h : Heap} {K : PySem.W.Frag} {mg : Str → Option Value}
theorem SaysL.f (c : SaysL fa fn ex h K) {f : He.Fa} (i : Nat) (e : fa[i]? = some f) : f.ok K = true := c.2.1.fact i e
theorem SaysL.d (c : SaysL fa fn ex h K) {d : He.DefD} (i : Nat) (e : fn[i]? = some d) : ∃ fd, FunD K d.name d.qual d.params d.body d.scope (d.dvs K) (d.kws K) (He.fAd K d.at_) fd := c.2.1.def_ i e
/-- a global's def -/
theorem SaysL.dm (c : SaysL fa fn ex h K) {x : Str} {st : Stmt} {df : List He.Dv} {kw : List (Str × He.Dv)} (i : Nat) (e : fn[i]? = some ⟨(x, none), x, x, defArgs st, defBody st, defScope st, df, kw⟩) : ∃ fd, Dm K x x st (df.map (He.Dv.v K)) (kw.map fun q => (q.1, q.2.v K)) (He.ga K x) fd := by
  obtain ⟨fd, F⟩ := c.d i e
  exact ⟨fd, ⟨F⟩⟩
theorem SaysL.glo (c : SaysL fa fn ex h K) (G : h.Ns mainGlobals mg) {x : Str} (i : Nat) (e : fa[i]? = some (.glo x)) : mg x = some (.ref (He.ga K x)) := He.glo_ok c.1 G (c.f i e)
theorem SaysL.free (c : SaysL fa fn ex h K) (G : h.Ns mainGlobals mg) {x : Str} (i : Nat) (e : fa[i]? = some (.free x)) : mg x = none := He.free_ok c.1 G (c.f i e)
theorem SaysL.int (c : SaysL fa fn ex h K) (G : h.Ns mainGlobals mg) {x : Str} {z : Int} (i : Nat) (e : fa[i]? = some (.int x z)) : ∃ t, mg x = some (.int z t) := He.int_ok c.1 G (c.f i e)
theorem SaysL.str (c : SaysL fa fn ex h K) (G : h.Ns mainGlobals mg) {x z : Str} (i : Nat) (e : fa[i]? = some (.str x z)) : ∃ t, mg x = some (.str z t) := He.str_ok c.1 G (c.f i e)
theorem SaysL.cls (c : SaysL fa fn ex h K) (G : h.Ns mainGlobals mg) {x : Str} (i j : Nat) (e : fa[i]? = some (.glo x)) (e2 : fa[j]? = some (.cls x)) : ClsT K mg x (He.ga K x) := ⟨c.glo G i e, He.cls_ok (c.f j e2)⟩
end
/-- the law's code object and its empty table -/
def tabB (K : PySem.W.Frag) : Bool := match PySem.W.tabIn K lamFn with
  | some (_, T) => (K.lookup T).isNone
  | none => false
theorem tabB_ok {K : PySem.W.Frag} (b : tabB K = true) : ∃ c T, PySem.W.tabIn K lamFn = some (c, T) ∧ K.lookup T = none := by
  unfold tabB at b
  split at b
  · rename_i c T e
    exact ⟨c, T, e, by simpa using b⟩
  · cases b
theorem walk_L {l : PySem.W.OpenLaw} {n k : Nat} {q : Program} {loose : List Str} {XP : (Str → Option Value) → Heap → Prop} {d : DefRec} {x : Str} {Fm : FF} {fs : List He.Fa} {fn : List He.DefD} {ex : PySem.W.Frag → Bool}
    (hn : l.most = some n) (hn2 : n ≤ sizeLine) (hdf : d.params.defaults = []) (hr : Room k PySem.callerA) (hrec : ((PyProof.Rows.recsOf q).find? fun e => e.name == lamFn).isSome = true) (hd : d.name = lamFn)
    (F : ∀ (w : World) (mg : Str → Option Value) (fa : Addr) (h : Heap) (K : PySem.W.Frag), SaysL fs fn ex h K → h.Ns mainGlobals mg → mg lamFn = some (.ref fa) →
      ∃ (fd : FuncData) (cc P : Addr), PySem.W.tabIn K lamFn = some (cc, P) ∧ K.lookup P = none ∧ (∀ (s : Shared) (u : Value), BindsTo s fd ⟨[u], []⟩ [(x, u)]) ∧
        ∀ base : Heap, K.In base → base.Ns mainGlobals mg → LamX.TabB base mg cc P → FnOk l.prog w K mg base (L2N.CX l.prog w) k fa fd [x] (spF ⟨K, mg⟩ 1 Fm))
    (hF : ∀ ns : List Int, ns.length ≤ n → (∀ z ∈ ns, Builtin.Int.intBits z ≤ 1048576) → ∃ h', Fm [.scr (ns.map VV.int)] [] = .ok (.bl true) h') {as : List Addr} :
    PySem.W.WalkO q loose XP (hookL as fs fn ex).says l.row.toRowW d [] (fun f vs => PySem.call f vs) := by
  refine Att.attach_callB hn hdf fun w s₀ s₁ mg mb fa o pm cd doc a vs ns G Y ho hd1 hcd hmg hobj hints hlen hbits hg => ?_
  rw [hd] at hmg
  obtain ⟨K, Y⟩ : ∃ K, SaysL fs fn ex _ K := Y
  obtain ⟨fd, cc, P, hT, nT, hb, hF'⟩ := F w mg fa _ K Y G.T.g hmg
  obtain ⟨dL, hL⟩ := Option.isSome_iff_exists.mp hrec
  obtain ⟨C, hP⟩ := PySem.W.tab_of G.T Y.1 hL hT
  have one : ∀ p ∈ [(cc, P)], p = (cc, P) := fun p hp => by simpa using hp
  exact LamX.law_callTs (cs := [(cc, P)]) Y.1 G.T.g G.T.b G.T.builtins G.T.nolimit hg (fun p hp => (one p hp) ▸ hP) (fun p hp => (one p hp) ▸ nT) (fun p hp => (one p hp) ▸ C) G.T.bmain hobj hints (Nat.le_trans hlen hn2) hr
    (fun base KB GB TB => hF' base KB GB (TB (cc, P) (List.mem_singleton_self _))) hb (fun H hH hS => law_sp (fun c2 P2 e2 => by
      have e3 := hT.symm.trans e2
      cases e3
      exact LamX.TabS.nil (hH (cc, P) (List.mem_singleton_self _))) hS (hF ns hlen hbits)) fun H e s' => cx_no
end J
namespace J
open PySem L2
/-! {k: v, l: w} with tuples as keys -/
end J
namespace J
open PySem L2
end J
namespace J
open PySem L2
/-! texts: str(x), int(text), sep.join(..), text.split(sep), f'..', a sign in a text -/
def strV : VV → Option Str
  | .int i => if i.natAbs.log2 < 1920 then some (toString i) else none
  | .str a => some a
  | _ => none
def cStr : OpN := fun _ vs => match vs with
  | [v] => (strV v).map .str
  | _ => none
def cIntS : OpN := fun _ vs => match vs with
  | [.str a] => if a.length ≤ 640 then (PySem.intText? a).map .int else none
  | _ => none
section
variable {X : Cx} {W : WX}
theorem cr_strJ : CallR X (.type "str") (RdN (ct X) cStr) :=
  CallR.imp (CallR.or call_str_int SkE.call_str_str) fun xs H Q ⟨g, h, vs, r, rh, rv, e, kk⟩ => by
    unfold cStr at e
    split at e
    · obtain ⟨y, e1, e2⟩ := Option.map_eq_some_iff.mp e
      subst e2
      obtain ⟨u, q, rfl, ra, rfl⟩ := rv
      unfold strV at e1
      split at e1
      · split at e1
        · rename_i i cc
          cases e1
          exact .inl ⟨i, by rw [int_get ra], cc, kk g H _ .refl rh rt_str⟩
        · cases e1
      · rename_i a
        cases e1
        exact .inr ⟨_, by rw [str_get ra], kk g H _ .refl rh rt_str⟩
      · cases e1
    · cases e
theorem cr_intS : CallR X (.type "int") (RdN (ct X) cIntS) :=
  CallR.imp call_int_str fun xs H Q ⟨g, h, vs, r, rh, rv, e, kk⟩ => by
    unfold cIntS at e
    split at e
    · rename_i a
      split at e
      · rename_i cc
        obtain ⟨n, e1, e2⟩ := Option.map_eq_some_iff.mp e
        subst e2
        obtain ⟨u, q, rfl, ra, rfl⟩ := rv
        exact ⟨a, n, by rw [str_get ra], e1, cc, kk g H _ .refl rh rt_int⟩
      · cases e
    · cases e
def joinR (a : Str) (w : VV) (h : VH) : Res VV := match (seqV h w).bind strsOf with
  | some ys => if (ys.map (·.length)).sum + ys.length * a.length ≤ 16777216 then .ok (.str (Txt.join a ys)) h else .no
  | none => .no
def strR (v : VV) (k : Str → Res VV) : Res VV := match v with
  | .str a => k a
  | _ => .no
def eJoin (fo fe : EF) : EF := fun ρ h => (fo ρ h).bind fun v h1 => strR v fun a => (fe ρ h1).bind fun w h2 => joinR a w h2
theorem j_join {o e : Expr} {fo fe : EF} {apos pos : Pos} (ho : PE X o (tE (ct X) W fo)) (he : PE X e (tE (ct X) W fe)) (hs : starEach [e] X.env = [(false, eval e X.env)] := by rfl) (hbase : attributeBase o "join" X.env (eval o X.env) = eval o X.env := by rfl) (hline : (apos.endLine == pos.line) = true := by rfl) :
    PE X (.Call (.Attribute o "join" apos) [e] [] pos) (tE (ct X) W (eJoin fo fe)) :=
  PE.mono (pe_join ho he hs hbase hline) fun σ H Q ⟨g, ρ, h0, rh, rs, p⟩ => by
    refine ⟨g, ρ, h0, rh, rs, (Pst.bind (R := RT (ct X)) p).imp fun u H1 ⟨g1, v, h1, st, rh1, rv1, p1⟩ => ?_⟩
    cases v with
    | str a =>
      refine ⟨⟨a, str_get rv1⟩, g1, ρ, h1, rh1, rs.stp st, (Pst.bind (R := RT (ct X)) p1).imp fun u2 H2 ⟨g2, w, h2, st2, rh2, rv2, p2⟩ => ?_⟩
      unfold joinR at p2
      split at p2
      · rename_i ys ey
        split at p2
        · rename_i cc
          obtain ⟨xs, e1, e2⟩ := Option.bind_eq_some_iff.mp ey
          obtain ⟨q, us, rfl, sq, rvs⟩ := seqV_get rh2 rv2 e1
          have eu := strsOf_rv rvs e2
          subst eu
          exact ⟨a, q, ys, str_get rv1, rfl, sq, cc, p2 g2 H2 _ .refl rh2 rt_str⟩
        · exact p2.elim
      · exact p2.elim
    | _ => exact p1.elim
/-! f-strings -/
def fmtR (v : VV) (h : VH) : Res VV := match strV v with
  | some y => if y.length ≤ SZ then .ok (.str y) h else .no
  | none => .no
def eFmt (f : EF) : EF := fun ρ h => (f ρ h).bind fmtR
theorem j_fmt {e : Expr} {f : EF} {pos : Pos} (he : PE X e (tE (ct X) W f)) : PE X (.FormattedValue e (-1) none pos) (tE (ct X) W (eFmt f)) :=
  PE.mono (pe_fmt he) fun σ H Q ⟨g, ρ, h0, rh, rs, p⟩ => by
    refine ⟨g, ρ, h0, rh, rs, (Pst.bind (R := RT (ct X)) p).imp fun u H1 ⟨g1, v, h1, st, rh1, rv1, p1⟩ => ?_⟩
    unfold fmtR at p1
    split at p1
    · rename_i y ey
      split at p1
      · rename_i cc
        unfold strV at ey
        split at ey
        · split at ey
          · rename_i i ci
            cases ey
            exact .inr ⟨i, int_get rv1, ci, p1 g1 H1 _ .refl rh1 rt_str⟩
          · cases ey
        · cases ey
          exact .inl ⟨_, str_get rv1, SZ_le cc, p1 g1 H1 _ .refl rh1 rt_str⟩
        · cases ey
      · exact p1.elim
    · exact p1.elim
/-- the parts of an f-string -/
def catR (acc : Str) (v : VV) (k : Str → Res VV) : Res VV := strR v fun y => if (acc ++ y).length ≤ SZ then k (acc ++ y) else .no
def joinedGo : List EF → Str → EF
  | [], acc => fun _ h => .ok (.str acc) h
  | f :: fs, acc => fun ρ h => (f ρ h).bind fun v h1 => catR acc v fun a => joinedGo fs a ρ h1
inductive JJs (X : Cx) (W : WX) : List Expr → List EF → Prop where
  | nil : JJs X W [] []
  | cons {e : Expr} {f : EF} {es : List Expr} {fs : List EF} (h : PE X e (tE (ct X) W f)) (r : JJs X W es fs) : JJs X W (e :: es) (f :: fs)
theorem JJs.pj {es : List Expr} {fs : List EF} (h : JJs X W es fs) : PJ X es (fs.map fun f => tE (ct X) W f) := by
  induction h with
  | nil => exact .nil
  | cons h r ih => exact .cons h ih
theorem joined_ok {σ : St} {Q : VK} : ∀ (fs : List EF) (acc : Str) (g : Gh) (ρ : VSt) (h : VH) (H : Hp), RH (ct X) g h H → RS (ct X) g H ρ σ → Pst (ct X) W σ (RT (ct X)) g H Q (joinedGo fs acc ρ h) → tJs (fs.map fun f => tE (ct X) W f) acc σ H fun out H1 => Q (.str out) H1
  | [], acc, g, ρ, h, H, rh, rs, p => p g H _ .refl rh rt_str
  | f :: fs, acc, g, ρ, h, H, rh, rs, p => by
    refine ⟨g, ρ, h, rh, rs, (Pst.bind (R := RT (ct X)) p).imp fun u H1 ⟨g1, v, h1, st, rh1, rv1, p1⟩ => ?_⟩
    unfold catR at p1
    cases v with
    | str y =>
      unfold strR at p1
      simp only at p1
      split at p1
      · rename_i cc
        exact ⟨y, str_get rv1, SZ_le cc, joined_ok fs (acc ++ y) g1 ρ h1 H1 rh1 (rs.stp st) p1⟩
      · exact p1.elim
    | _ => exact p1.elim
def eJoined (fs : List EF) : EF := joinedGo fs Str.empty
theorem j_joined {v1 v2 : Expr} {rest : List Expr} {fs : List EF} {pos : Pos} (h : JJs X W (v1 :: v2 :: rest) fs) : PE X (.JoinedStr (v1 :: v2 :: rest) pos) (tE (ct X) W (eJoined fs)) :=
  PE.mono (pe_joined h.pj) fun σ H Q ⟨g, ρ, h0, rh, rs, p⟩ => joined_ok fs Str.empty g ρ h0 H rh rs p
/-! a sign in a text -/
def opInS (ne : Bool) : Op2 := fun _ x y => match x, y with
  | .str a, .str z => match a.cps.toList with
    | [c] => some (.bl (ne ^^ decide (c ∈ z.cps.toList)))
    | _ => none
  | _, _ => none
theorem or_inS : OpR X (compareOp .In) (Rd2 (ct X) (opInS false)) :=
  OpR.imp op_in_sign fun x y H Q ⟨g, h, v, w, r, rh, rv, rw', e, kk⟩ => by
    unfold opInS at e
    split at e
    · rename_i a z
      split at e
      · rename_i c ec
        cases e
        have ea : a = ⟨#[c]⟩ := by
          cases a with
          | mk q =>
            have : q = #[c] := by
              apply Array.ext'
              exact ec
            rw [this]
        rw [Bool.false_xor] at kk
        exact ⟨c, z, by rw [str_get rv, ea], str_get rw', kk g H _ .refl rh rt_bl⟩
      · cases e
    · cases e
end
end J
namespace J
open PySem L2
/-! one, *others = a tuple -/
theorem star_tuple {P : Program} {w : World} {A : Around} {E : Value → Shared → Prop} {s : Shared} {l : Addr} {items : Array Value} {x : Value} {xs : List Value} {Q : List Value → Shared → Prop} (ht : PyProof.Rows.IsTup s.heap l items) (hh : A.handled = none) (hx : items.toList = x :: xs) (hz : items.size ≤ 16384)
    (h : ∀ (h1 : Heap) (tk : Nat), (∀ b o, s.heap.get? b = some o → h1.get? b = some o) → Q [x, .ref h1.objs.size] { s with heap := h1.push { cls := .type "list", data := .seq xs.toArray }, toks := tk }) : wpAny (model P w) A (unpackItems (.ref l) 2 (some 1)) Q E s := by
  have ne : l ≠ s.heap.objs.size := by
    obtain ⟨o, e, _⟩ := ht
    exact Nat.ne_of_lt (Heap.lt_size e)
  have sz : items.size = xs.length + 1 := by
    have := congrArg List.length hx
    rw [Array.length_toList, List.length_cons] at this
    exact this
  unfold unpackItems notIterableAtAll
  refine wpAny_bind (wpAny_bind (wpAny_specialOf ht.typeIs PyProof.Rows.slot_tuple_iter.lookup (wpAny_pure ?_)))
  rw [if_neg Bool.false_ne_true]
  refine wpAny_bind (wpAny_holding (PyProof.Rows.iter_tuple ht ?_))
  refine wpAny_bind (wpAny_holding (PyProof.Rows.draw_tuple ne 1 0 _ _ ⟨_, Heap.get?_push_size _ rfl, rfl, rfl⟩ (ht.push _) (by omega) fun g1 i1 s1 => ?_))
  have t1 : PyProof.Rows.IsTup g1 l items := (ht.push _).extBut s1.extBut ne
  have e1 : (items.toList.drop 0).take 1 = [x] := by rw [hx]; rfl
  have e2 : items.toList.drop 1 = xs := by rw [hx]; rfl
  rw [e1]
  show wpAny _ _ (if ([x] : List Value).length < 1 then _ else _) _ _ _
  rw [if_neg (by simp)]
  have i1' := i1
  have t1' := t1
  obtain ⟨oi, hoi, _⟩ := i1'
  obtain ⟨ol, hol, _⟩ := t1'
  refine wpAny_bind (wpAny_holding (PySem.W.kun_collect (s := { s with heap := g1 }) (T := "tuple_iterator") (k := 1) (.inr (.inr (.inr rfl))) (Walks.tuple (A := A.in1) hh s.heap.objs.size l ne items) (fun j u z => z.1.typeIs) (by omega) ⟨i1, t1⟩ (Heap.lt_size hoi) (Heap.lt_size hol) (fun g2 tk k2 => ?_) (by rw [sizeLine_eq]; omega)))
  rw [e2]
  show wpAny _ _ (if xs.length < 2 - 1 - 1 then _ else _) _ _ _
  rw [if_neg (by omega)]
  show wpAny _ _ (newList (xs.take (xs.length - 0)) >>= fun d => pure ([x] ++ [d] ++ xs.drop (xs.length - 0))) _ _ _
  rw [Nat.sub_zero, List.take_length, List.drop_length]
  refine wpAny_bind (wpAny_newList (wpAny_pure (h g2 tk fun b o e => ?_)) (by rw [sizeLine_eq]; omega))
  have nb : b ≠ s.heap.objs.size := Nat.ne_of_lt (Heap.lt_size e)
  exact k2 b o nb (s1.extBut b o nb (Heap.get?_push_of_some _ e))
theorem star_list {P : Program} {w : World} {A : Around} {E : Value → Shared → Prop} {s : Shared} {l : Addr} {items : Array Value} {x : Value} {xs : List Value} {Q : List Value → Shared → Prop} (ht : s.heap.IsList l items) (hh : A.handled = none) (hx : items.toList = x :: xs) (hz : items.size ≤ 16384)
    (h : ∀ (h1 : Heap) (tk : Nat), (∀ b o, s.heap.get? b = some o → h1.get? b = some o) → Q [x, .ref h1.objs.size] { s with heap := h1.push { cls := .type "list", data := .seq xs.toArray }, toks := tk }) : wpAny (model P w) A (unpackItems (.ref l) 2 (some 1)) Q E s := by
  have ne : l ≠ s.heap.objs.size := by
    obtain ⟨o, e, _⟩ := ht
    exact Nat.ne_of_lt (Heap.lt_size e)
  have sz : items.size = xs.length + 1 := by
    have := congrArg List.length hx
    rw [Array.length_toList, List.length_cons] at this
    exact this
  unfold unpackItems notIterableAtAll
  refine wpAny_bind (wpAny_bind (wpAny_specialOf ht.typeIs PySem.F.slot_list_iter.lookup (wpAny_pure ?_)))
  rw [if_neg Bool.false_ne_true]
  refine wpAny_bind (wpAny_holding (wpAny_pyIter_list ht ?_))
  refine wpAny_bind (wpAny_holding (PySem.W.kun_draw ne 1 0 _ _ ⟨_, Heap.get?_push_size _ rfl, rfl, rfl⟩ (ht.push _) (by omega) fun g1 i1 s1 => ?_))
  have t1 : g1.IsList l items := (ht.push _).extBut s1.extBut ne
  have e1 : (items.toList.drop 0).take 1 = [x] := by rw [hx]; rfl
  have e2 : items.toList.drop 1 = xs := by rw [hx]; rfl
  rw [e1]
  show wpAny _ _ (if ([x] : List Value).length < 1 then _ else _) _ _ _
  rw [if_neg (by simp)]
  have i1' := i1
  have t1' := t1
  obtain ⟨oi, hoi, _⟩ := i1'
  obtain ⟨ol, hol, _⟩ := t1'
  refine wpAny_bind (wpAny_holding (PySem.W.kun_collect (s := { s with heap := g1 }) (T := "list_iterator") (k := 1) (.inr (.inr (.inl rfl))) (Walks.list (A := A.in1) hh s.heap.objs.size l ne items) (fun j u z => z.1.typeIs) (by omega) ⟨i1, t1⟩ (Heap.lt_size hoi) (Heap.lt_size hol) (fun g2 tk k2 => ?_) (by rw [sizeLine_eq]; omega)))
  rw [e2]
  show wpAny _ _ (if xs.length < 2 - 1 - 1 then _ else _) _ _ _
  rw [if_neg (by omega)]
  show wpAny _ _ (newList (xs.take (xs.length - 0)) >>= fun d => pure ([x] ++ [d] ++ xs.drop (xs.length - 0))) _ _ _
  rw [Nat.sub_zero, List.take_length, List.drop_length]
  refine wpAny_bind (wpAny_newList (wpAny_pure (h g2 tk fun b o e => ?_)) (by rw [sizeLine_eq]; omega))
  have nb : b ≠ s.heap.objs.size := Nat.ne_of_lt (Heap.lt_size e)
  exact k2 b o nb (s1.extBut b o nb (Heap.get?_push_of_some _ e))
section
variable {X : Cx} {W : WX}
def gStar (K : PySem.W.Frag) (t : TGs) : TG := fun v σ H Q => ∃ a x xs, v = .ref a ∧ SqT K H a (x :: xs) ∧ xs.length ≤ 1000 ∧ ∀ l, H l = none → t [x, .ref l] σ (upd H l (.lst xs)) Q
theorem pg_star {e1 e2 : Expr} {p pos : Pos} {k : Nat} {t : TGs} (hc : X.calm = true) (h : PGs X [e1, e2] t) (hn : (assignEach [e1, .Starred e2 p] X.env).length = 2 := by rfl) (hst : (assignEach [e1, .Starred e2 p] X.env).findIdx? (·.1) = some 1 := by rfl)
    (hm : (assignEach [e1, .Starred e2 p] X.env).map (·.2) = (assignEach [e1, e2] X.env).map (·.2) := by rfl) : PG X (.Tuple [e1, .Starred e2 p] k pos) (gStar X.K t) := by
  refine ⟨fun pins s σ H v u Q I r hw => ?_⟩
  obtain ⟨a, x, xs, ev, hq, hl, hw⟩ := hw
  subst ev
  cases r
  obtain ⟨its, rv, ht, hz⟩ := I.tuple hq
  cases rv with
  | @cons _ y _ ys rx rxs =>
    have hlen := rxs.length
    rw [PyProof.Rows.assign_Tuple]
    refine wpAny_bind (wpAny_standAt ?_)
    unfold unpack
    rw [hn, hst, hm]
    refine wpAny_bind (wpAny_holding (star_tuple ht (I.ok.hd hc) (x := y) (xs := ys) (by simp) (by simp; omega) fun h1 tk kp => ?_))
    have I1 : Inv X pins σ H { s with heap := h1, toks := tk } := I.kept kp
    have fr := I1.hok.fresh (Nat.le_refl _)
    have I2 := I1.laid (a := h1.objs.size) (o := .lst xs) (h' := h1.push { cls := .type "list", data := .seq ys.toArray }) (t' := tk) (fun b o q => Heap.get?_push_of_some _ q) (Nat.le_refl _) ⟨by rw [sizeLine_eq]; omega, ys, _, rxs, Heap.get?_push_size _ rfl⟩
    exact h.run pins _ σ _ [x, .ref h1.objs.size] _ Q I2 (.cons rx (.cons rfl .nil)) (hw _ fr)
def gStarL (K : PySem.W.Frag) (t : TGs) : TG := fun v σ H Q => ∃ a x xs, v = .ref a ∧ SqL K H a (x :: xs) ∧ xs.length ≤ 1000 ∧ ∀ l, H l = none → t [x, .ref l] σ (upd H l (.lst xs)) Q
theorem pg_starL {e1 e2 : Expr} {p pos : Pos} {k : Nat} {t : TGs} (hc : X.calm = true) (h : PGs X [e1, e2] t) (hn : (assignEach [e1, .Starred e2 p] X.env).length = 2 := by rfl) (hst : (assignEach [e1, .Starred e2 p] X.env).findIdx? (·.1) = some 1 := by rfl)
    (hm : (assignEach [e1, .Starred e2 p] X.env).map (·.2) = (assignEach [e1, e2] X.env).map (·.2) := by rfl) : PG X (.Tuple [e1, .Starred e2 p] k pos) (gStarL X.K t) := by
  refine ⟨fun pins s σ H v u Q I r hw => ?_⟩
  obtain ⟨a, x, xs, ev, hq, hl, hw⟩ := hw
  subst ev
  cases r
  obtain ⟨its, rv, ⟨ob, m, ho, hcl, hdi, hda⟩, hz⟩ := I.list hq
  cases rv with
  | @cons _ y _ ys rx rxs =>
    have hlen := rxs.length
    rw [PyProof.Rows.assign_Tuple]
    refine wpAny_bind (wpAny_standAt ?_)
    unfold unpack
    rw [hn, hst, hm]
    refine wpAny_bind (wpAny_holding (star_list (items := (y :: ys).toArray) ⟨ob, ho, hcl, m, hda⟩ (I.ok.hd hc) (x := y) (xs := ys) (by simp) (by simp; omega) fun h1 tk kp => ?_))
    have I1 : Inv X pins σ H { s with heap := h1, toks := tk } := I.kept kp
    have fr := I1.hok.fresh (Nat.le_refl _)
    have I2 := I1.laid (a := h1.objs.size) (o := .lst xs) (h' := h1.push { cls := .type "list", data := .seq ys.toArray }) (t' := tk) (fun b o q => Heap.get?_push_of_some _ q) (Nat.le_refl _) ⟨by rw [sizeLine_eq]; omega, ys, _, rxs, Heap.get?_push_size _ rfl⟩
    exact h.run pins _ σ _ [x, .ref h1.objs.size] _ Q I2 (.cons rx (.cons rfl .nil)) (hw _ fr)
def sStar (i j : Nat) (f : EF) : SF := fun ρ h => (f ρ h).st ρ fun v h1 => match v with
  | .tup (x :: xs) => if xs.length ≤ 1000 then .nx ((ρ.set i (some x)).set j (some (.lst xs))) h1 else .no
  | _ => .no
theorem js_star {x1 x2 : Str} {p1 p2 : Pos} {e : Expr} {f : EF} {i j : Nat} {k : Nat} {p pos' pos : Pos} (hc : X.calm = true) (he : PE X e (tE (ct X) W f)) (h1 : PG X (.Name x1 p1) (gName i)) (h2 : PG X (.Name x2 p2) (gName j))
    (hn : (assignEach [.Name x1 p1, .Starred (.Name x2 p2) p] X.env).length = 2 := by rfl) (hst : (assignEach [.Name x1 p1, .Starred (.Name x2 p2) p] X.env).findIdx? (·.1) = some 1 := by rfl) (hm : (assignEach [.Name x1 p1, .Starred (.Name x2 p2) p] X.env).map (·.2) = (assignEach [.Name x1 p1, .Name x2 p2] X.env).map (·.2) := by rfl)
    (hs : swapsWithSole [.Tuple [.Name x1 p1, .Starred (.Name x2 p2) p] k pos'] e pos.line X.env = pure false := by rfl) (hw : swappedStores [.Tuple [.Name x1 p1, .Starred (.Name x2 p2) p] k pos'] e X.env = pure none := by rfl) (ha : (assignEach [.Tuple [.Name x1 p1, .Starred (.Name x2 p2) p] k pos'] X.env).map (·.2) = [assign (.Tuple [.Name x1 p1, .Starred (.Name x2 p2) p] k pos') X.env] := by rfl) :
    PS X (.Assign [.Tuple [.Name x1 p1, .Starred (.Name x2 p2) p] k pos'] e pos) (tS (ct X) W (sStar i j f)) :=
  PS.mono (ps_asg he (pg_star (t := gCons (gName i) (gCons (gName j) gNil)) hc (pgs_cons h1 (pgs_cons h2 pgs_nil)) hn hst hm) hs hw ha) fun D σ H ⟨g, ρ, h, rh, rs, q⟩ => by
    refine ⟨g, ρ, h, rh, rs, (Pst.st (R := RT (ct X)) rs q).imp fun u H1 ⟨g1, v, h1, st, rh1, rs1, rv1, q1⟩ => ?_⟩
    split at q1
    · rename_i x xs
      split at q1
      · rename_i cc
        obtain ⟨a, us, rfl, hq, rvs⟩ := tup_get rv1
        rw [RVs] at rvs
        obtain ⟨w, ws, e0, r0, rr⟩ := rvs
        subst e0
        refine ⟨a, w, ws, rfl, hq.sq, by have := rr.len; omega, fun l hl => ?_⟩
        obtain ⟨s1, s2, s3⟩ := new_lst rh1 hl rr
        have pat := pats_cons (pat_nm (K := X.K) i) (pats_cons (pat_nm (K := X.K) j) pats_nil)
        refine pat.run (ct X) _ h1 _ ρ σ [x, .lst xs] [w, .ref l] _ rfl s2 (rs1.stp s1) ⟨w, [.ref l], rfl, (RT.of_rv r0).stp s1, .ref l, [], rfl, s3, rfl⟩ rfl _ fun σ' rs' _ _ => ?_
        exact q1 _ _ σ' s1 s2 rs'
      · exact q1.elim
    · exact q1.elim
def sStarL (i j : Nat) (f : EF) : SF := fun ρ h => (f ρ h).st ρ fun v h1 => match v with
  | .lst (x :: xs) => if xs.length ≤ 1000 then .nx ((ρ.set i (some x)).set j (some (.lst xs))) h1 else .no
  | _ => .no
theorem js_starL {x1 x2 : Str} {p1 p2 : Pos} {e : Expr} {f : EF} {i j : Nat} {k : Nat} {p pos' pos : Pos} (hc : X.calm = true) (he : PE X e (tE (ct X) W f)) (h1 : PG X (.Name x1 p1) (gName i)) (h2 : PG X (.Name x2 p2) (gName j))
    (hn : (assignEach [.Name x1 p1, .Starred (.Name x2 p2) p] X.env).length = 2 := by rfl) (hst : (assignEach [.Name x1 p1, .Starred (.Name x2 p2) p] X.env).findIdx? (·.1) = some 1 := by rfl) (hm : (assignEach [.Name x1 p1, .Starred (.Name x2 p2) p] X.env).map (·.2) = (assignEach [.Name x1 p1, .Name x2 p2] X.env).map (·.2) := by rfl)
    (hs : swapsWithSole [.Tuple [.Name x1 p1, .Starred (.Name x2 p2) p] k pos'] e pos.line X.env = pure false := by rfl) (hw : swappedStores [.Tuple [.Name x1 p1, .Starred (.Name x2 p2) p] k pos'] e X.env = pure none := by rfl) (ha : (assignEach [.Tuple [.Name x1 p1, .Starred (.Name x2 p2) p] k pos'] X.env).map (·.2) = [assign (.Tuple [.Name x1 p1, .Starred (.Name x2 p2) p] k pos') X.env] := by rfl) :
    PS X (.Assign [.Tuple [.Name x1 p1, .Starred (.Name x2 p2) p] k pos'] e pos) (tS (ct X) W (sStarL i j f)) :=
  PS.mono (ps_asg he (pg_starL (t := gCons (gName i) (gCons (gName j) gNil)) hc (pgs_cons h1 (pgs_cons h2 pgs_nil)) hn hst hm) hs hw ha) fun D σ H ⟨g, ρ, h, rh, rs, q⟩ => by
    refine ⟨g, ρ, h, rh, rs, (Pst.st (R := RT (ct X)) rs q).imp fun u H1 ⟨g1, v, h1, st, rh1, rs1, rv1, q1⟩ => ?_⟩
    split at q1
    · rename_i x xs
      split at q1
      · rename_i cc
        obtain ⟨a, us, rfl, hq, rvs⟩ := lstOf_get rh1 rv1 (xs := x :: xs) rfl
        rw [RVs] at rvs
        obtain ⟨w, ws, e0, r0, rr⟩ := rvs
        subst e0
        refine ⟨a, w, ws, rfl, hq, by have := rr.len; omega, fun l hl => ?_⟩
        obtain ⟨s1, s2, s3⟩ := new_lst rh1 hl rr
        have pat := pats_cons (pat_nm (K := X.K) i) (pats_cons (pat_nm (K := X.K) j) pats_nil)
        refine pat.run (ct X) _ h1 _ ρ σ [x, .lst xs] [w, .ref l] _ rfl s2 (rs1.stp s1) ⟨w, [.ref l], rfl, (RT.of_rv r0).stp s1, .ref l, [], rfl, s3, rfl⟩ rfl _ fun σ' rs' _ _ => ?_
        exact q1 _ _ σ' s1 s2 rs'
      · exact q1.elim
    · exact q1.elim
end
end J
namespace J
open PySem L2
variable {ρ : VSt} {h h' : VH}
def jnR (v : VV) (r : Res VV) : Res VV := match v with
  | .str a => r.bind fun w h2 => joinR a w h2
  | _ => .no
def spR (v : VV) (r : Res VV) : Res VV := match v with
  | .str a => r.bind fun w h2 => (match w with
    | .str b => if (b.length == 0) = false ∧ a.length + 2 ≤ SZ then .ok (.lst ((Txt.split a b).map .str)) h2 else .no
    | _ => .no)
  | _ => .no
theorem a_join {fo fe} : eJoin fo fe ρ h = bnd (fo ρ h) (fun v h1 => jnR v (fe ρ h1)) (tg _) := nr rfl
theorem jnR_str {a r} : jnR (.str a) r = bnd r (fun w h2 => joinR a w h2) (tg _) := nr rfl
theorem joinR_lst {a : Str} {ys : List Str} (hb : (ys.map (·.length)).sum + ys.length * a.length ≤ 16777216) : joinR a (.lst (ys.map VV.str)) h = .ok (.str (Txt.join a ys)) h := by
  have e : strsOf (ys.map VV.str) = some ys := by
    induction ys with
    | nil => rfl
    | cons y ys ih =>
      simp only [List.map_cons, List.sum_cons, List.length_cons] at hb
      rw [List.map_cons, strsOf, ih (by rw [Nat.add_mul] at hb; omega)]
      rfl
  unfold joinR
  rw [show (seqV h (.lst (ys.map VV.str))).bind strsOf = some ys from e]
  simp only
  rw [if_pos hb]
theorem a_split {fo fe} : eSplit fo fe ρ h = bnd (fo ρ h) (fun v h1 => spR v (fe ρ h1)) (tg _) := nr rfl
theorem spR_ok {a b : Str} (hb : (b.length == 0) = false) (ha : a.length + 2 ≤ SZ) : spR (.str a) (.ok (.str b) h) = .ok (.lst ((Txt.split a b).map .str)) h := by
  show (if (b.length == 0) = false ∧ a.length + 2 ≤ SZ then Res.ok (VV.lst ((Txt.split a b).map .str)) h else .no) = _
  rw [if_pos ⟨hb, ha⟩]
theorem a_fmt {f} : eFmt f ρ h = bnd (f ρ h) fmtR (tg _) := nr rfl
theorem a_joined {fs} : eJoined fs ρ h = joinedGo fs Str.empty ρ h := nr rfl
theorem jd_nil {acc} : joinedGo [] acc ρ h = .ok (.str acc) h := nr rfl
theorem jd_cons {f fs acc} : joinedGo (f :: fs) acc ρ h = bnd (f ρ h) (fun v h1 => catR acc v fun a => joinedGo fs a ρ h1) (tg _) := nr rfl
theorem catR_str {acc y : Str} {k : Str → Res VV} (hz : (acc ++ y).length ≤ SZ) : catR acc (.str y) k = k (acc ++ y) := by
  show (if (acc ++ y).length ≤ SZ then k (acc ++ y) else .no) = _
  rw [if_pos hz]
theorem fmtR_str {y : Str} (hz : y.length ≤ SZ) : fmtR (.str y) h = .ok (.str y) h := by
  show (if y.length ≤ SZ then Res.ok (VV.str y) h else .no) = _
  rw [if_pos hz]
theorem str_int {i : Int} (hi : i.natAbs.log2 < 1920) : cStr h [.int i] = some (.str (toString i)) := by
  show ((if i.natAbs.log2 < 1920 then some (toString i : Str) else none).map VV.str) = _
  rw [if_pos hi]
  rfl
def starT (i j : Nat) (ρ : VSt) (v : VV) (h1 : VH) : SR := match v with
  | .tup (x :: xs) => if xs.length ≤ 1000 then .nx ((ρ.set i (some x)).set j (some (.lst xs))) h1 else .no
  | _ => .no
def starL (i j : Nat) (ρ : VSt) (v : VV) (h1 : VH) : SR := match v with
  | .lst (x :: xs) => if xs.length ≤ 1000 then .nx ((ρ.set i (some x)).set j (some (.lst xs))) h1 else .no
  | _ => .no
theorem s_star {i j f} : sStar i j f ρ h = sbd (f ρ h) ρ (fun v h1 => starT i j ρ v h1) (tg _) := nr rfl
theorem s_starL {i j f} : sStarL i j f ρ h = sbd (f ρ h) ρ (fun v h1 => starL i j ρ v h1) (tg _) := nr rfl
theorem starT_tup {i j x xs} (hx : xs.length ≤ 1000) : starT i j ρ (.tup (x :: xs)) h = .nx ((ρ.set i (some x)).set j (some (.lst xs))) h := by
  show (if xs.length ≤ 1000 then SR.nx ((ρ.set i (some x)).set j (some (.lst xs))) h else .no) = _
  rw [if_pos hx]
theorem starL_lst {i j x xs} (hx : xs.length ≤ 1000) : starL i j ρ (.lst (x :: xs)) h = .nx ((ρ.set i (some x)).set j (some (.lst xs))) h := by
  show (if xs.length ≤ 1000 then SR.nx ((ρ.set i (some x)).set j (some (.lst xs))) h else .no) = _
  rw [if_pos hx]
theorem inS_sign {c : Nat} {z : Str} : opInS false h (.str ⟨#[c]⟩) (.str z) = some (.bl (decide (c ∈ z.cps.toList))) := by
  show some (VV.bl (false ^^ decide (c ∈ z.cps.toList))) = _
  rw [Bool.false_xor]
theorem int_text {a : Str} {n : Int} (hl : a.length ≤ 640) (e : PySem.intText? a = some n) : cIntS h [.str a] = some (.int n) := by
  show (if a.length ≤ 640 then (PySem.intText? a).map VV.int else none) = _
  rw [if_pos hl, e]
  rfl
end J
namespace L
open PySem L2 J
def top (i : Nat) : Stmt := PySem.Challenge.pw_cupweb_k63_deeds_written_and_read.main.body.getD i (.Pass ⟨0, 0, 0, 0⟩)
abbrev s_law_box : Stmt := top 19
abbrev s_law_mixed : Stmt := top 20
abbrev s_law_take : Stmt := top 21
abbrev s_law_ten_names : Stmt := top 23
abbrev s_law_great_number : Stmt := top 26
abbrev s_law_plain_deed : Stmt := top 27
abbrev s_law_written_deed : Stmt := top 28
abbrev s_law_row_text : Stmt := top 24
abbrev s_law_text : Stmt := top 25
abbrev s_row_text : Stmt := top 10
abbrev s_face_text : Stmt := top 9
abbrev s_deed_text : Stmt := top 11
abbrev s_law_alike : Stmt := top 22
abbrev s_is_name : Stmt := top 6
abbrev s_read_name : Stmt := top 14
abbrev s_read_plain : Stmt := top 12
abbrev s_read_number : Stmt := top 13
abbrev s_read_row : Stmt := top 15
abbrev s_read_words : Stmt := top 16
abbrev s_deed_of : Stmt := top 17
abbrev s_law : Stmt := top 29
def fs_0 : List He.Fa := [.free "all", .free "bool", .free "int", .free "isinstance", .free "len", .free "list", .free "range", .free "str", .free "tuple", .free "zip", .int "FIGURES_MOST" 30, .str "LETTERS" "abcdefghijklmnopqrstuvwxyz", .int "SIGNS_MOST" 8, .glo "_law_box", .glo "_law_mixed", .glo "_law_take", .glo "_law_ten_names", .glo "_law_great_number", .glo "_law_plain_deed", .glo "_law_written_deed"]
def fs_1 : List He.Fa := [.glo "_law_row_text", .glo "_law_text", .glo "row_text", .glo "face_text", .glo "deed_text", .glo "_law_alike", .glo "is_name", .glo "read_name", .glo "read_plain", .glo "read_number", .glo "read_row", .glo "read_words", .glo "deed_of", .glo "law"]
def fs : List He.Fa := fs_0 ++ fs_1
def fn_0 : List He.DefD := [⟨("_law_box", none), "_law_box", "_law_box", defArgs s_law_box, defBody s_law_box, defScope s_law_box, [], []⟩, ⟨("_law_mixed", none), "_law_mixed", "_law_mixed", defArgs s_law_mixed, defBody s_law_mixed, defScope s_law_mixed, [], []⟩, ⟨("_law_take", none), "_law_take", "_law_take", defArgs s_law_take, defBody s_law_take, defScope s_law_take, [], []⟩, ⟨("_law_ten_names", none), "_law_ten_names", "_law_ten_names", defArgs s_law_ten_names, defBody s_law_ten_names, defScope s_law_ten_names, [], []⟩, ⟨("_law_great_number", none), "_law_great_number", "_law_great_number", defArgs s_law_great_number, defBody s_law_great_number, defScope s_law_great_number, [], []⟩, ⟨("_law_plain_deed", none), "_law_plain_deed", "_law_plain_deed", defArgs s_law_plain_deed, defBody s_law_plain_deed, defScope s_law_plain_deed, [], []⟩, ⟨("_law_written_deed", none), "_law_written_deed", "_law_written_deed", defArgs s_law_written_deed, defBody s_law_written_deed, defScope s_law_written_deed, [], []⟩, ⟨("_law_row_text", none), "_law_row_text", "_law_row_text", defArgs s_law_row_text, defBody s_law_row_text, defScope s_law_row_text, [], []⟩, ⟨("_law_text", none), "_law_text", "_law_text", defArgs s_law_text, defBody s_law_text, defScope s_law_text, [], []⟩, ⟨("row_text", none), "row_text", "row_text", defArgs s_row_text, defBody s_row_text, defScope s_row_text, [], []⟩, ⟨("face_text", none), "face_text", "face_text", defArgs s_face_text, defBody s_face_text, defScope s_face_text, [], []⟩, ⟨("deed_text", none), "deed_text", "deed_text", defArgs s_deed_text, defBody s_deed_text, defScope s_deed_text, [], []⟩, ⟨("_law_alike", none), "_law_alike", "_law_alike", defArgs s_law_alike, defBody s_law_alike, defScope s_law_alike, [], []⟩, ⟨("is_name", none), "is_name", "is_name", defArgs s_is_name, defBody s_is_name, defScope s_is_name, [], []⟩, ⟨("read_name", none), "read_name", "read_name", defArgs s_read_name, defBody s_read_name, defScope s_read_name, [], []⟩, ⟨("read_plain", none), "read_plain", "read_plain", defArgs s_read_plain, defBody s_read_plain, defScope s_read_plain, [], []⟩, ⟨("read_number", none), "read_number", "read_number", defArgs s_read_number, defBody s_read_number, defScope s_read_number, [], []⟩, ⟨("read_row", none), "read_row", "read_row", defArgs s_read_row, defBody s_read_row, defScope s_read_row, [], []⟩, ⟨("read_words", none), "read_words", "read_words", defArgs s_read_words, defBody s_read_words, defScope s_read_words, [], []⟩, ⟨("deed_of", none), "deed_of", "deed_of", defArgs s_deed_of, defBody s_deed_of, defScope s_deed_of, [], []⟩]
def fn_1 : List He.DefD := [⟨("law", none), "law", "law", defArgs s_law, defBody s_law, defScope s_law, [], []⟩]
def fn : List He.DefD := fn_0 ++ fn_1
def exs (K : PySem.W.Frag) : List Bool := [tabB K]
def ex (K : PySem.W.Frag) : Bool := (exs K).all id
def loose_0 : List PySem.Str := ["WebError", "BadText", "SIGNS_MOST", "LETTERS", "is_name", "FIGURES_MOST", "face_text", "row_text", "deed_text", "read_plain", "read_number", "read_name", "read_row", "read_words", "deed_of", "_law_box", "_law_mixed", "_law_take", "_law_alike", "_law_ten_names"]
def loose_1 : List PySem.Str := ["_law_row_text", "_law_text", "_law_great_number", "_law_plain_deed", "_law_written_deed"]
def loose : List PySem.Str := loose_0 ++ loose_1
end L
namespace L
open PySem PySem.W PySem.Calls PyProof.Rows
abbrev hR : OpenRow := OpenLaw.row PySem.Challenge.rw_cupweb_k63_deeds_written_and_read
abbrev hq : Program := view hR.prog [29]
def has : List Addr := List.range 1000
abbrev hk : Hook := J.hookL has fs fn ex
def hob (s : SharedT) : He.AlD × Bool := J.obsL has fs fn ex (HandSHeadRun.getT s)
theorem hrun (w : World) : HandSHeadRun.RunEq hR hq hk hob 30000 loose w := by
  intro os
  kernel_rfl
end L
namespace L
open PySem L2 J
abbrev lb_law_box_1 : SF :=
    (sSet 1 (eBin opMod (eBin opAdd (eBin opAdd (eBin opMul (eVar 1) (eC (.int 31))) (eVar 2)) (eC (.int 17))) (eC (.int 2147483647))))
def B_law_box : SF :=
    (sSeq (sSet 1 (eC (.int 0)))
    (sSeq (sFor (iSeq (eSl opSl (eVar 0) oNone (oSome (eC (.int 63))))) (bNm 2) lb_law_box_1)
    (sRet (eLstO (aCons (eCall cList (aCons (eSl opSl (eVar 0) oNone (oSome (eC (.int 63)))) aNil)) (aCons (eC (.int 0)) (aCons (eC (.int 0)) (aCons (eC (.int 0)) (aCons (eVar 1) aNil)))))))))
def F_law_box : FF := fnF 3 B_law_box
def B_law_mixed : SF :=
    (sSeq (sSet 2 (eBin opMod (eBin opAdd (eBin opAdd (eBin opMul (eVar 0) (eC (.int 48271))) (eBin opMul (eVar 1) (eC (.int 69621)))) (eC (.int 12345))) (eC (.int 2147483647))))
    (sSeq (sSet 3 (eBin opMod (eBin opAdd (eBin opAdd (eBin opMul (eVar 2) (eBin opAdd (eBin opMod (eVar 2) (eC (.int 65521))) (eC (.int 7)))) (eBin opMul (eVar 1) (eC (.int 40692)))) (eBin opMod (eVar 0) (eC (.int 104729)))) (eC (.int 998244353))))
    (sRet (eBin opFdiv (eVar 3) (eC (.int 7))))))
def F_law_mixed : FF := fnF 4 B_law_mixed
def B_law_take : SF :=
    (sSeq (sSetI (eVar 0) (eC (.int 3)) (eBin opAdd (eBin opIx (eVar 0) (eC (.int 3))) (eC (.int 1))))
    (sSeq (sIf (tVal (eBin opGt (eBin opIx (eVar 0) (eC (.int 2))) (eC (.int 0)))) (sSeq (sSet 3 (eBin opIx (eVar 0) (eC (.int 2))))
    (sSeq (sSetI (eVar 0) (eC (.int 2)) (eBin opFdiv (eVar 3) (eVar 1)))
    (sRet (eBin opMod (eVar 3) (eVar 1))))) sSkip)
    (sSeq (sIf (tVal (eBin opGe (eBin opIx (eVar 0) (eC (.int 1))) (eCall cLen (aCons (eBin opIx (eVar 0) (eC (.int 0))) aNil)))) (sRet (eBin opMod (eFn 2 F_law_mixed [] (aCons (eBin opIx (eVar 0) (eC (.int 4))) (aCons (eBin opIx (eVar 0) (eC (.int 3))) aNil))) (eVar 1))) sSkip)
    (sSeq (sSet 2 (eBin opIx (eBin opIx (eVar 0) (eC (.int 0))) (eBin opIx (eVar 0) (eC (.int 1)))))
    (sSeq (sSetI (eVar 0) (eC (.int 1)) (eBin opAdd (eBin opIx (eVar 0) (eC (.int 1))) (eC (.int 1))))
    (sSeq (sIf (tVal (eBin opLt (eVar 2) (eBin opPow (eC (.int 10)) (eC (.int 18))))) (sRet (eBin opMod (eFn 2 F_law_mixed [] (aCons (eVar 2) (aCons (eBin opIx (eVar 0) (eC (.int 3))) aNil))) (eVar 1))) sSkip)
    (sSeq (sSetI (eVar 0) (eC (.int 2)) (eBin opFdiv (eVar 2) (eVar 1)))
    (sRet (eBin opMod (eVar 2) (eVar 1))))))))))
def F_law_take : FF := fnF 4 B_law_take
abbrev le_law_ten_names_1 : EF :=
    (eFn 2 F_law_take [] (aCons (eVar 0) (aCons (eC (.int 26)) aNil)))
abbrev le_law_ten_names_2 : EF :=
    (eBin opIx (eVar 4) (eVar 9))
abbrev lb_law_ten_names_1 : SF :=
    (sSeq (sSet 8 (eSl opSl (eBin opAdd (eBin opAdd (eSl opSl (eVar 2) oNone (oSome (eVar 3))) (eLst (aCons (eBin opMod (eBin opAdd (eVar 5) (eVar 7)) (eC (.int 26))) aNil))) (eSl opSl (eVar 2) (oSome (eVar 3)) oNone)) (oSome (eBin opMod (eVar 7) (eBin opAdd (eVar 3) (eC (.int 1))))) oNone))
    (sExpr (eApp (eVar 6) (eJoin (eC (.str "")) (eLc [9] (iSeq (eVar 8)) (bNm 9) tTrue le_law_ten_names_2)))))
def B_law_ten_names : SF :=
    (sSeq (sSet 1 (eFn 2 F_law_take [] (aCons (eVar 0) (aCons (eC (.int 8)) aNil))))
    (sSeq (sSet 2 (eLc [7] (iRange1 (eVar 1)) (bNm 7) tTrue le_law_ten_names_1))
    (sSeq (sSet 3 (eFn 2 F_law_take [] (aCons (eVar 0) (aCons (eBin opAdd (eVar 1) (eC (.int 1))) aNil))))
    (sSeq (sSet 4 (eC (.str "abcdefghijklmnopqrstuvwxyz")))
    (sSeq (sSet 5 (eFn 2 F_law_take [] (aCons (eVar 0) (aCons (eC (.int 26)) aNil))))
    (sSeq (sSet 6 (eLstO aNil))
    (sSeq (sFor (iRange1 (eC (.int 10))) (bNm 7) lb_law_ten_names_1)
    (sRet (eFrzD (eVar 6))))))))))
def F_law_ten_names : FF := fnF 10 B_law_ten_names
def B_law_great_number : SF :=
    (sRet (eBin opIx (eLst (aCons (eC (.int 0)) (aCons (eC (.int 9)) (aCons (eFn 2 F_law_take [] (aCons (eVar 0) (aCons (eC (.int 1000)) aNil))) (aCons (eBin opSub (eBin opPow (eC (.int 10)) (eC (.int 30))) (eC (.int 1))) (aCons (eFn 2 F_law_take [] (aCons (eVar 0) (aCons (eBin opPow (eC (.int 10)) (eC (.int 30))) aNil))) aNil)))))) (eFn 2 F_law_take [] (aCons (eVar 0) (aCons (eC (.int 5)) aNil)))))
def F_law_great_number : FF := fnF 1 B_law_great_number
abbrev le_law_plain_deed_1 : EF :=
    (eFn 1 F_law_great_number [] (aCons (eVar 0) aNil))
abbrev le_law_plain_deed_2 : EF :=
    (eBin opMul (eBin opSub (eC (.int 1)) (eBin opMul (eC (.int 2)) (eFn 2 F_law_take [] (aCons (eVar 0) (aCons (eC (.int 2)) aNil))))) (eFn 1 F_law_great_number [] (aCons (eVar 0) aNil)))
def B_law_plain_deed : SF :=
    (sSeq (sSet 1 (eFn 1 F_law_ten_names [] (aCons (eVar 0) aNil)))
    (sSeq (sSet 2 (eBin opIx (eLst (aCons (eC (.str "begin")) (aCons (eC (.str "drop")) (aCons (eC (.str "forget")) (aCons (eC (.str "put")) (aCons (eC (.str "take")) (aCons (eC (.str "finer")) (aCons (eC (.str "lesser")) (aCons (eC (.str "keep")) (aCons (eC (.str "keep")) aNil)))))))))) (eFn 2 F_law_take [] (aCons (eVar 0) (aCons (eC (.int 9)) aNil)))))
    (sSeq (sIf (tVal (eBin opIn (eVar 2) (eTup (aCons (eC (.str "begin")) (aCons (eC (.str "drop")) (aCons (eC (.str "forget")) aNil)))))) (sRet (eTup (aCons (eVar 2) (aCons (eBin opIx (eVar 1) (eC (.int 0))) aNil)))) sSkip)
    (sSeq (sIf (tVal (eBin opNe (eVar 2) (eC (.str "keep")))) (sSeq (sSet 7 (eLc [8] (iRange1 (eBin opAdd (eC (.int 1)) (eFn 2 F_law_take [] (aCons (eVar 0) (aCons (eC (.int 6)) aNil))))) (bNm 8) tTrue le_law_plain_deed_1))
    (sRet (eTup (aCons (eVar 2) (aCons (eBin opIx (eVar 1) (eC (.int 0))) (aCons (eCall cTuple (aCons (eVar 7) aNil)) aNil)))))) sSkip)
    (sSeq (sSet 3 (eFn 2 F_law_take [] (aCons (eVar 0) (aCons (eC (.int 5)) aNil))))
    (sSeq (sSet 4 (eLc [8] (iRange1 (eVar 3)) (bNm 8) tTrue le_law_plain_deed_2))
    (sSeq (sSet 5 (eTup (aCons (eFn 1 F_law_great_number [] (aCons (eVar 0) aNil)) (aCons (eFn 1 F_law_great_number [] (aCons (eVar 0) aNil)) aNil))))
    (sSeq (sSet 6 (eBin opIx (eLst (aCons (eC (.str "ring")) (aCons (eC (.str "cut")) (aCons (eBin opIx (eVar 1) (eC (.int 2))) aNil)))) (eFn 2 F_law_take [] (aCons (eVar 0) (aCons (eC (.int 3)) aNil)))))
    (sRet (eBin opAdd (eBin opAdd (eTup (aCons (eVar 2) (aCons (eBin opIx (eVar 1) (eC (.int 0))) (aCons (eBin opIx (eVar 1) (eC (.int 1))) (aCons (eVar 6) aNil))))) (eVar 5)) (eTup (aCons (eCall cTuple (aCons (eVar 4) aNil)) aNil))))))))))))
def F_law_plain_deed : FF := fnF 9 B_law_plain_deed
abbrev le_law_written_deed_1 : EF :=
    (eFn 1 F_law_plain_deed [] (aCons (eVar 0) aNil))
def B_law_written_deed : SF :=
    (sSeq (sIf (tVal (eBin opGt (eFn 2 F_law_take [] (aCons (eVar 0) (aCons (eC (.int 4)) aNil))) (eC (.int 0)))) (sRet (eFn 1 F_law_plain_deed [] (aCons (eVar 0) aNil))) sSkip)
    (sRet (eTup (aCons (eC (.str "bundle")) (aCons (eCall cTuple (aCons (eLc [1] (iRange1 (eFn 2 F_law_take [] (aCons (eVar 0) (aCons (eC (.int 4)) aNil)))) (bNm 1) tTrue le_law_written_deed_1) aNil)) aNil)))))
def F_law_written_deed : FF := fnF 2 B_law_written_deed
abbrev le_law_row_text_1 : EF :=
    (eCall cStr (aCons (eVar 1) aNil))
def B_law_row_text : SF :=
    (sRet (eIf (tVal (eBin opGt (eCall cLen (aCons (eVar 0) aNil)) (eC (.int 0)))) (eJoin (eC (.str ",")) (eLc [1] (iSeq (eVar 0)) (bNm 1) tTrue le_law_row_text_1)) (eC (.str "-"))))
def F_law_row_text : FF := fnF 2 B_law_row_text
abbrev le_law_text_1 (Fr : FF) : EF :=
    (eBin opAdd (eC (.str " ")) (eFn 1 Fr [] (aCons (eVar 2) aNil)))
abbrev le_law_text_2 (Fr : FF) : EF :=
    (eCall cStr (aCons (eVar 3) aNil))
abbrev le_law_text_3 (Fr : FF) : EF :=
    (eCall cStr (aCons (eVar 1) aNil))
def B_law_text (Fr : FF) : SF :=
    (sSeq (sIf (tVal (eBin opEq (eBin opIx (eVar 0) (eC (.int 0))) (eC (.str "bundle")))) (sRet (eBin opAdd (eC (.str "all:")) (eJoin (eC (.str ";")) (eLc [2] (iSeq (eBin opIx (eVar 0) (eC (.int 1)))) (bNm 2) tTrue (le_law_text_1 Fr))))) sSkip)
    (sSeq (sIf (tVal (eBin opEq (eBin opIx (eVar 0) (eC (.int 0))) (eC (.str "keep")))) (sRet (eJoin (eC (.str " ")) (eBin opAdd (eLc [3] (iSeq (eSl opSl (eVar 0) oNone (oSome (eC (.int 6))))) (bNm 3) tTrue (le_law_text_2 Fr)) (eLst (aCons (eFn 1 F_law_row_text [] (aCons (eBin opIx (eVar 0) (eC (.int 6))) aNil)) aNil))))) sSkip)
    (sSeq (sIf (tVal (eBin opIn (eBin opIx (eVar 0) (eC (.int 0))) (eTup (aCons (eC (.str "begin")) (aCons (eC (.str "drop")) (aCons (eC (.str "forget")) aNil)))))) (sRet (eBin opAdd (eBin opAdd (eBin opIx (eVar 0) (eC (.int 0))) (eC (.str " "))) (eBin opIx (eVar 0) (eC (.int 1))))) sSkip)
    (sRet (eBin opAdd (eBin opAdd (eBin opAdd (eBin opAdd (eBin opIx (eVar 0) (eC (.int 0))) (eC (.str " "))) (eBin opIx (eVar 0) (eC (.int 1)))) (eC (.str " "))) (eJoin (eC (.str ".")) (eLc [1] (iSeq (eBin opIx (eVar 0) (eC (.int 2)))) (bNm 1) tTrue (le_law_text_3 Fr))))))))
def F_law_text : Nat → FF
  | 0 => fun _ _ => .no
  | d + 1 => fnF 4 (B_law_text (F_law_text d))
abbrev le_row_text_1 : EF :=
    (eCall cStr (aCons (eVar 1) aNil))
def B_row_text : SF :=
    (sSeq (sIf (tVal (eBin opEq (eCall cLen (aCons (eVar 0) aNil)) (eC (.int 0)))) (sRet (eC (.str "-"))) sSkip)
    (sRet (eJoin (eC (.str ",")) (eLc [1] (iSeq (eVar 0)) (bNm 1) tTrue le_row_text_1))))
def F_row_text : FF := fnF 2 B_row_text
abbrev le_face_text_1 : EF :=
    (eCall cStr (aCons (eVar 1) aNil))
def B_face_text : SF :=
    (sRet (eJoin (eC (.str ".")) (eLc [1] (iSeq (eVar 0)) (bNm 1) tTrue le_face_text_1)))
def F_face_text : FF := fnF 2 B_face_text
abbrev le_deed_text_1 (Fr : FF) : EF :=
    (eBin opAdd (eC (.str " ")) (eFn 1 Fr [] (aCons (eVar 3) aNil)))
abbrev le_deed_text_2 (Fr : FF) : EF :=
    (eCall cStr (aCons (eVar 4) aNil))
def B_deed_text (Fr : FF) : SF :=
    (sSeq (sStar 1 2 (eVar 0))
    (sSeq (sIf (tVal (eBin opEq (eVar 1) (eC (.str "bundle")))) (sRet (eBin opAdd (eC (.str "all:")) (eJoin (eC (.str ";")) (eLc [3] (iSeq (eBin opIx (eVar 2) (eC (.int 0)))) (bNm 3) tTrue (le_deed_text_1 Fr))))) sSkip)
    (sSeq (sIf (tVal (eBin opEq (eVar 1) (eC (.str "keep")))) (sRet (eJoin (eC (.str " ")) (eBin opAdd (eBin opAdd (eLst (aCons (eVar 1) aNil)) (eLc [4] (iSeq (eSl opSl (eVar 2) oNone (oSome (eC (.int 5))))) (bNm 4) tTrue (le_deed_text_2 Fr))) (eLst (aCons (eFn 1 F_row_text [] (aCons (eBin opIx (eVar 2) (eC (.int 5))) aNil)) aNil))))) sSkip)
    (sSeq (sIf (tVal (eBin opIn (eVar 1) (eTup (aCons (eC (.str "begin")) (aCons (eC (.str "drop")) (aCons (eC (.str "forget")) aNil)))))) (sRet (eJoined [(eFmt (eVar 1)), (eC (.str " ")), (eFmt (eBin opIx (eVar 2) (eC (.int 0))))])) sSkip)
    (sRet (eJoined [(eFmt (eVar 1)), (eC (.str " ")), (eFmt (eBin opIx (eVar 2) (eC (.int 0)))), (eC (.str " ")), (eFmt (eFn 1 F_face_text [] (aCons (eBin opIx (eVar 2) (eC (.int 1))) aNil)))]))))))
def F_deed_text : Nat → FF
  | 0 => fun _ _ => .no
  | d + 1 => fnF 5 (B_deed_text (F_deed_text d))
abbrev le_law_alike_1 (Fr : FF) : EF :=
    (eFn 2 Fr [] (aCons (eVar 2) (aCons (eVar 3) aNil)))
def B_law_alike (Fr : FF) : SF :=
    (sSeq (sIf (tOr (tVal (eCall cIsi (aCons (eVar 1) (aCons (eC (.ty "list")) aNil)))) (tVal (eCall cIsi (aCons (eVar 1) (aCons (eC (.ty "tuple")) aNil))))) (sSeq (sIf (tOr (tVal (eBin opNe (eCall cIsi (aCons (eVar 0) (aCons (eC (.ty "list")) aNil))) (eCall cIsi (aCons (eVar 1) (aCons (eC (.ty "list")) aNil))))) (tVal (eBin opNe (eCall cIsi (aCons (eVar 0) (aCons (eC (.ty "tuple")) aNil))) (eCall cIsi (aCons (eVar 1) (aCons (eC (.ty "tuple")) aNil)))))) (sRet (eC (.bl false))) sSkip)
    (sRet (eAnd (eBin opEq (eCall cLen (aCons (eVar 0) aNil)) (eCall cLen (aCons (eVar 1) aNil))) (eCall cAll (aCons (eLc [2, 3] (iZip (aCons (eVar 0) (aCons (eVar 1) aNil))) (bTup 2 (bCons (bNm 2) (bCons (bNm 3) bNil))) tTrue (le_law_alike_1 Fr)) aNil))))) sSkip)
    (sSeq (sIf (tOr (tVal (eBin opIsN (eVar 1) (eC .non))) (tVal (eBin opIsN (eVar 0) (eC .non)))) (sRet (eAnd (eBin opIsN (eVar 0) (eC .non)) (eBin opIsN (eVar 1) (eC .non)))) sSkip)
    (sSeq (sIf (tOr (tVal (eBin opNe (eCall cIsi (aCons (eVar 0) (aCons (eC (.ty "bool")) aNil))) (eCall cIsi (aCons (eVar 1) (aCons (eC (.ty "bool")) aNil))))) (tVal (eBin opNe (eCall cIsi (aCons (eVar 0) (aCons (eC (.ty "int")) aNil))) (eCall cIsi (aCons (eVar 1) (aCons (eC (.ty "int")) aNil)))))) (sRet (eC (.bl false))) sSkip)
    (sRet (eAnd (eBin opEq (eCall cIsi (aCons (eVar 0) (aCons (eC (.ty "str")) aNil))) (eCall cIsi (aCons (eVar 1) (aCons (eC (.ty "str")) aNil)))) (eBin opEq (eVar 0) (eVar 1)))))))
def F_law_alike : Nat → FF
  | 0 => fun _ _ => .no
  | d + 1 => fnF 4 (B_law_alike (F_law_alike d))
abbrev le_is_name_1 : EF :=
    (eBin (opInS false) (eVar 1) (eC (.str "abcdefghijklmnopqrstuvwxyz")))
def B_is_name : SF :=
    (sRet (eAnd (eChain opLe opLe (eC (.int 1)) (eCall cLen (aCons (eVar 0) aNil)) (eC (.int 8))) (eCall cAll (aCons (eLc [1] (iSeq (eVar 0)) (bNm 1) tTrue le_is_name_1) aNil))))
def F_is_name : FF := fnF 2 B_is_name
def B_read_name : SF :=
    (sSeq (sIf (tNot (tVal (eFn 1 F_is_name [] (aCons (eVar 0) aNil)))) (fun _ _ => .no) sSkip)
    (sRet (eVar 0)))
def F_read_name : FF := fnF 1 B_read_name
abbrev le_read_plain_1 : EF :=
    (eBin (opInS false) (eVar 1) (eC (.str "0123456789")))
def B_read_plain : SF :=
    (sSeq (sIf (tOr (tNot (tVal (eChain opLe opLe (eC (.int 1)) (eCall cLen (aCons (eVar 0) aNil)) (eC (.int 30))))) (tNot (tVal (eCall cAll (aCons (eLc [1] (iSeq (eVar 0)) (bNm 1) tTrue le_read_plain_1) aNil))))) (fun _ _ => .no) sSkip)
    (sSeq (sIf (tAnd (tVal (eBin opEq (eBin opIx (eVar 0) (eC (.int 0))) (eC (.str "0")))) (tVal (eBin opNe (eVar 0) (eC (.str "0"))))) (fun _ _ => .no) sSkip)
    (sRet (eCall cIntS (aCons (eVar 0) aNil)))))
def F_read_plain : FF := fnF 2 B_read_plain
def B_read_number : SF :=
    (sSeq (sIf (tVal (eBin opEq (eSl opSl (eVar 0) oNone (oSome (eC (.int 1)))) (eC (.str "-")))) (sSeq (sSet 1 (eFn 1 F_read_plain [] (aCons (eSl opSl (eVar 0) (oSome (eC (.int 1))) oNone) aNil)))
    (sSeq (sIf (tVal (eBin opEq (eVar 1) (eC (.int 0)))) (fun _ _ => .no) sSkip)
    (sRet (eUn opNeg (eVar 1))))) sSkip)
    (sRet (eFn 1 F_read_plain [] (aCons (eVar 0) aNil))))
def F_read_number : FF := fnF 2 B_read_number
abbrev le_read_row_1 : EF :=
    (eFn 1 F_read_number [] (aCons (eVar 1) aNil))
def B_read_row : SF :=
    (sSeq (sIf (tVal (eBin opEq (eVar 0) (eC (.str "-")))) (sRet (eTup aNil)) sSkip)
    (sRet (eCall cTuple (aCons (eLc [1] (iSeq (eSplit (eVar 0) (eC (.str ",")))) (bNm 1) tTrue le_read_row_1) aNil))))
def F_read_row : FF := fnF 2 B_read_row
abbrev le_read_words_1 : EF :=
    (eFn 1 F_read_plain [] (aCons (eVar 5) aNil))
abbrev le_read_words_2 : EF :=
    (eFn 1 F_read_name [] (aCons (eVar 4) aNil))
def B_read_words : SF :=
    (sSeq (sStarL 2 3 (eVar 0))
    (sSeq (sIf (tAnd (tVal (eBin opIn (eVar 2) (eTup (aCons (eC (.str "begin")) (aCons (eC (.str "drop")) (aCons (eC (.str "forget")) aNil)))))) (tVal (eBin opEq (eCall cLen (aCons (eVar 3) aNil)) (eC (.int 1))))) (sRet (eTup (aCons (eVar 2) (aCons (eFn 1 F_read_name [] (aCons (eBin opIx (eVar 3) (eC (.int 0))) aNil)) aNil)))) sSkip)
    (sSeq (sIf (tAnd (tVal (eBin opIn (eVar 2) (eTup (aCons (eC (.str "put")) (aCons (eC (.str "take")) (aCons (eC (.str "finer")) (aCons (eC (.str "lesser")) aNil))))))) (tVal (eBin opEq (eCall cLen (aCons (eVar 3) aNil)) (eC (.int 2))))) (sRet (eTup (aCons (eVar 2) (aCons (eFn 1 F_read_name [] (aCons (eBin opIx (eVar 3) (eC (.int 0))) aNil)) (aCons (eCall cTuple (aCons (eLc [5] (iSeq (eSplit (eBin opIx (eVar 3) (eC (.int 1))) (eC (.str ".")))) (bNm 5) tTrue le_read_words_1) aNil)) aNil))))) sSkip)
    (sSeq (sIf (tOr (tVal (eBin opNe (eVar 2) (eC (.str "keep")))) (tVal (eBin opNe (eCall cLen (aCons (eVar 3) aNil)) (eC (.int 6))))) (fun _ _ => .no) sSkip)
    (sSeq (sSet 1 (eLc [4] (iSeq (eSl opSl (eVar 3) oNone (oSome (eC (.int 3))))) (bNm 4) tTrue le_read_words_2))
    (sRet (eTup (aCons (eVar 2) (aCons (eBin opIx (eVar 1) (eC (.int 0))) (aCons (eBin opIx (eVar 1) (eC (.int 1))) (aCons (eBin opIx (eVar 1) (eC (.int 2))) (aCons (eFn 1 F_read_plain [] (aCons (eBin opIx (eVar 3) (eC (.int 3))) aNil)) (aCons (eFn 1 F_read_plain [] (aCons (eBin opIx (eVar 3) (eC (.int 4))) aNil)) (aCons (eFn 1 F_read_row [] (aCons (eBin opIx (eVar 3) (eC (.int 5))) aNil)) aNil))))))))))))))
def F_read_words : FF := fnF 6 B_read_words
abbrev lb_deed_of_1 : SF :=
    (sSeq (sIf (tVal (eBin opNe (eSl opSl (eVar 2) oNone (oSome (eC (.int 1)))) (eC (.str " ")))) (fun _ _ => .no) sSkip)
    (sExpr (eApp (eVar 1) (eFn 1 F_read_words [] (aCons (eSplit (eSl opSl (eVar 2) (oSome (eC (.int 1))) oNone) (eC (.str " "))) aNil)))))
def B_deed_of : SF :=
    (sSeq (sIf (tVal (eBin opEq (eVar 0) (eC (.str "all:")))) (sRet (eTup (aCons (eC (.str "bundle")) (aCons (eTup aNil) aNil)))) sSkip)
    (sSeq (sIf (tVal (eBin opNe (eSl opSl (eVar 0) oNone (oSome (eC (.int 4)))) (eC (.str "all:")))) (sRet (eFn 1 F_read_words [] (aCons (eSplit (eVar 0) (eC (.str " "))) aNil))) sSkip)
    (sSeq (sSet 1 (eLstO aNil))
    (sSeq (sFor (iSeq (eSplit (eSl opSl (eVar 0) (oSome (eC (.int 4))) oNone) (eC (.str ";")))) (bNm 2) lb_deed_of_1)
    (sRet (eTup (aCons (eC (.str "bundle")) (aCons (eCall cTuple (aCons (eFrzD (eVar 1)) aNil)) aNil))))))))
def F_deed_of : FF := fnF 3 B_deed_of
abbrev lb_law_1 : SF :=
    (sSeq (sSet 3 (eFn 1 F_law_written_deed [] (aCons (eVar 1) aNil)))
    (sIf (tOr (tNot (tVal (eFn 2 (F_law_alike 6) [] (aCons (eFn 1 (F_deed_text 3) [] (aCons (eVar 3) aNil)) (aCons (eFn 1 (F_law_text 3) [] (aCons (eVar 3) aNil)) aNil))))) (tNot (tVal (eFn 2 (F_law_alike 6) [] (aCons (eFn 1 F_deed_of [] (aCons (eFn 1 (F_law_text 3) [] (aCons (eVar 3) aNil)) aNil)) (aCons (eVar 3) aNil)))))) (sRet (eC (.bl false))) sSkip))
def B_law : SF :=
    (sSeq (sSet 1 (eFn 1 F_law_box [] (aCons (eVar 0) aNil)))
    (sSeq (sFor (iRange1 (eC (.int 8))) (bNm 2) lb_law_1)
    (sRet (eC (.bl true)))))
def F_law : FF := fnF 4 B_law
end L
namespace L
open PySem L2 J M
local macro_rules | `(tactic| walk_at "ev") => `(tactic| try simp only [fn_ap, List.map_cons, List.map_nil, List.length_cons, List.length_nil, List.cons_append, List.nil_append, List.append_nil, Nat.reduceAdd, Nat.reduceSub, Nat.zero_add, List.replicate_succ, List.replicate_zero, s_seq, s_set, s_asg, s_if, s_ret, s_expr, s_for, s_skip, s_par, s_par3, s_setI, thn_nx, thn_ret, thn_no, thn_brk, thn_cnt, thn_exc, a_var, a_c, a_bin, a_un, a_call, a_nil, a_cons, a_tup, a_lst, a_lstO, a_val, a_tand, a_tor, a_tnot, a_if, a_and, a_or, a_not, a_chain, a_fn, a_lc', a_seq, a_range1, a_zip, a_sl, a_onone, a_osome, bnd_ok, bnd_no, bnd_exc, sbd_ok, sbd_no, sbd_exc, getV_some, toB_bl, toO_int, lift_some, lift_none, seqI_lst, seqI_scr, seqI_tup, seqI_str, rng1_int, zip_lst, zip_tup, onx_some, onh_some, List.getElem?_cons_zero, List.getElem?_cons_succ, List.set_cons_zero, List.set_cons_succ, o_sub, o_add, o_lt, o_le, o_gt, o_ge, o_neg, o_eqI, o_neI, o_eqB, o_neB, o_eqS, if_true, if_false, ite_true, ite_false, decide_true, decide_false, Bool.false_eq_true, Bool.true_eq_false, reduceIte, Bool.not_true, Bool.not_false, a_frzD, frzR_obj, frzO_fl, frzO_fzn, frzR_lst, frzR_tup, frzR_int, a_newO, newO_some, lList_lst, lList_tup, a_listRngO, lrO_int, a_repO, repO_lst, chkL_some, lstOf_obj, lstO_fl, lstO_fzn, lstR_obj, lstRO_fl, lstRO_lo, lstRO_fzn, a_pop, popR_obj, a_app, appV_obj, enumI_lst, a_enum, s_augI, augV_obj, augO_int, s_setD, a_dnew, a_fld, insOf_obj, insO_ins, insOf_ins, a_meth, noX_ok, a_make, s_fldS, setF_obj, a_aApp, afterR_ok, a_lcR, a_lenSc, a_dc2, bNm_ap, obd_some, trn_nx, a_knew, s_setK, a_keysK, keysI_dK, a_dc1, a_sortSc, a_ins, a_lc2, frzO_dK, frzR_dK, a_lcP, lcP_some, rootL_obj, rootO_fl, a_dictZip, s_setApp, s_raise0, a_own, a_lenOwn, a_isiC, a_items, a_methX, a_makeX, fin_exc, a_listRng, lrD_int, a_join, jnR_str, a_split, a_fmt, a_joined, jd_cons, jd_nil, s_star, s_starL])
local macro_rules | `(tactic| walk_at "evd") => `(tactic| try simp (disch := first | decide | omega) only [o_mod, o_fdiv, o_pow, o_mul_r, o_mul_l, fn_ap, List.map_cons, List.map_nil, List.length_cons, List.length_nil, List.cons_append, List.nil_append, List.append_nil, Nat.reduceAdd, Nat.reduceSub, Nat.zero_add, List.replicate_succ, List.replicate_zero, s_seq, s_set, s_asg, s_if, s_ret, s_expr, s_for, s_skip, s_par, s_par3, s_setI, thn_nx, thn_ret, thn_no, thn_brk, thn_cnt, thn_exc, a_var, a_c, a_bin, a_un, a_call, a_nil, a_cons, a_tup, a_lst, a_lstO, a_val, a_tand, a_tor, a_tnot, a_if, a_and, a_or, a_not, a_chain, a_fn, a_lc', a_seq, a_range1, a_zip, a_sl, a_onone, a_osome, bnd_ok, bnd_no, bnd_exc, sbd_ok, sbd_no, sbd_exc, getV_some, toB_bl, toO_int, lift_some, lift_none, seqI_lst, seqI_scr, seqI_tup, seqI_str, rng1_int, zip_lst, zip_tup, onx_some, onh_some, List.getElem?_cons_zero, List.getElem?_cons_succ, List.set_cons_zero, List.set_cons_succ, o_sub, o_add, o_lt, o_le, o_gt, o_ge, o_neg, o_eqI, o_neI, o_eqB, o_neB, o_eqS, if_true, if_false, ite_true, ite_false, decide_true, decide_false, Bool.false_eq_true, Bool.true_eq_false, reduceIte, Bool.not_true, Bool.not_false, a_frzD, frzR_obj, frzO_fl, frzO_fzn, frzR_lst, frzR_tup, frzR_int, a_newO, newO_some, lList_lst, lList_tup, a_listRngO, lrO_int, a_repO, repO_lst, chkL_some, lstOf_obj, lstO_fl, lstO_fzn, lstR_obj, lstRO_fl, lstRO_lo, lstRO_fzn, a_pop, popR_obj, a_app, appV_obj, enumI_lst, a_enum, s_augI, augV_obj, augO_int, s_setD, a_dnew, a_fld, insOf_obj, insO_ins, insOf_ins, a_meth, noX_ok, a_make, s_fldS, setF_obj, a_aApp, afterR_ok, a_lcR, a_lenSc, a_dc2, bNm_ap, obd_some, trn_nx, a_knew, s_setK, a_keysK, keysI_dK, a_dc1, a_sortSc, a_ins, a_lc2, frzO_dK, frzR_dK, a_lcP, lcP_some, rootL_obj, rootO_fl, a_dictZip, s_setApp, s_raise0, a_own, a_lenOwn, a_isiC, a_items, a_methX, a_makeX, fin_exc, a_listRng, lrD_int, a_join, jnR_str, a_split, a_fmt, a_joined, jd_cons, jd_nil, s_star, s_starL])
local macro_rules | `(tactic| walk_at "eva") => `(tactic| try simp only [fn_ap, List.map_cons, List.map_nil, List.length_cons, List.length_nil, List.cons_append, List.nil_append, List.append_nil, Nat.reduceAdd, Nat.reduceSub, Nat.zero_add, List.replicate_succ, List.replicate_zero, s_seq, s_set, s_asg, s_if, s_ret, s_expr, s_for, s_skip, s_par, s_par3, s_setI, thn_nx, thn_ret, thn_no, thn_brk, thn_cnt, thn_exc, a_var, a_c, a_bin, a_un, a_call, a_nil, a_cons, a_tup, a_lst, a_lstO, a_val, a_tand, a_tor, a_tnot, a_if, a_and, a_or, a_not, a_chain, a_fn, a_lc', a_seq, a_range1, a_zip, a_sl, a_onone, a_osome, bnd_ok, bnd_no, bnd_exc, sbd_ok, sbd_no, sbd_exc, getV_some, toB_bl, toO_int, lift_some, lift_none, seqI_lst, seqI_scr, seqI_tup, seqI_str, rng1_int, zip_lst, zip_tup, onx_some, onh_some, List.getElem?_cons_zero, List.getElem?_cons_succ, List.set_cons_zero, List.set_cons_succ, o_sub, o_add, o_lt, o_le, o_gt, o_ge, o_neg, o_eqI, o_neI, o_eqB, o_neB, o_eqS, if_true, if_false, ite_true, ite_false, decide_true, decide_false, Bool.false_eq_true, Bool.true_eq_false, reduceIte, Bool.not_true, Bool.not_false, a_frzD, frzR_obj, frzO_fl, frzO_fzn, frzR_lst, frzR_tup, frzR_int, a_newO, newO_some, lList_lst, lList_tup, a_listRngO, lrO_int, a_repO, repO_lst, chkL_some, lstOf_obj, lstO_fl, lstO_fzn, lstR_obj, lstRO_fl, lstRO_lo, lstRO_fzn, a_pop, popR_obj, a_app, appV_obj, enumI_lst, a_enum, s_augI, augV_obj, augO_int, s_setD, a_dnew, a_fld, insOf_obj, insO_ins, insOf_ins, a_meth, noX_ok, a_make, s_fldS, setF_obj, a_aApp, afterR_ok, a_lcR, a_lenSc, a_dc2, bNm_ap, obd_some, trn_nx, a_knew, s_setK, a_keysK, keysI_dK, a_dc1, a_sortSc, a_ins, a_lc2, frzO_dK, frzR_dK, a_lcP, lcP_some, rootL_obj, rootO_fl, a_dictZip, s_setApp, s_raise0, a_own, a_lenOwn, a_isiC, a_items, a_methX, a_makeX, fin_exc, a_listRng, lrD_int, a_join, jnR_str, a_split, a_fmt, a_joined, jd_cons, jd_nil, s_star, s_starL, isi_NoneType_list, isi_NoneType_tuple, isi_NoneType_bool, isi_NoneType_int, isi_NoneType_str, isi_bool_list, isi_bool_tuple, isi_bool_bool, isi_bool_int, isi_bool_str, isi_int_list, isi_int_tuple, isi_int_bool, isi_int_int, isi_int_str, isi_str_list, isi_str_tuple, isi_str_bool, isi_str_int, isi_str_str, isi_tuple_list, isi_tuple_tuple, isi_tuple_bool, isi_tuple_int, isi_tuple_str, isi_list_list, isi_list_tuple, isi_list_bool, isi_list_int, isi_list_str, opIsN, opNotN, VV.isObj, len_lst, len_tup, list_lst, list_tup, tuple_lst, x_lst, x_tup])
local macro_rules | `(tactic| walk_at "evad") => `(tactic| try simp (disch := first | decide | omega) only [o_mod, o_fdiv, o_pow, o_mul_r, o_mul_l, fn_ap, List.map_cons, List.map_nil, List.length_cons, List.length_nil, List.cons_append, List.nil_append, List.append_nil, Nat.reduceAdd, Nat.reduceSub, Nat.zero_add, List.replicate_succ, List.replicate_zero, s_seq, s_set, s_asg, s_if, s_ret, s_expr, s_for, s_skip, s_par, s_par3, s_setI, thn_nx, thn_ret, thn_no, thn_brk, thn_cnt, thn_exc, a_var, a_c, a_bin, a_un, a_call, a_nil, a_cons, a_tup, a_lst, a_lstO, a_val, a_tand, a_tor, a_tnot, a_if, a_and, a_or, a_not, a_chain, a_fn, a_lc', a_seq, a_range1, a_zip, a_sl, a_onone, a_osome, bnd_ok, bnd_no, bnd_exc, sbd_ok, sbd_no, sbd_exc, getV_some, toB_bl, toO_int, lift_some, lift_none, seqI_lst, seqI_scr, seqI_tup, seqI_str, rng1_int, zip_lst, zip_tup, onx_some, onh_some, List.getElem?_cons_zero, List.getElem?_cons_succ, List.set_cons_zero, List.set_cons_succ, o_sub, o_add, o_lt, o_le, o_gt, o_ge, o_neg, o_eqI, o_neI, o_eqB, o_neB, o_eqS, if_true, if_false, ite_true, ite_false, decide_true, decide_false, Bool.false_eq_true, Bool.true_eq_false, reduceIte, Bool.not_true, Bool.not_false, a_frzD, frzR_obj, frzO_fl, frzO_fzn, frzR_lst, frzR_tup, frzR_int, a_newO, newO_some, lList_lst, lList_tup, a_listRngO, lrO_int, a_repO, repO_lst, chkL_some, lstOf_obj, lstO_fl, lstO_fzn, lstR_obj, lstRO_fl, lstRO_lo, lstRO_fzn, a_pop, popR_obj, a_app, appV_obj, enumI_lst, a_enum, s_augI, augV_obj, augO_int, s_setD, a_dnew, a_fld, insOf_obj, insO_ins, insOf_ins, a_meth, noX_ok, a_make, s_fldS, setF_obj, a_aApp, afterR_ok, a_lcR, a_lenSc, a_dc2, bNm_ap, obd_some, trn_nx, a_knew, s_setK, a_keysK, keysI_dK, a_dc1, a_sortSc, a_ins, a_lc2, frzO_dK, frzR_dK, a_lcP, lcP_some, rootL_obj, rootO_fl, a_dictZip, s_setApp, s_raise0, a_own, a_lenOwn, a_isiC, a_items, a_methX, a_makeX, fin_exc, a_listRng, lrD_int, a_join, jnR_str, a_split, a_fmt, a_joined, jd_cons, jd_nil, s_star, s_starL, isi_NoneType_list, isi_NoneType_tuple, isi_NoneType_bool, isi_NoneType_int, isi_NoneType_str, isi_bool_list, isi_bool_tuple, isi_bool_bool, isi_bool_int, isi_bool_str, isi_int_list, isi_int_tuple, isi_int_bool, isi_int_int, isi_int_str, isi_str_list, isi_str_tuple, isi_str_bool, isi_str_int, isi_str_str, isi_tuple_list, isi_tuple_tuple, isi_tuple_bool, isi_tuple_int, isi_tuple_str, isi_list_list, isi_list_tuple, isi_list_bool, isi_list_int, isi_list_str, opIsN, opNotN, VV.isObj, len_lst, len_tup, list_lst, list_tup, tuple_lst, x_lst, x_tup])
/-! the drawing box -/
structure Bx where
  xs : List Int
  pos : Nat
  left : Int
  cnt : Int
  seed : Int
def Bx.v (b : Bx) : VO := .fl [.lst (b.xs.map VV.int), .int b.pos, .int b.left, .int b.cnt, .int b.seed]
theorem fmod_rng (a : Int) {m : Int} (h : 0 < m) : 0 ≤ a.fmod m ∧ a.fmod m < m := by
  rw [Int.fmod_eq_emod_of_nonneg _ (by omega)]
  exact ⟨Int.emod_nonneg _ (by omega), Int.emod_lt_of_pos _ h⟩
theorem mixed_eq (a t : Int) (h : VH) : ∃ r, F_law_mixed [.int a, .int t] h = .ok (.int r) h ∧ 0 ≤ r := by
  unfold F_law_mixed B_law_mixed
  have h1 := fmod_rng (a * 48271 + t * 69621 + 12345) (m := 2147483647) (by decide)
  walk_at "evd"
  rw [fin_ret rfl]
  refine ⟨_, rfl, ?_⟩
  rw [Int.fdiv_eq_ediv_of_nonneg _ (by decide)]
  exact Int.ediv_nonneg (fmod_rng _ (by decide)).1 (by decide)
theorem take_eq {n : Nat} {h : VH} {b : Bx} {m : Int} (hb : h[n]? = some b.v) (hm : 0 < m) (hl : m.natAbs.log2 < 9000) : ∃ r b', F_law_take [.obj n, .int m] h = .ok (.int r) (h.set n (Bx.v b')) ∧ 0 ≤ r ∧ r < m := by
  obtain ⟨xs, pos, left, cnt, seed⟩ := b
  have hn : n < h.length := lt_of_get hb
  unfold Bx.v at hb
  simp only at hb
  unfold F_law_take B_law_take
  -- count
  have hb1 : (h.set n (.fl [.lst (xs.map VV.int), .int pos, .int left, .int (cnt + 1), .int seed]))[n]? = some (.fl [.lst (xs.map VV.int), .int pos, .int left, .int (cnt + 1), .int seed]) := get_set hn
  have s1 : setI h (.obj n) (.int 3) (.int (cnt + 1)) = some (h.set n (.fl [.lst (xs.map VV.int), .int pos, .int left, .int (cnt + 1), .int seed])) := set_root (j := 3) hb rfl rfl
  walk_at "ev"
  simp only [ix_root hb, at5_3]
  walk_at "ev"
  simp only [s1]
  walk_at "ev"
  simp only [ix_root hb1, at5_2]
  walk_at "ev"
  generalize eh1 : h.set n (.fl [.lst (xs.map VV.int), .int pos, .int left, .int (cnt + 1), .int seed]) = h1 at hb1
  have hn1 : n < h1.length := by rw [← eh1, List.length_set]; exact hn
  have hl1 : h1.length = h.length := by rw [← eh1, List.length_set]
  by_cases c1 : 0 < left
  · simp only [decide_eq_true c1, reduceIte]
    walk_at "ev"
    simp only [ix_root hb1, at5_2]
    walk_at "ev"
    simp (disch := omega) only [o_fdiv (j := m) (by omega) hl, o_mod (j := m) (by omega)]
    walk_at "ev"
    have s2 : setI h1 (.obj n) (.int 2) (.int (left.fdiv m)) = some (h1.set n (.fl [.lst (xs.map VV.int), .int pos, .int (left.fdiv m), .int (cnt + 1), .int seed])) := set_root (j := 2) hb1 rfl rfl
    simp only [s2]
    walk_at "ev"
    simp (disch := omega) only [o_mod (j := m) (by omega)]
    walk_at "ev"
    rw [fin_ret (by rw [List.length_set]; exact hl1)]
    refine ⟨_, ⟨xs, pos, left.fdiv m, cnt + 1, seed⟩, ?_, fmod_rng left hm⟩
    rw [← eh1, List.set_set]; rfl
  · simp only [decide_eq_false c1, Bool.false_eq_true, reduceIte]
    walk_at "ev"
    simp only [ix_root hb1, at5_1, at5_0]
    walk_at "ev"
    simp only [ix_root hb1, at5_1, at5_0]
    walk_at "ev"
    simp only [len_lst, List.length_map]
    walk_at "ev"
    by_cases c2 : (xs.length : Int) ≤ pos
    · simp only [decide_eq_true c2, reduceIte]
      walk_at "ev"
      simp only [ix_root hb1, at5_4, at5_3]
      walk_at "ev"
      simp only [ix_root hb1, at5_4, at5_3]
      walk_at "ev"
      obtain ⟨r, er, hr⟩ := mixed_eq seed (cnt + 1) h1
      simp only [er]
      walk_at "ev"
      simp (disch := omega) only [o_mod (j := m) (by omega)]
      walk_at "ev"
      rw [fin_ret hl1]
      refine ⟨_, ⟨xs, pos, left, cnt + 1, seed⟩, ?_, fmod_rng r hm⟩
      rw [← eh1]; rfl
    · simp only [decide_eq_false c2, Bool.false_eq_true, reduceIte]
      have hp : pos < xs.length := by omega
      walk_at "ev"
      simp only [ix_root hb1, at5_1, at5_0]
      walk_at "ev"
      simp only [ix_root hb1, at5_1, at5_0]
      walk_at "ev"
      have ex : atI (xs.map VV.int) (pos : Int) = some (.int xs[pos]) := atI_in (by rw [List.getElem?_map, List.getElem?_eq_getElem hp]; rfl)
      simp only [x_lst, ex]
      walk_at "ev"
      simp only [ix_root hb1, at5_1, at5_0]
      walk_at "ev"
      have s3 : setI h1 (.obj n) (.int 1) (.int ((pos : Int) + 1)) = some (h1.set n (.fl [.lst (xs.map VV.int), .int ((pos : Int) + 1), .int left, .int (cnt + 1), .int seed])) := set_root (j := 1) hb1 rfl rfl
      simp only [s3]
      walk_at "ev"
      have hb2 : (h1.set n (.fl [.lst (xs.map VV.int), .int ((pos : Int) + 1), .int left, .int (cnt + 1), .int seed]))[n]? = some (.fl [.lst (xs.map VV.int), .int ((pos : Int) + 1), .int left, .int (cnt + 1), .int seed]) := get_set hn1
      generalize eh2 : h1.set n (.fl [.lst (xs.map VV.int), .int ((pos : Int) + 1), .int left, .int (cnt + 1), .int seed]) = h2 at hb2
      have hl2 : h2.length = h.length := by rw [← eh2, List.length_set]; exact hl1
      walk_at "evd"
      by_cases c3 : xs[pos] < 10 ^ Int.toNat 18
      · simp only [decide_eq_true c3, reduceIte]
        walk_at "ev"
        simp only [ix_root hb2, at5_3]
        walk_at "ev"
        obtain ⟨r, er, hr⟩ := mixed_eq xs[pos] (cnt + 1) h2
        simp only [er]
        walk_at "ev"
        simp (disch := omega) only [o_mod (j := m) (by omega)]
        walk_at "ev"
        rw [fin_ret hl2]
        refine ⟨_, ⟨xs, pos + 1, left, cnt + 1, seed⟩, ?_, fmod_rng r hm⟩
        rw [← eh2, ← eh1, List.set_set]; rfl
      · simp only [decide_eq_false c3, Bool.false_eq_true, reduceIte]
        walk_at "ev"
        simp (disch := omega) only [o_fdiv (j := m) (by omega) hl, o_mod (j := m) (by omega)]
        walk_at "ev"
        have s4 : setI h2 (.obj n) (.int 2) (.int (xs[pos].fdiv m)) = some (h2.set n (.fl [.lst (xs.map VV.int), .int ((pos : Int) + 1), .int (xs[pos].fdiv m), .int (cnt + 1), .int seed])) := set_root (j := 2) hb2 rfl rfl
        simp only [s4]
        walk_at "ev"
        simp (disch := omega) only [o_mod (j := m) (by omega)]
        walk_at "ev"
        rw [fin_ret (by rw [List.length_set]; exact hl2)]
        refine ⟨_, ⟨xs, pos + 1, xs[pos].fdiv m, cnt + 1, seed⟩, ?_, fmod_rng xs[pos] hm⟩
        rw [← eh2, ← eh1, List.set_set, List.set_set]; rfl
theorem cut_ints (ns : List Int) (lo hi : Option Int) : ∃ ms : List Int, cut (ns.map VV.int) lo hi = ms.map VV.int ∧ ms.length ≤ ns.length := by
  refine ⟨(ns.drop (HT.sIx ns.length 0 lo)).take (HT.sIx ns.length ns.length hi - HT.sIx ns.length 0 lo), ?_, ?_⟩
  · unfold cut
    rw [List.length_map, List.map_take, List.map_drop]
  · rw [List.length_take, List.length_drop]; omega
theorem sl_scr {h : VH} {xs : List VV} {lo hi : Option Int} : opSl h (.scr xs) lo hi = some (.lst (cut xs lo hi)) := rfl
theorem box_eq (ns : List Int) : ∃ b : Bx, F_law_box [.scr (ns.map VV.int)] [] = .ok (.obj 0) [b.v] := by
  obtain ⟨ms, em, hl⟩ := cut_ints ns none (some 63)
  unfold F_law_box B_law_box
  walk_at "ev"
  simp only [sl_scr, em]
  walk_at "ev"
  have lp := for_inv (b := bNm 2) (body := sSet 1 (eBin opMod (eBin opAdd (eBin opAdd (eBin opMul (eVar 1) (eC (.int 31))) (eVar 2)) (eC (.int 17))) (eC (.int 2147483647)))) (fun ρ h => h = [] ∧ ∃ s o, ρ = [some (.scr (ns.map VV.int)), some (.int s), o]) (xs := ms.map VV.int) (ρ := [some (.scr (ns.map VV.int)), some (.int 0), none]) (h := []) ⟨rfl, 0, none, rfl⟩ (by
    rintro x hx ρ h ⟨rfl, s, o, rfl⟩
    obtain ⟨c, _, rfl⟩ := List.mem_map.mp hx
    refine ⟨_, _, _, rfl, ?_, rfl, (s * 31 + c + 17).fmod 2147483647, some (.int c), rfl⟩
    walk_at "evd")
  obtain ⟨ρ2, h2, e2, rfl, s, o, rfl⟩ := lp
  simp only [e2]
  walk_at "ev"
  simp only [sl_scr, em]
  walk_at "eva"
  simp only [List.any_cons, List.any_nil, VV.isObj, Bool.or_false, Bool.false_eq_true, false_or, List.length_cons, List.length_nil]
  rw [if_neg (by decide)]
  walk_at "ev"
  exact ⟨⟨ms, 0, 0, 0, s⟩, rfl⟩
theorem take1 (b : Bx) {m : Int} (hm : 0 < m) (hl : m < 2 ^ 200) : ∃ r b', F_law_take [.obj 0, .int m] [b.v] = .ok (.int r) [Bx.v b'] ∧ 0 ≤ r ∧ r < m := by
  have := take_eq (n := 0) (h := [b.v]) (b := b) (m := m) rfl hm (by
    have h1 : m.natAbs < 2 ^ 200 := by omega
    have := Nat.log2_lt (n := m.natAbs) (by omega) |>.mpr h1
    omega)
  exact this
theorem great_eq (b : Bx) : ∃ (n : Nat) (b' : Bx), F_law_great_number [.obj 0] [b.v] = .ok (.int (n : Int)) [b'.v] ∧ n < 10 ^ 30 := by
  unfold F_law_great_number B_law_great_number
  obtain ⟨r1, b1, e1, r10, r11⟩ := take1 b (m := 1000) (by decide) (by decide)
  obtain ⟨r2, b2, e2, r20, r21⟩ := take1 b1 (m := 10 ^ Int.toNat 30) (by decide) (by decide)
  obtain ⟨r3, b3, e3, r30, r31⟩ := take1 b2 (m := 5) (by decide) (by decide)
  walk_at "ev"
  simp only [e1]
  walk_at "evd"
  simp only [e2]
  walk_at "evd"
  rw [if_neg (by simp [VV.isObj]; decide)]
  walk_at "ev"
  simp only [e3]
  walk_at "ev"
  have hv : ∃ n : Nat, n < 10 ^ 30 ∧ ∀ h : VH, opIx h (.lst [.int 0, .int 9, .int r1, .int (10 ^ Int.toNat 30 - 1), .int r2]) (.int r3) = some (.int (n : Int)) := by
    have r21' : r2 < 1000000000000000000000000000000 := r21
    rcases (by omega : r3 = 0 ∨ r3 = 1 ∨ r3 = 2 ∨ r3 = 3 ∨ r3 = 4) with z | z | z | z | z <;> subst z
    · exact ⟨0, by decide, fun _ => rfl⟩
    · exact ⟨9, by decide, fun _ => rfl⟩
    · exact ⟨r1.toNat, by omega, fun _ => by rw [Int.toNat_of_nonneg r10]; rfl⟩
    · exact ⟨999999999999999999999999999999, by decide, fun _ => rfl⟩
    · exact ⟨r2.toNat, by omega, fun _ => by rw [Int.toNat_of_nonneg r20]; rfl⟩
  obtain ⟨n, hn, hx⟩ := hv
  simp only [hx]
  walk_at "ev"
  exact ⟨n, b3, fin_o rfl rfl, hn⟩
def nmV (l : List Nat) : VV := .str ⟨l.toArray⟩
structure Nm (l : List Nat) : Prop where
  pos : 1 ≤ l.length
  le : l.length ≤ 8
  az : ∀ c ∈ l, 97 ≤ c ∧ c ≤ 122
def rowN (base : List Int) (at' : Nat) (x : Int) (k : Nat) : List Int := (base.take at' ++ [x] ++ base.drop at').drop k
theorem rowN_len {base : List Int} {at' k : Nat} {x : Int} (h1 : at' ≤ base.length) (h2 : k ≤ at') : 1 ≤ (rowN base at' x k).length ∧ (rowN base at' x k).length ≤ base.length + 1 := by
  unfold rowN
  simp only [List.length_drop, List.length_append, List.length_take, List.length_cons, List.length_nil]
  omega
theorem rowN_mem {base : List Int} {at' k : Nat} {x : Int} (hb : ∀ i ∈ base, 0 ≤ i ∧ i < 26) (hx : 0 ≤ x ∧ x < 26) : ∀ i ∈ rowN base at' x k, 0 ≤ i ∧ i < 26 := by
  intro i hi
  have := List.mem_of_mem_drop hi
  simp only [List.mem_append, List.mem_cons, List.not_mem_nil, or_false] at this
  rcases this with (h | h) | h
  · exact hb i (List.mem_of_mem_take h)
  · rw [h]; exact hx
  · exact hb i (List.mem_of_mem_drop h)
def letL (l : List Int) : List Nat := l.map fun i => 97 + i.toNat
theorem letter_ix {i : Int} {h : VH} (h0 : 0 ≤ i) (h1 : i < 26) : opIx h (.str "abcdefghijklmnopqrstuvwxyz") (.int i) = some (.str ⟨#[97 + i.toNat]⟩) := by
  obtain ⟨k, rfl⟩ := Int.eq_ofNat_of_zero_le h0
  have hk : k < 26 := by omega
  have key : ∀ k : Fin 26, opIx h (.str "abcdefghijklmnopqrstuvwxyz") (.int ((k : Nat) : Int)) = some (.str ⟨#[97 + (k : Nat)]⟩) := by
    intro k
    match k with
    | ⟨n, hn⟩ =>
      rcases n with _ | _ | _ | _ | _ | _ | _ | _ | _ | _ | _ | _ | _ | _ | _ | _ | _ | _ | _ | _ | _ | _ | _ | _ | _ | _ | n
      all_goals first | (exfalso; omega) | kernel_rfl
  exact key ⟨k, hk⟩
/-! sides -/
theorem cut_fore {xs : List VV} {k : Nat} (hk : k ≤ xs.length) : cut xs none (some (k : Int)) = xs.take k := by
  unfold cut
  have e1 : HT.sIx xs.length 0 none = 0 := rfl
  have e2 : HT.sIx xs.length xs.length (some (k : Int)) = k := by
    unfold HT.sIx
    simp only [Int.toNat_natCast]
    rw [if_neg (by omega)]
    omega
  rw [e1, e2, List.drop_zero, Nat.sub_zero]
theorem cut_back {xs : List VV} {k : Nat} (hk : k ≤ xs.length) : cut xs (some (k : Int)) none = xs.drop k := by
  unfold cut
  have e1 : HT.sIx xs.length 0 (some (k : Int)) = k := by
    unfold HT.sIx
    simp only [Int.toNat_natCast]
    rw [if_neg (by omega)]
    omega
  have e2 : HT.sIx xs.length xs.length none = xs.length := rfl
  rw [e1, e2]
  exact List.take_of_length_le (by rw [List.length_drop]; omega)
theorem sl_fore {l : List Int} {k : Int} {h : VH} (h0 : 0 ≤ k) (h1 : k ≤ l.length) : opSl h (.lst (l.map VV.int)) none (some k) = some (.lst ((l.take k.toNat).map VV.int)) := by
  obtain ⟨n, rfl⟩ := Int.eq_ofNat_of_zero_le h0
  show some (VV.lst (cut (l.map VV.int) none (some (n : Int)))) = _
  rw [cut_fore (by rw [List.length_map]; omega), List.map_take]; rfl
theorem sl_rest {l : List Int} {k : Int} {h : VH} (h0 : 0 ≤ k) (h1 : k ≤ l.length) : opSl h (.lst (l.map VV.int)) (some k) none = some (.lst ((l.drop k.toNat).map VV.int)) := by
  obtain ⟨n, rfl⟩ := Int.eq_ofNat_of_zero_le h0
  show some (VV.lst (cut (l.map VV.int) (some (n : Int)) none)) = _
  rw [cut_back (by rw [List.length_map]; omega), List.map_drop]; rfl
theorem ten_base (b : Bx) {m : Int} (h0 : 0 ≤ m) (h1 : m < 1000) {ρ : VSt} (hρ : ∃ x1, ρ = [some (.obj 0), x1, none, none, none, none, none, none, none, none]) : ∃ (l : List Int) (b' : Bx), lcGo (bNm 7) tTrue le_law_ten_names_1 ρ (rngV 0 m.toNat) [b.v] = .ok (l.map VV.int) [b'.v] ∧ (l.length : Int) = m ∧ ∀ i ∈ l, 0 ≤ i ∧ i < 26 := by
  obtain ⟨x1, rfl⟩ := hρ
  rw [rng_eq]
  obtain ⟨l, h', e4, ⟨b4, rfl⟩, l4, g4⟩ := lc_draw (b := bNm 7) (t := tTrue) (e := le_law_ten_names_1) (ρ := [some (.obj 0), x1, none, none, none, none, none, none, none, none]) (fun (i : Nat) => VV.int (0 + (i : Int))) VV.int (fun h => ∃ b : Bx, h = [b.v]) (fun i => 0 ≤ i ∧ i < 26) (ys := List.range m.toNat) (h := [b.v]) ⟨b, rfl⟩ (by
    rintro y _ h ⟨b, rfl⟩
    obtain ⟨r, b', e, r0, r1⟩ := take1 b (m := 26) (by decide) (by decide)
    refine ⟨_, r, [b'.v], rfl, rfl, ?_, rfl, ⟨b', rfl⟩, r0, r1⟩
    walk_at "ev"
    simp only [e]
    walk_at "ev")
  exact ⟨l, b4, e4, by rw [l4, List.length_range]; omega, g4⟩
theorem joinL_nil : ∀ ps : List (List Nat), TL.joinL [] ps = ps.flatten
  | [] => rfl
  | [p] => by simp [TL.joinL]
  | p :: q :: r => by
    rw [TL.joinL, joinL_nil (q :: r), List.nil_append, List.flatten_cons, List.flatten_cons, List.flatten_cons]
theorem join_signs (l : List Nat) : Txt.join Str.empty (l.map fun c => (⟨#[c]⟩ : Str)) = ⟨l.toArray⟩ := by
  rw [TL.join_eq]
  refine TL.ext_tl ?_
  rw [TL.tl_join, show TL.tl Str.empty = [] from rfl, joinL_nil, List.map_map]
  show (l.map fun c => [c]).flatten = l
  induction l with
  | nil => rfl
  | cons c l ih => rw [List.map_cons, List.flatten_cons, ih]; rfl
theorem add_ints {a b : List Int} {h : VH} (hl : a.length + b.length ≤ 1000) : opAdd h (.lst (a.map VV.int)) (.lst (b.map VV.int)) = some (.lst ((a ++ b).map VV.int)) := by
  show (if (a.map VV.int).length + (b.map VV.int).length ≤ SZ then some (VV.lst (a.map VV.int ++ b.map VV.int)) else none) = _
  rw [if_pos (by rw [List.length_map, List.length_map]; show a.length + b.length ≤ 16777216; omega), List.map_append]
theorem alike_refl : ∀ (d : Nat) (v : VV) (h : VH), isD v = true → dep v < d → wide v ≤ SZ → F_law_alike d [v, v] h = .ok (.bl true) h
  | 0, v, h, _, hd, _ => by omega
  | d + 1, v, h, hv, hd, hw => by
    unfold F_law_alike B_law_alike
    have seq : ∀ xs : List VV, (∀ x ∈ xs, F_law_alike d [x, x] h = .ok (.bl true) h) → ∀ (ρ : VSt) (v : VV), lcGo (bTup 2 (bCons (bNm 2) (bCons (bNm 3) bNil))) tTrue (eFn 2 (F_law_alike d) [] (aCons (eVar 2) (aCons (eVar 3) aNil))) [some v, some v, none, none] (prs xs xs) h = .ok (List.replicate xs.length (.bl true)) h := by
      intro xs hx ρ v
      rw [prs_same]
      have := lc_const (b := bTup 2 (bCons (bNm 2) (bCons (bNm 3) bNil))) (t := tTrue) (e := eFn 2 (F_law_alike d) [] (aCons (eVar 2) (aCons (eVar 3) aNil))) (ρ := [some v, some v, none, none]) (h := h) (v := .bl true) rfl (xs := xs.map fun x => .tup [x, x]) ?_
      · rw [List.length_map] at this; exact this
      · intro x hx'
        obtain ⟨y, hy, rfl⟩ := List.mem_map.mp hx'
        refine ⟨[some v, some v, some y, some y], rfl, rfl, ?_⟩
        walk_at "ev"
        exact hx y hy
    cases v with
    | non => walk_at "eva"; rw [fin_ret rfl]
    | bl b => walk_at "eva"; rw [fin_ret rfl]
    | int b => walk_at "eva"; rw [fin_ret rfl]
    | str b => walk_at "eva"; rw [fin_ret rfl]
    | tup xs =>
      rw [isD] at hv
      rw [dep] at hd
      rw [wide] at hw
      have hx : ∀ x ∈ xs, F_law_alike d [x, x] h = .ok (.bl true) h := fun x hx => alike_refl d x h (mem_isDs hv hx) (by have := mem_deps hx; omega) (by have := mem_deps hx; omega)
      walk_at "eva"
      simp only [prs_len, if_neg (show ¬ min xs.length xs.length > SZ by omega)]
      simp only [wp, List.set_cons_zero, List.set_cons_succ, seq xs hx [] (.tup xs), afterL_ok]
      walk_at "ev"
      simp only [all_true]
      walk_at "ev"
      rw [fin_ret rfl]
    | lst xs =>
      rw [isD] at hv
      rw [dep] at hd
      rw [wide] at hw
      have hx : ∀ x ∈ xs, F_law_alike d [x, x] h = .ok (.bl true) h := fun x hx => alike_refl d x h (mem_isDs hv hx) (by have := mem_deps hx; omega) (by have := mem_deps hx; omega)
      walk_at "eva"
      simp only [prs_len, if_neg (show ¬ min xs.length xs.length > SZ by omega)]
      simp only [wp, List.set_cons_zero, List.set_cons_succ, seq xs hx [] (.lst xs), afterL_ok]
      walk_at "ev"
      simp only [all_true]
      walk_at "ev"
      rw [fin_ret rfl]
    | _ => simp [isD] at hv
theorem ten_turn {x1 o8 : Option VV} {base : List Int} {at' start k : Int} {names : List (List Nat)} (b : Bx) (hb : ∀ i ∈ base, 0 ≤ i ∧ i < 26) (hl : base.length ≤ 7) (a0 : 0 ≤ at') (a1 : at' ≤ base.length) (s0 : 0 ≤ start) (s1 : start < 26) (k0 : 0 ≤ k) (k1 : k < 10) (hn : names.length ≤ 100) :
    ∃ (row : List Int), lb_law_ten_names_1 [some (.obj 0), x1, some (.lst (base.map VV.int)), some (.int at'), some (.str "abcdefghijklmnopqrstuvwxyz"), some (.int start), some (.obj 1), some (.int k), o8, none] [b.v, .fl (names.map nmV)]
      = .nx [some (.obj 0), x1, some (.lst (base.map VV.int)), some (.int at'), some (.str "abcdefghijklmnopqrstuvwxyz"), some (.int start), some (.obj 1), some (.int k), some (.lst (row.map VV.int)), none] [b.v, .fl ((names ++ [letL row]).map nmV)] ∧ Nm (letL row) := by
  obtain ⟨A, rfl⟩ := Int.eq_ofNat_of_zero_le a0
  have hx0 : 0 ≤ (start + k) % 26 := Int.emod_nonneg _ (by decide)
  have hx1 : (start + k) % 26 < 26 := Int.emod_lt_of_pos _ (by decide)
  have hk0 : 0 ≤ k % ((A : Int) + 1) := Int.emod_nonneg _ (by omega)
  have hk1 : k % ((A : Int) + 1) < (A : Int) + 1 := Int.emod_lt_of_pos _ (by omega)
  obtain ⟨j, hj⟩ := Int.eq_ofNat_of_zero_le hk0
  rw [hj] at hk0 hk1
  have fm1 : (start + k).fmod 26 = (start + k) % 26 := Int.fmod_eq_emod_of_nonneg _ (by decide)
  have fm2 : k.fmod ((A : Int) + 1) = (j : Int) := by rw [← hj]; exact Int.fmod_eq_emod_of_nonneg _ (by omega)
  generalize hx : (start + k) % 26 = x at *
  have hA : A ≤ base.length := by omega
  have hj' : j ≤ A := by omega
  have len1 : (base.take A ++ [x] ++ base.drop A).length = base.length + 1 := by
    simp only [List.length_append, List.length_take, List.length_cons, List.length_nil, List.length_drop]; omega
  obtain ⟨r1, r2⟩ := rowN_len (base := base) (x := x) (k := j) hA hj'
  have r3 := rowN_mem (base := base) (at' := A) (k := j) (x := x) hb ⟨hx0, hx1⟩
  refine ⟨rowN base A x j, ?_, ⟨by unfold letL; rw [List.length_map]; exact r1, by unfold letL; rw [List.length_map]; omega, ?_⟩⟩
  · walk_at "ev"
    simp only [sl_fore (l := base) (k := (A : Int)) a0 a1]
    walk_at "ev"
    simp only [o_mod (i := start + k) (j := 26) (by decide), fm1]
    walk_at "ev"
    simp only [List.any_cons, List.any_nil, VV.isObj, Bool.or_false, Bool.false_eq_true, false_or]
    rw [if_neg (by decide)]
    walk_at "ev"
    rw [show (VV.lst [VV.int x]) = .lst (([x] : List Int).map VV.int) from rfl, add_ints (by simp; omega)]
    walk_at "ev"
    simp only [sl_rest (l := base) (k := (A : Int)) a0 a1]
    walk_at "ev"
    rw [show ((A : Int)).toNat = A from rfl, add_ints (by simp; omega)]
    walk_at "ev"
    simp only [o_mod (i := k) (j := (A : Int) + 1) (by omega), fm2]
    walk_at "ev"
    simp only [sl_rest (l := base.take A ++ [x] ++ base.drop A) (k := (j : Int)) (by omega) (by rw [len1]; omega)]
    walk_at "ev"
    rw [show ((base.take A ++ [x] ++ base.drop A).drop ((j : Int)).toNat) = rowN base A x j from rfl]
    rw [if_neg (by rw [List.length_map]; show ¬ _ > 16777216; omega)]
    simp only [wp, List.set_cons_zero, List.set_cons_succ]
    rw [lc_map (b := bNm 9) (t := tTrue) (e := le_law_ten_names_2) VV.int (fun i => VV.str ⟨#[97 + i.toNat]⟩) (ys := rowN base A x j) (fun i hi => ⟨_, rfl, rfl, by
      obtain ⟨i0, i1⟩ := r3 i hi
      walk_at "ev"
      rw [letter_ix i0 i1]
      walk_at "ev", rfl⟩), afterL_ok]
    walk_at "ev"
    have hs : (rowN base A x j).map (fun i => VV.str ⟨#[97 + i.toNat]⟩) = ((letL (rowN base A x j)).map fun c => (⟨#[c]⟩ : Str)).map VV.str := by
      unfold letL
      rw [List.map_map, List.map_map]; rfl
    have hsum : ∀ l : List Nat, ((l.map fun c => (⟨#[c]⟩ : Str)).map (·.length)).sum = l.length := by
      intro l
      induction l with
      | nil => rfl
      | cons c l ih => simp only [List.map_cons, List.sum_cons, ih, List.length_cons]; show 1 + l.length = _; omega
    rw [hs, joinR_lst (by
      rw [hsum, List.length_map]
      show _ + _ * 0 ≤ 16777216
      unfold letL
      rw [List.length_map]; omega)]
    walk_at "ev"
    rw [show (Txt.join (Str.ofString "") ((letL (rowN base A x j)).map fun c => (⟨#[c]⟩ : Str))) = ⟨(letL (rowN base A x j)).toArray⟩ from join_signs _]
    rw [appO_fl (by rw [List.length_map]; omega) rfl]
    walk_at "ev"
    rw [List.map_append]; rfl
  · intro c hc
    obtain ⟨i, hi, rfl⟩ := List.mem_map.mp hc
    obtain ⟨i0, i1⟩ := r3 i hi
    omega
theorem ten_eq (b : Bx) : ∃ (names : List (List Nat)) (b' : Bx), F_law_ten_names [.obj 0] [b.v] = .ok (.lst (names.map nmV)) [b'.v] ∧ names.length = 10 ∧ ∀ l ∈ names, Nm l := by
  obtain ⟨m, b1, e1, m0, m1⟩ := take1 b (m := 8) (by decide) (by decide)
  obtain ⟨base, b2, e2, lb, gb⟩ := ten_base b1 (m := m) m0 (by omega) (ρ := [some (.obj 0), some (.int m), none, none, none, none, none, none, none, none]) ⟨_, rfl⟩
  obtain ⟨a, b3, e3, a0, a1⟩ := take1 b2 (m := m + 1) (by omega) (by omega)
  obtain ⟨st, b4, e4, s0, s1⟩ := take1 b3 (m := 26) (by decide) (by decide)
  unfold F_law_ten_names B_law_ten_names
  walk_at "ev"
  simp only [e1]
  walk_at "ev"
  rw [if_pos (rngB m0 (by omega))]
  walk_at "ev"
  rw [if_neg (by show ¬ (rngV 0 m.toNat).length > 16777216; rw [show (rngV 0 m.toNat).length = m.toNat by unfold rngV; simp]; omega)]
  simp only [wp, List.set_cons_zero, List.set_cons_succ, e2, afterL_ok]
  walk_at "ev"
  simp only [e3]
  walk_at "ev"
  simp only [e4]
  walk_at "ev"
  simp only [List.any_nil, Bool.false_eq_true, false_or]
  rw [if_neg (by decide)]
  walk_at "ev"
  rw [if_pos (by decide)]
  walk_at "ev"
  rw [rng_eq]
  obtain ⟨ρ2, h2, e5, names, o7, o8, rfl, rfl, hl, hN⟩ := for_pre (b := bNm 7) (body := lb_law_ten_names_1) (fun (i : Nat) => VV.int (0 + (i : Int)))
    (fun pre ρ h => ∃ (names : List (List Nat)) (o7 o8 : Option VV), ρ = [some (.obj 0), some (.int m), some (.lst (base.map VV.int)), some (.int a), some (.str "abcdefghijklmnopqrstuvwxyz"), some (.int st), some (.obj 1), o7, o8, none] ∧ h = [b4.v, .fl (names.map nmV)] ∧ names.length = pre.length ∧ ∀ l ∈ names, Nm l)
    (List.range (Int.toNat 10)) (ρ := [some (.obj 0), some (.int m), some (.lst (base.map VV.int)), some (.int a), some (.str "abcdefghijklmnopqrstuvwxyz"), some (.int st), some (.obj 1), none, none, none]) (h := [b4.v, .fl []]) ⟨[], none, none, rfl, rfl, rfl, by simp⟩ (by
      rintro pre k post ey ρ h ⟨names, o7, o8, rfl, rfl, hl, hN⟩
      have hk : k < 10 := List.mem_range.mp (show k ∈ List.range 10 by rw [show (10 : Nat) = Int.toNat 10 from rfl, ey]; simp)
      have hp : pre.length ≤ 10 := by
        have := congrArg List.length ey
        rw [List.length_range, List.length_append] at this
        have : Int.toNat 10 = 10 := rfl
        omega
      obtain ⟨row, e, nm⟩ := ten_turn (x1 := some (.int m)) (o8 := o8) (base := base) (at' := a) (start := st) (k := 0 + (k : Int)) (names := names) b4 gb (by omega) a0 (by omega) s0 s1 (by omega) (by omega) (by omega)
      exact ⟨_, _, _, rfl, e, names ++ [letL row], _, _, rfl, rfl, by rw [List.length_append, List.length_append, hl]; rfl, fun l hl => by
        rcases List.mem_append.mp hl with h | h
        · exact hN l h
        · rw [List.mem_singleton.mp h]; exact nm⟩)
  rw [e5, thn_nx]
  walk_at "ev"
  exact ⟨names, b4, fin_o rfl rfl, by rw [hl, List.length_range]; rfl, hN⟩
/-! texts as lists of signs -/
def mk (l : List Nat) : Str := ⟨l.toArray⟩
theorem nm_mk (l : List Nat) : nmV l = .str (mk l) := rfl
theorem mk_len (l : List Nat) : (mk l).length = l.length := by rw [TL.len_tl]; rfl
theorem mk_inj {a b : List Nat} (h : mk a = mk b) : a = b := by
  have := congrArg TL.tl h
  exact this
theorem mk_eq (z : Str) : z = mk (TL.tl z) := TL.ext_tl rfl
theorem mk_app (a b : List Nat) : mk a ++ mk b = mk (a ++ b) := TL.ext_tl (by rw [TL.tl_append]; rfl)
theorem mk_dec (a b : List Nat) : decide (mk a = mk b) = decide (a = b) := decide_eq_decide.mpr ⟨mk_inj, fun e => by rw [e]⟩
section
variable {h : VH}
theorem t_add {a b : List Nat} (hl : a.length + b.length ≤ 16777216) : opAdd h (nmV a) (nmV b) = some (nmV (a ++ b)) := by
  show (if (mk a).length + (mk b).length ≤ SZ then some (VV.str (mk a ++ mk b)) else none) = _
  rw [mk_len, mk_len, if_pos hl, mk_app]; rfl
theorem t_len {a : List Nat} (hl : a.length ≤ 16777216) : cLen h [nmV a] = some (.int (a.length : Int)) := by
  show (if (mk a).length ≤ SZ then some (VV.int (mk a).length) else none) = _
  rw [mk_len, if_pos hl]
theorem t_eq {a b : List Nat} : opEq h (nmV a) (nmV b) = some (.bl (decide (a = b))) := by
  show some (VV.bl (decide (mk a = mk b))) = _
  rw [mk_dec]
theorem t_ne {a b : List Nat} : opNe h (nmV a) (nmV b) = some (.bl (!decide (a = b))) := by
  show some (VV.bl (!decide (mk a = mk b))) = _
  rw [mk_dec]
theorem t_signs {a : List Nat} : seqItems (nmV a) h = .ok (a.map fun c => nmV [c]) h := rfl
theorem t_at0 {c : Nat} {a : List Nat} (hl : a.length < 1000000) : opIx h (nmV (c :: a)) (.int 0) = some (nmV [c]) := by
  show (if (mk (c :: a)).length ≤ SZ then (atI (c :: a) 0).map (fun c => VV.str ⟨#[c]⟩) else none) = _
  rw [mk_len, if_pos (by rw [List.length_cons]; show _ ≤ 16777216; omega), show atI (c :: a) 0 = some c from atI_nat (j := 0) rfl]; rfl
theorem t_fore {a : List Nat} {k : Nat} (hl : a.length ≤ 16777216) : opSl h (nmV a) none (some (k : Int)) = some (nmV (a.take k)) := by
  show (if (mk a).length ≤ SZ then some (VV.str (cutS (mk a) none (some (k : Int)))) else none) = _
  rw [mk_len, if_pos hl]
  have e : cutS (mk a) none (some (k : Int)) = mk (a.take k) := by
    show mk ((a.drop (HT.sIx (mk a).length 0 none)).take (HT.sIx (mk a).length (mk a).length (some (k : Int)) - HT.sIx (mk a).length 0 none)) = _
    rw [HT.sIx_none, HT.sIx_nat, mk_len, List.drop_zero, Nat.sub_zero]
    congr 1
    rw [Nat.min_def]
    split
    · rfl
    · rw [List.take_of_length_le (Nat.le_refl _), List.take_of_length_le (by omega)]
  rw [e]; rfl
theorem t_rest {a : List Nat} {k : Nat} (hl : a.length ≤ 16777216) (hk : k ≤ a.length) : opSl h (nmV a) (some (k : Int)) none = some (nmV (a.drop k)) := by
  show (if (mk a).length ≤ SZ then some (VV.str (cutS (mk a) (some (k : Int)) none)) else none) = _
  rw [mk_len, if_pos hl]
  have e : cutS (mk a) (some (k : Int)) none = mk (a.drop k) := by
    show mk ((a.drop (HT.sIx (mk a).length 0 (some (k : Int)))).take (HT.sIx (mk a).length (mk a).length none - HT.sIx (mk a).length 0 (some (k : Int)))) = _
    rw [HT.sIx_none, HT.sIx_nat, mk_len, Nat.min_eq_left hk]
    congr 1
    exact List.take_of_length_le (by rw [List.length_drop]; omega)
  rw [e]; rfl
theorem t_join {s : List Nat} {ps : List (List Nat)} (hb : (ps.map (·.length)).sum + ps.length * s.length ≤ 16777216) : joinR (mk s) (.lst (ps.map nmV)) h = .ok (nmV (TL.joinL s ps)) h := by
  have e : ps.map nmV = (ps.map mk).map VV.str := by rw [List.map_map]; rfl
  have e2 : (ps.map mk).map (·.length) = ps.map (·.length) := by
    rw [List.map_map]
    exact List.map_congr_left fun p _ => mk_len p
  rw [e, joinR_lst (by rw [e2, List.length_map, mk_len]; exact hb), TL.join_eq, mk_eq (Str.join _ _), TL.tl_join, List.map_map]
  rw [show ps.map (TL.tl ∘ mk) = ps from (List.map_congr_left fun p _ => rfl).trans (List.map_id ps)]; rfl
theorem t_split {s : Nat} {ps : List (List Nat)} (hs : s < 256) (hne : ps ≠ []) (hp : ∀ p ∈ ps, s ∉ p) (hl : (TL.joinL [s] ps).length ≤ 1000000) : spR (nmV (TL.joinL [s] ps)) (.ok (nmV [s]) h) = .ok (.lst (ps.map nmV)) h := by
  have e := TL.split_join (y := mk [s]) (s := s) (S := []) rfl (by simp [mk]; omega) (parts := ps.map mk) (by simpa using hne) (fun p hq => by
    obtain ⟨q, hr, rfl⟩ := List.mem_map.mp hq
    exact hp q hr)
  have ej : Str.join (mk [s]) (ps.map mk) = mk (TL.joinL [s] ps) := by
    rw [mk_eq (Str.join _ _), TL.tl_join, List.map_map]
    rw [show ps.map (TL.tl ∘ mk) = ps from (List.map_congr_left fun p _ => rfl).trans (List.map_id ps)]; rfl
  rw [nm_mk, nm_mk, spR_ok rfl (by rw [mk_len]; show _ ≤ 16777216; omega)]
  rw [← ej, ← TL.join_eq, e, List.map_map]
  rfl
def numI (i : Int) : List Nat := if i < 0 then 45 :: TL.numL i.natAbs else TL.numL i.natAbs
theorem tl_int (i : Int) : TL.tl (Str.ofString (toString i)) = numI i := by
  cases i with
  | ofNat n => exact (TL.tl_num n).trans (by unfold numI; rw [if_neg (by simp)]; rfl)
  | negSucc n =>
    have e : toString (Int.negSucc n) = "-" ++ toString ((n + 1 : Nat) : Int) := rfl
    rw [e, TL.tl_ofString, String.toList_append, List.map_append, ← TL.tl_ofString (toString _), TL.tl_num]
    unfold numI
    rw [if_pos (by omega)]
    rfl
theorem t_str {i : Int} (hi : i.natAbs < 10 ^ 30) : cStr h [.int i] = some (nmV (numI i)) := by
  rw [str_int (by
    rcases Nat.eq_zero_or_pos i.natAbs with h0 | h0
    · rw [h0]; decide
    · exact (Nat.log2_lt (by omega)).mpr (Nat.lt_trans hi (by decide)))]
  show some (VV.str (Str.ofString (toString i))) = _
  rw [mk_eq (Str.ofString (toString i)), tl_int]; rfl
theorem t_strS {a : List Nat} : cStr h [nmV a] = some (nmV a) := rfl
theorem t_fmt {a : List Nat} (hl : a.length ≤ 16777216) : fmtR (nmV a) h = .ok (nmV a) h := fmtR_str (by
  show (mk a).length ≤ SZ
  rw [mk_len]; exact hl)
theorem t_cat {a b : List Nat} {k : Str → Res VV} (hl : a.length + b.length ≤ 16777216) : catR (mk a) (nmV b) k = k (mk (a ++ b)) := by
  rw [nm_mk, catR_str (by rw [mk_app, mk_len, List.length_append]; exact hl), mk_app]
theorem t_int {n : Nat} (hn : n < 10 ^ 30) : cIntS h [nmV (TL.numL n)] = some (.int (n : Int)) := by
  have hl := TL.numL_len (k := 30) (by decide) hn
  have e : mk (TL.numL n) = Str.ofString (toString ((n : Nat) : Int)) := by rw [mk_eq (Str.ofString _), TL.tl_num]
  rw [nm_mk, int_text (n := (n : Int)) (by rw [mk_len]; omega)]
  rw [e]
  exact TL.int_num (by omega)
theorem t_inS {c : Nat} {z : List Nat} : opInS false h (nmV [c]) (nmV z) = some (.bl (decide (c ∈ z))) := inS_sign
theorem t_in {a : List Nat} {ws : List (List Nat)} : opIn h (nmV a) (.tup (ws.map nmV)) = some (.bl (decide (a ∈ ws))) := by
  have e : strsOf (ws.map nmV) = some (ws.map mk) := by
    induction ws with
    | nil => rfl
    | cons w ws ih => rw [List.map_cons, nm_mk, strsOf, ih]; rfl
  show ((strsOf (ws.map nmV)).map fun ns => decide (mk a ∈ ns)).map VV.bl = _
  rw [e]
  show some (VV.bl (decide (mk a ∈ ws.map mk))) = _
  congr 2
  refine decide_eq_decide.mpr ⟨fun z => ?_, fun z => List.mem_map_of_mem z⟩
  obtain ⟨w, hw, e⟩ := List.mem_map.mp z
  rw [← mk_inj e]; exact hw
end
def wBegin : List Nat := [98, 101, 103, 105, 110]
def wDrop : List Nat := [100, 114, 111, 112]
def wForget : List Nat := [102, 111, 114, 103, 101, 116]
def wPut : List Nat := [112, 117, 116]
def wTake : List Nat := [116, 97, 107, 101]
def wFiner : List Nat := [102, 105, 110, 101, 114]
def wLesser : List Nat := [108, 101, 115, 115, 101, 114]
def wKeep : List Nat := [107, 101, 101, 112]
def wBundle : List Nat := [98, 117, 110, 100, 108, 101]
def wRing : List Nat := [114, 105, 110, 103]
def wCut : List Nat := [99, 117, 116]
def wAll : List Nat := [97, 108, 108, 58]
def wDigits : List Nat := [48, 49, 50, 51, 52, 53, 54, 55, 56, 57]
def wLetters : List Nat := [97, 98, 99, 100, 101, 102, 103, 104, 105, 106, 107, 108, 109, 110, 111, 112, 113, 114, 115, 116, 117, 118, 119, 120, 121, 122]
theorem l_begin : VV.str "begin" = nmV wBegin := by kernel_rfl
theorem l_drop : VV.str "drop" = nmV wDrop := by kernel_rfl
theorem l_forget : VV.str "forget" = nmV wForget := by kernel_rfl
theorem l_put : VV.str "put" = nmV wPut := by kernel_rfl
theorem l_take : VV.str "take" = nmV wTake := by kernel_rfl
theorem l_finer : VV.str "finer" = nmV wFiner := by kernel_rfl
theorem l_lesser : VV.str "lesser" = nmV wLesser := by kernel_rfl
theorem l_keep : VV.str "keep" = nmV wKeep := by kernel_rfl
theorem l_bundle : VV.str "bundle" = nmV wBundle := by kernel_rfl
theorem l_ring : VV.str "ring" = nmV wRing := by kernel_rfl
theorem l_cut : VV.str "cut" = nmV wCut := by kernel_rfl
theorem l_all : VV.str "all:" = nmV wAll := by kernel_rfl
theorem l_digits : VV.str "0123456789" = nmV wDigits := by kernel_rfl
theorem l_letters : VV.str "abcdefghijklmnopqrstuvwxyz" = nmV wLetters := by kernel_rfl
theorem l_blank : VV.str " " = nmV [32] := by kernel_rfl
theorem l_semi : VV.str ";" = nmV [59] := by kernel_rfl
theorem l_dot : VV.str "." = nmV [46] := by kernel_rfl
theorem l_comma : VV.str "," = nmV [44] := by kernel_rfl
theorem l_minus : VV.str "-" = nmV [45] := by kernel_rfl
theorem l_zero : VV.str "0" = nmV [48] := by kernel_rfl
/-! deeds -/
inductive PD where
  | a (w n : List Nat)
  | f (w n : List Nat) (face : List Nat)
  | k (n0 n1 n2 : List Nat) (s0 s1 : Nat) (row : List Int)
def PD.v : PD → VV
  | .a w n => .tup [nmV w, nmV n]
  | .f w n face => .tup [nmV w, nmV n, .tup (face.map fun (i : Nat) => VV.int (i : Int))]
  | .k n0 n1 n2 s0 s1 row => .tup [nmV wKeep, nmV n0, nmV n1, nmV n2, .int (s0 : Int), .int (s1 : Int), .tup (row.map VV.int)]
def wa : List (List Nat) := [wBegin, wDrop, wForget]
def wf : List (List Nat) := [wPut, wTake, wFiner, wLesser]
def PD.Ok : PD → Prop
  | .a w n => w ∈ wa ∧ Nm n
  | .f w n face => w ∈ wf ∧ Nm n ∧ 1 ≤ face.length ∧ face.length ≤ 6 ∧ ∀ i ∈ face, i < 10 ^ 30
  | .k n0 n1 n2 s0 s1 row => Nm n0 ∧ Nm n1 ∧ Nm n2 ∧ s0 < 10 ^ 30 ∧ s1 < 10 ^ 30 ∧ row.length ≤ 4 ∧ ∀ i ∈ row, i.natAbs < 10 ^ 30
theorem nm_ring : Nm wRing := ⟨by decide, by decide, by decide⟩
theorem nm_cut : Nm wCut := ⟨by decide, by decide, by decide⟩
theorem name_at {names : List (List Nat)} {h : VH} (hl : names.length = 10) (hn : ∀ l ∈ names, Nm l) {k : Nat} (hk : k < 10) : ∃ l, opIx h (.lst (names.map nmV)) (.int (k : Int)) = some (nmV l) ∧ Nm l := by
  have hk' : k < names.length := by omega
  refine ⟨names[k], ?_, hn _ (List.getElem_mem hk')⟩
  rw [x_lst]
  exact atI_in (by rw [List.getElem?_map, List.getElem?_eq_getElem hk']; rfl)
theorem greats_eq (b : Bx) {ρ : VSt} (h0 : ρ[0]? = some (some (.obj 0))) (hl : ρ.length = 9) {m : Int} (m0 : 0 ≤ m) (m1 : m < 1000) : ∃ (l : List Nat) (b' : Bx), lcGo (bNm 8) tTrue le_law_plain_deed_1 ρ (rngV 0 m.toNat) [b.v] = .ok (l.map fun (i : Nat) => VV.int (i : Int)) [b'.v] ∧ (l.length : Int) = m ∧ ∀ i ∈ l, i < 10 ^ 30 := by
  rw [rng_eq]
  obtain ⟨l, h', e4, ⟨b4, rfl⟩, l4, g4⟩ := lc_draw (b := bNm 8) (t := tTrue) (e := le_law_plain_deed_1) (ρ := ρ) (fun (i : Nat) => VV.int (0 + (i : Int))) (fun (i : Nat) => VV.int (i : Int)) (fun h => ∃ b : Bx, h = [b.v]) (fun i => i < 10 ^ 30) (ys := List.range m.toNat) (h := [b.v]) ⟨b, rfl⟩ (by
    rintro y _ h ⟨b, rfl⟩
    obtain ⟨n, b', e, hn⟩ := great_eq b
    refine ⟨_, n, [b'.v], rfl, rfl, ?_, rfl, ⟨b', rfl⟩, hn⟩
    unfold le_law_plain_deed_1
    rw [a_fn, a_cons, a_var, List.getElem?_set_ne (by decide), h0, getV_some, bnd_ok, a_nil, bnd_ok, bnd_ok]
    exact e)
  exact ⟨l, b4, e4, by rw [l4, List.length_range]; omega, g4⟩
theorem rows_eq (b : Bx) {ρ : VSt} (h0 : ρ[0]? = some (some (.obj 0))) (hl : ρ.length = 9) {m : Int} (m0 : 0 ≤ m) (m1 : m < 1000) : ∃ (l : List Int) (b' : Bx), lcGo (bNm 8) tTrue le_law_plain_deed_2 ρ (rngV 0 m.toNat) [b.v] = .ok (l.map VV.int) [b'.v] ∧ (l.length : Int) = m ∧ ∀ i ∈ l, i.natAbs < 10 ^ 30 := by
  rw [rng_eq]
  obtain ⟨l, h', e4, ⟨b4, rfl⟩, l4, g4⟩ := lc_draw (b := bNm 8) (t := tTrue) (e := le_law_plain_deed_2) (ρ := ρ) (fun (i : Nat) => VV.int (0 + (i : Int))) VV.int (fun h => ∃ b : Bx, h = [b.v]) (fun i => i.natAbs < 10 ^ 30) (ys := List.range m.toNat) (h := [b.v]) ⟨b, rfl⟩ (by
    rintro y _ h ⟨b, rfl⟩
    obtain ⟨r, b1, e1, r0, r1⟩ := take1 b (m := 2) (by decide) (by decide)
    obtain ⟨n, b', e, hn⟩ := great_eq b1
    refine ⟨_, (1 - 2 * r) * n, [b'.v], rfl, rfl, ?_, rfl, ⟨b', rfl⟩, ?_⟩
    · unfold le_law_plain_deed_2
      simp only [a_bin, a_c, a_fn, a_cons, a_var, List.getElem?_set_ne (show (8 : Nat) ≠ 0 by decide), h0, getV_some, bnd_ok, a_nil]
      simp only [List.cons_append, List.nil_append, List.append_nil, List.length_cons, List.length_nil, Nat.zero_add, if_true, Nat.reduceAdd, e1, bnd_ok, o_mul_l (i := 2) (j := r) (by decide), lift_some, o_sub]
      simp only [a_fn, a_cons, a_var, List.getElem?_set_ne (show (8 : Nat) ≠ 0 by decide), h0, getV_some, bnd_ok, a_nil, List.cons_append, List.nil_append, List.append_nil, List.length_cons, List.length_nil, Nat.zero_add, if_true, e, o_mul_l (i := 1 - 2 * r) (j := (n : Int)) (by omega), lift_some]
    · rcases (by omega : r = 0 ∨ r = 1) with z | z <;> subst z
      · simpa using hn
      · simpa using hn)
  exact ⟨l, b4, e4, by rw [l4, List.length_range]; omega, g4⟩
theorem word_at {r : Int} {h : VH} (r0 : 0 ≤ r) (r1 : r < 9) : ∃ w, opIx h (.lst [nmV wBegin, nmV wDrop, nmV wForget, nmV wPut, nmV wTake, nmV wFiner, nmV wLesser, nmV wKeep, nmV wKeep]) (.int r) = some (nmV w) ∧ (w ∈ wa ∨ w ∈ wf ∨ w = wKeep) := by
  rcases (by omega : r = 0 ∨ r = 1 ∨ r = 2 ∨ r = 3 ∨ r = 4 ∨ r = 5 ∨ r = 6 ∨ r = 7 ∨ r = 8) with z | z | z | z | z | z | z | z | z <;> subst z
  · exact ⟨wBegin, rfl, .inl (by decide)⟩
  · exact ⟨wDrop, rfl, .inl (by decide)⟩
  · exact ⟨wForget, rfl, .inl (by decide)⟩
  · exact ⟨wPut, rfl, .inr (.inl (by decide))⟩
  · exact ⟨wTake, rfl, .inr (.inl (by decide))⟩
  · exact ⟨wFiner, rfl, .inr (.inl (by decide))⟩
  · exact ⟨wLesser, rfl, .inr (.inl (by decide))⟩
  · exact ⟨wKeep, rfl, .inr (.inr rfl)⟩
  · exact ⟨wKeep, rfl, .inr (.inr rfl)⟩
theorem kind_at {r : Int} {n : List Nat} {h : VH} (r0 : 0 ≤ r) (r1 : r < 3) (hn : Nm n) : ∃ w, opIx h (.lst [nmV wRing, nmV wCut, nmV n]) (.int r) = some (nmV w) ∧ Nm w := by
  rcases (by omega : r = 0 ∨ r = 1 ∨ r = 2) with z | z | z <;> subst z
  · exact ⟨wRing, rfl, nm_ring⟩
  · exact ⟨wCut, rfl, nm_cut⟩
  · exact ⟨n, rfl, hn⟩
theorem in_wa {w : List Nat} {h : VH} : opIn h (nmV w) (.tup [nmV wBegin, nmV wDrop, nmV wForget]) = some (.bl (decide (w ∈ wa))) := t_in (ws := wa)
theorem in_wf {w : List Nat} {h : VH} : opIn h (nmV w) (.tup [nmV wPut, nmV wTake, nmV wFiner, nmV wLesser]) = some (.bl (decide (w ∈ wf))) := t_in (ws := wf)
theorem obj_nm {a : List Nat} : (nmV a).isObj = false := rfl
theorem obj_int {i : Int} : (VV.int i).isObj = false := rfl
theorem obj_tup {xs : List VV} : (VV.tup xs).isObj = false := rfl
theorem obj_lst {xs : List VV} : (VV.lst xs).isObj = false := rfl
local macro_rules | `(tactic| walk_at "evt") => `(tactic| (walk_at "ev"; (try simp only [l_begin, l_drop, l_forget, l_put, l_take, l_finer, l_lesser, l_keep, l_bundle, l_ring, l_cut, l_all, l_digits, l_letters, l_blank, l_semi, l_dot, l_comma, l_minus, l_zero, List.any_cons, List.any_nil, obj_nm, obj_int, obj_tup, obj_lst, Bool.or_false, Bool.false_eq_true, false_or]); walk_at "ev"))
theorem plain_deed_eq (b : Bx) : ∃ (d : PD) (b' : Bx), F_law_plain_deed [.obj 0] [b.v] = .ok d.v [b'.v] ∧ d.Ok := by
  obtain ⟨names, b1, e1, nl, hn⟩ := ten_eq b
  obtain ⟨r, b2, e2, r0, r1⟩ := take1 b1 (m := 9) (by decide) (by decide)
  obtain ⟨w, e3, hw⟩ := word_at (h := [b2.v]) r0 r1
  obtain ⟨n0, f0, hn0⟩ := name_at (h := [b2.v]) nl hn (k := 0) (by decide)
  unfold F_law_plain_deed B_law_plain_deed
  walk_at "evt"
  simp only [e1]
  walk_at "evt"
  rw [if_neg (by decide)]
  walk_at "evt"
  simp only [e2]
  walk_at "evt"
  simp only [e3]
  walk_at "evt"
  rw [if_neg (by decide)]
  walk_at "evt"
  simp only [in_wa]
  walk_at "evt"
  by_cases c1 : w ∈ wa
  · simp only [decide_eq_true c1]
    walk_at "evt"
    simp only [show opIx [b2.v] (.lst (names.map nmV)) (.int 0) = some (nmV n0) from f0]
    walk_at "evt"
    rw [if_neg (by decide)]
    walk_at "evt"
    exact ⟨.a w n0, b2, fin_o rfl rfl, c1, hn0⟩
  simp only [decide_eq_false c1]
  walk_at "evt"
  simp only [t_ne]
  walk_at "evt"
  by_cases c2 : w = wKeep
  · subst c2
    simp only [decide_true]
    walk_at "evt"
    obtain ⟨m, b3, e4, m0, m1⟩ := take1 b2 (m := 5) (by decide) (by decide)
    simp only [e4]
    walk_at "evt"
    rw [if_pos (rngB m0 (by omega))]
    walk_at "evt"
    rw [if_neg (by show ¬ (rngV 0 m.toNat).length > 16777216; rw [show (rngV 0 m.toNat).length = m.toNat by unfold rngV; simp]; omega)]
    simp only [wp, List.set_cons_zero, List.set_cons_succ]
    obtain ⟨row, b4, e5, rl, hr⟩ := rows_eq b3 (m := m) (ρ := [some (.obj 0), some (.lst (names.map nmV)), some (nmV wKeep), some (.int m), none, none, none, none, none]) rfl rfl m0 (by omega)
    simp only [e5, afterL_ok]
    walk_at "evt"
    obtain ⟨s0, b5, e6, hs0⟩ := great_eq b4
    obtain ⟨s1, b6, e7, hs1⟩ := great_eq b5
    simp only [e6]
    walk_at "evt"
    simp only [e7]
    walk_at "evt"
    rw [if_neg (by decide)]
    walk_at "evt"
    obtain ⟨n1, f1, hn1⟩ := name_at (h := [b6.v]) nl hn (k := 1) (by decide)
    obtain ⟨n2, f2, hn2⟩ := name_at (h := [b6.v]) nl hn (k := 2) (by decide)
    simp only [show opIx [b6.v] (.lst (names.map nmV)) (.int 2) = some (nmV n2) from f2]
    walk_at "evt"
    rw [if_neg (by decide)]
    walk_at "evt"
    obtain ⟨q, b7, e8, q0, q1⟩ := take1 b6 (m := 3) (by decide) (by decide)
    simp only [e8]
    walk_at "evt"
    obtain ⟨kd, e9, hkd⟩ := kind_at (h := [b7.v]) q0 q1 hn2
    simp only [e9]
    walk_at "evt"
    simp only [show opIx [b7.v] (.lst (names.map nmV)) (.int 0) = some (nmV n0) from f0]
    walk_at "evt"
    simp only [show opIx [b7.v] (.lst (names.map nmV)) (.int 1) = some (nmV n1) from f1]
    walk_at "evt"
    rw [if_neg (by decide)]
    walk_at "evt"
    rw [add_tup (by simp)]
    walk_at "evt"
    simp only [tuple_lst]
    walk_at "evt"
    rw [if_neg (by decide)]
    walk_at "evt"
    rw [add_tup (by simp)]
    walk_at "evt"
    exact ⟨.k n0 n1 kd s0 s1 row, b7, fin_o rfl rfl, hn0, hn1, hkd, hs0, hs1, by omega, hr⟩
  · simp only [decide_eq_false c2]
    walk_at "evt"
    obtain ⟨m, b3, e4, m0, m1⟩ := take1 b2 (m := 6) (by decide) (by decide)
    simp only [e4]
    walk_at "evt"
    rw [if_pos (rngB (by omega) (by omega))]
    walk_at "evt"
    rw [if_neg (by show ¬ (rngV 0 (1 + m).toNat).length > 16777216; rw [show (rngV 0 (1 + m).toNat).length = (1 + m).toNat by unfold rngV; simp]; omega)]
    simp only [wp, List.set_cons_zero, List.set_cons_succ]
    obtain ⟨face, b4, e5, fl, hf⟩ := greats_eq b3 (m := 1 + m) (ρ := [some (.obj 0), some (.lst (names.map nmV)), some (nmV w), none, none, none, none, none, none]) rfl rfl (by omega) (by omega)
    simp only [e5, afterL_ok]
    walk_at "evt"
    simp only [show opIx [b4.v] (.lst (names.map nmV)) (.int 0) = some (nmV n0) from f0]
    walk_at "evt"
    simp only [tuple_lst]
    walk_at "evt"
    rw [if_neg (by decide)]
    walk_at "evt"
    exact ⟨.f w n0 face, b4, fin_o rfl rfl, (hw.resolve_left c1).resolve_right c2, hn0, by omega, by omega, hf⟩
/-! the texts of deeds -/
theorem s_dot : Str.ofString "." = mk [46] := by kernel_rfl
theorem s_comma : Str.ofString "," = mk [44] := by kernel_rfl
theorem s_blank : Str.ofString " " = mk [32] := by kernel_rfl
theorem s_semi : Str.ofString ";" = mk [59] := by kernel_rfl
theorem numI_nat (n : Nat) : numI (n : Int) = TL.numL n := by unfold numI; rw [if_neg (by omega)]; rfl
theorem numI_len {i : Int} (hi : i.natAbs < 10 ^ 30) : (numI i).length ≤ 31 := by
  have := TL.numL_len (k := 30) (by decide) hi
  unfold numI
  split
  · rw [List.length_cons]; omega
  · omega
theorem sum_bound {c : Nat} : ∀ {ps : List (List Nat)}, (∀ p ∈ ps, p.length ≤ c) → (ps.map (·.length)).sum ≤ ps.length * c
  | [], _ => by simp
  | p :: ps, hp => by
    have h1 := hp p List.mem_cons_self
    have h2 := sum_bound (ps := ps) fun q hq => hp q (List.mem_cons_of_mem _ hq)
    rw [List.map_cons, List.sum_cons, List.length_cons, Nat.add_mul, Nat.one_mul]
    omega
theorem joinL_len (s : List Nat) : ∀ ps : List (List Nat), (TL.joinL s ps).length ≤ (ps.map (·.length)).sum + ps.length * s.length
  | [] => by simp [TL.joinL]
  | [p] => by simp [TL.joinL]
  | p :: q :: r => by
    have := joinL_len s (q :: r)
    rw [TL.joinL, List.length_append, List.length_append]
    simp only [List.map_cons, List.sum_cons, List.length_cons, Nat.add_mul, Nat.one_mul] at this ⊢
    omega
theorem joinL_le {s : Nat} {ps : List (List Nat)} {c m : Nat} (hp : ∀ p ∈ ps, p.length ≤ c) (hm : ps.length ≤ m) : (TL.joinL [s] ps).length ≤ m * c + m := by
  have h1 := joinL_len [s] ps
  have h2 := sum_bound hp
  have h3 := Nat.mul_le_mul_right c hm
  simp only [List.length_cons, List.length_nil] at h1
  omega
theorem join_ok {s : Nat} {ps : List (List Nat)} {c m : Nat} {h : VH} (hp : ∀ p ∈ ps, p.length ≤ c) (hm : ps.length ≤ m) (hc : m * c + m ≤ 16777216) : joinR (mk [s]) (.lst (ps.map nmV)) h = .ok (nmV (TL.joinL [s] ps)) h := by
  refine t_join ?_
  have h2 := sum_bound hp
  have h3 := Nat.mul_le_mul_right c hm
  simp only [List.length_cons, List.length_nil]
  omega
def faceT (face : List Nat) : List Nat := TL.joinL [46] (face.map TL.numL)
def rowT (row : List Int) : List Nat := if row.length = 0 then [45] else TL.joinL [44] (row.map numI)
theorem strs_lc {j : Nat} {l : List Int} {ρ : VSt} {h : VH} (hj : j < ρ.length) (hl : ∀ i ∈ l, i.natAbs < 10 ^ 30) : lcGo (bNm j) tTrue (eCall cStr (aCons (eVar j) aNil)) ρ (l.map VV.int) h = .ok ((l.map numI).map nmV) h := by
  rw [List.map_map]
  refine lc_map (b := bNm j) (t := tTrue) VV.int (nmV ∘ numI) (ys := l) fun i hi => ⟨_, rfl, rfl, ?_, rfl⟩
  simp only [a_call, a_cons, a_var, a_nil, List.getElem?_set_self hj, getV_some, bnd_ok, t_str (hl i hi), lift_some]
  rfl
theorem nat_ints (face : List Nat) : (face.map fun (i : Nat) => VV.int (i : Int)) = (face.map fun (i : Nat) => (i : Int)).map VV.int := by rw [List.map_map]; rfl
theorem nat_nums (face : List Nat) : (face.map fun (i : Nat) => (i : Int)).map numI = face.map TL.numL := by
  rw [List.map_map]
  exact List.map_congr_left fun i _ => numI_nat i
theorem numL_le {n : Nat} (hn : n < 10 ^ 30) : (TL.numL n).length ≤ 30 := TL.numL_len (by decide) hn
theorem face_parts {face : List Nat} (hf : ∀ i ∈ face, i < 10 ^ 30) : ∀ p ∈ face.map TL.numL, p.length ≤ 30 := fun p hp => by
  obtain ⟨i, hi, rfl⟩ := List.mem_map.mp hp
  exact numL_le (hf i hi)
theorem row_parts {row : List Int} (hr : ∀ i ∈ row, i.natAbs < 10 ^ 30) : ∀ p ∈ row.map numI, p.length ≤ 31 := fun p hp => by
  obtain ⟨i, hi, rfl⟩ := List.mem_map.mp hp
  exact numI_len (hr i hi)
section
variable {h : VH}
theorem face_text_eq {face : List Nat} (hl : face.length ≤ 6) (hf : ∀ i ∈ face, i < 10 ^ 30) : F_face_text [.tup (face.map fun (i : Nat) => VV.int (i : Int))] h = .ok (nmV (faceT face)) h := by
  unfold F_face_text B_face_text
  walk_at "evt"
  rw [nat_ints, if_neg (by rw [List.length_map, List.length_map]; show ¬ _ > 16777216; omega)]
  simp only [wp, List.set_cons_zero, List.set_cons_succ]
  rw [strs_lc (by simp) (fun i hi => by
    obtain ⟨n, hn, rfl⟩ := List.mem_map.mp hi
    exact hf n hn), nat_nums, afterL_ok]
  walk_at "evt"
  rw [s_dot, join_ok (face_parts hf) (by rw [List.length_map]; exact hl) (by decide)]
  walk_at "evt"
  rw [fin_ret rfl]; rfl
theorem row_text_eq {row : List Int} (hl : row.length ≤ 4) (hr : ∀ i ∈ row, i.natAbs < 10 ^ 30) : F_row_text [.tup (row.map VV.int)] h = .ok (nmV (rowT row)) h := by
  obtain ⟨n, hn⟩ : ∃ n : Int, (row.length : Int) = n := ⟨_, rfl⟩
  unfold F_row_text B_row_text
  walk_at "evt"
  simp only [len_tup, List.length_map, hn]
  walk_at "evt"
  by_cases c : row.length = 0
  · simp only [show n = 0 by omega, decide_true]
    walk_at "evt"
    rw [fin_ret rfl]; unfold rowT; rw [if_pos c]
  · simp only [decide_eq_false (show ¬ n = 0 by omega)]
    walk_at "evt"
    rw [if_neg (by rw [List.length_map]; show ¬ _ > 16777216; omega)]
    simp only [wp, List.set_cons_zero, List.set_cons_succ]
    rw [strs_lc (by simp) hr, afterL_ok]
    walk_at "evt"
    rw [s_comma, join_ok (row_parts hr) (by rw [List.length_map]; exact hl) (by decide)]
    walk_at "evt"
    rw [fin_ret rfl]; unfold rowT; rw [if_neg c]
theorem law_row_text_eq {row : List Int} (hl : row.length ≤ 4) (hr : ∀ i ∈ row, i.natAbs < 10 ^ 30) : F_law_row_text [.tup (row.map VV.int)] h = .ok (nmV (rowT row)) h := by
  obtain ⟨n, hn⟩ : ∃ n : Int, (row.length : Int) = n := ⟨_, rfl⟩
  unfold F_law_row_text B_law_row_text
  walk_at "evt"
  simp only [len_tup, List.length_map, hn]
  walk_at "evt"
  by_cases c : row.length = 0
  · simp only [decide_eq_false (show ¬ 0 < n by omega)]
    walk_at "evt"
    rw [fin_ret rfl]; unfold rowT; rw [if_pos c]
  · simp only [decide_eq_true (show 0 < n by omega)]
    walk_at "evt"
    rw [if_neg (by rw [List.length_map]; show ¬ _ > 16777216; omega)]
    simp only [wp, List.set_cons_zero, List.set_cons_succ]
    rw [strs_lc (by simp) hr, afterL_ok]
    walk_at "evt"
    rw [s_comma, join_ok (row_parts hr) (by rw [List.length_map]; exact hl) (by decide)]
    walk_at "evt"
    rw [fin_ret rfl]; unfold rowT; rw [if_neg c]
end
def PD.parts : PD → List (List Nat)
  | .a w n => [w, n]
  | .f w n face => [w, n, faceT face]
  | .k n0 n1 n2 s0 s1 row => [wKeep, n0, n1, n2, TL.numL s0, TL.numL s1, rowT row]
def PD.text (d : PD) : List Nat := TL.joinL [32] d.parts
theorem wa_len {w : List Nat} (h : w ∈ wa) : w.length ≤ 6 := by
  simp only [wa, List.mem_cons, List.not_mem_nil, or_false] at h
  rcases h with rfl | rfl | rfl <;> decide
theorem wf_len {w : List Nat} (h : w ∈ wf) : w.length ≤ 6 := by
  simp only [wf, List.mem_cons, List.not_mem_nil, or_false] at h
  rcases h with rfl | rfl | rfl | rfl <;> decide
theorem faceT_len {face : List Nat} (hl : face.length ≤ 6) (hf : ∀ i ∈ face, i < 10 ^ 30) : (faceT face).length ≤ 186 := joinL_le (c := 30) (m := 6) (face_parts hf) (by rw [List.length_map]; exact hl)
theorem rowT_len {row : List Int} (hl : row.length ≤ 4) (hr : ∀ i ∈ row, i.natAbs < 10 ^ 30) : (rowT row).length ≤ 128 := by
  unfold rowT
  split
  · decide
  · exact joinL_le (c := 31) (m := 4) (row_parts hr) (by rw [List.length_map]; exact hl)
theorem PD.part_len {d : PD} (ok : d.Ok) : ∀ p ∈ d.parts, p.length ≤ 186 := by
  cases d with
  | a w n =>
    obtain ⟨h1, h2⟩ := ok
    have := wa_len h1
    have := h2.le
    intro p hp
    simp only [PD.parts, List.mem_cons, List.not_mem_nil, or_false] at hp
    rcases hp with rfl | rfl <;> omega
  | f w n face =>
    obtain ⟨h1, h2, h3, h4, h5⟩ := ok
    have := wf_len h1
    have := h2.le
    have := faceT_len h4 h5
    intro p hp
    simp only [PD.parts, List.mem_cons, List.not_mem_nil, or_false] at hp
    rcases hp with rfl | rfl | rfl <;> omega
  | k n0 n1 n2 s0 s1 row =>
    obtain ⟨h1, h2, h3, h4, h5, h6, h7⟩ := ok
    have := h1.le
    have := h2.le
    have := h3.le
    have := numL_le h4
    have := numL_le h5
    have := rowT_len h6 h7
    have hk : wKeep.length = 4 := rfl
    intro p hp
    simp only [PD.parts, List.mem_cons, List.not_mem_nil, or_false] at hp
    rcases hp with rfl | rfl | rfl | rfl | rfl | rfl | rfl <;> omega
theorem PD.parts_len (d : PD) : d.parts.length ≤ 7 := by cases d <;> simp [PD.parts]
theorem PD.text_len {d : PD} (ok : d.Ok) : d.text.length ≤ 1309 := joinL_le (c := 186) (m := 7) (PD.part_len ok) d.parts_len
theorem s_empty : Str.empty = mk [] := rfl
theorem strs_mix {j : Nat} {ys : List (VV × List Nat)} {ρ : VSt} {h : VH} (hj : j < ρ.length) (hl : ∀ p ∈ ys, cStr h [p.1] = some (nmV p.2)) : lcGo (bNm j) tTrue (eCall cStr (aCons (eVar j) aNil)) ρ (ys.map fun p => p.1) h = .ok ((ys.map fun p => p.2).map nmV) h := by
  rw [List.map_map]
  refine lc_map (b := bNm j) (t := tTrue) (fun p : VV × List Nat => p.1) (nmV ∘ fun p => p.2) (ys := ys) fun p hp => ⟨_, rfl, rfl, ?_, rfl⟩
  simp only [a_call, a_cons, a_var, a_nil, List.getElem?_set_self hj, getV_some, bnd_ok, hl p hp, lift_some]
  rfl
theorem nk_a {w : List Nat} (h : w ∈ wa) : w ≠ wKeep ∧ w ≠ wBundle ∧ w ∉ wf := by
  simp only [wa, List.mem_cons, List.not_mem_nil, or_false] at h
  rcases h with rfl | rfl | rfl <;> decide
theorem nk_f {w : List Nat} (h : w ∈ wf) : w ≠ wKeep ∧ w ≠ wBundle ∧ w ∉ wa := by
  simp only [wf, List.mem_cons, List.not_mem_nil, or_false] at h
  rcases h with rfl | rfl | rfl | rfl <;> decide
theorem cut5 {a b c d e f : VV} : cut [a, b, c, d, e, f] none (some 5) = [a, b, c, d, e] := rfl
theorem cut6 {a b c d e f g : VV} : cut [a, b, c, d, e, f, g] none (some 6) = [a, b, c, d, e, f] := rfl
theorem at_5 {a b c d e f : VV} {h : VH} : opIx h (.lst [a, b, c, d, e, f]) (.int 5) = some f := rfl
theorem at_6 {a b c d e f g : VV} {h : VH} : opIx h (.tup [a, b, c, d, e, f, g]) (.int 6) = some g := rfl
theorem la0 {a : VV} {r : List VV} {h : VH} : opIx h (.lst (a :: r)) (.int 0) = some a := by rw [x_lst]; exact atI_nat (j := 0) rfl
theorem la1 {a b : VV} {r : List VV} {h : VH} : opIx h (.lst (a :: b :: r)) (.int 1) = some b := by rw [x_lst]; exact atI_nat (j := 1) rfl
theorem ta0 {a : VV} {r : List VV} {h : VH} : opIx h (.tup (a :: r)) (.int 0) = some a := by rw [x_tup]; exact atI_nat (j := 0) rfl
theorem ta1 {a b : VV} {r : List VV} {h : VH} : opIx h (.tup (a :: b :: r)) (.int 1) = some b := by rw [x_tup]; exact atI_nat (j := 1) rfl
theorem ta2 {a b c : VV} {r : List VV} {h : VH} : opIx h (.tup (a :: b :: c :: r)) (.int 2) = some c := by rw [x_tup]; exact atI_nat (j := 2) rfl
local macro_rules | `(tactic| walk_at "evu") => `(tactic| (walk_at "ev"; (try simp only [l_begin, l_drop, l_forget, l_put, l_take, l_finer, l_lesser, l_keep, l_bundle, l_ring, l_cut, l_all, l_digits, l_letters, l_blank, l_semi, l_dot, l_comma, l_minus, l_zero, List.any_cons, List.any_nil, obj_nm, obj_int, obj_tup, obj_lst, Bool.or_false, Bool.false_eq_true, false_or, la0, la1, ta0, ta1, ta2]); walk_at "ev"; (try simp only [l_begin, l_drop, l_forget, l_put, l_take, l_finer, l_lesser, l_keep, l_bundle, l_ring, l_cut, l_all, l_digits, l_letters, l_blank, l_semi, l_dot, l_comma, l_minus, l_zero, List.any_cons, List.any_nil, obj_nm, obj_int, obj_tup, obj_lst, Bool.or_false, Bool.false_eq_true, false_or, la0, la1, ta0, ta1, ta2]); walk_at "ev"; (try simp only [l_begin, l_drop, l_forget, l_put, l_take, l_finer, l_lesser, l_keep, l_bundle, l_ring, l_cut, l_all, l_digits, l_letters, l_blank, l_semi, l_dot, l_comma, l_minus, l_zero, List.any_cons, List.any_nil, obj_nm, obj_int, obj_tup, obj_lst, Bool.or_false, Bool.false_eq_true, false_or, la0, la1, ta0, ta1, ta2]); walk_at "ev"))
section
variable {h : VH}
theorem deed_text_plain {d : Nat} {p : PD} (ok : p.Ok) : F_deed_text (d + 1) [p.v] h = .ok (nmV p.text) h := by
  unfold F_deed_text B_deed_text
  cases p with
  | a w n =>
    obtain ⟨h1, h2⟩ := ok
    obtain ⟨k1, k2, k3⟩ := nk_a h1
    have := wa_len h1
    have := h2.le
    unfold PD.v
    walk_at "evu"
    rw [starT_tup (by simp)]
    walk_at "evu"
    simp only [t_eq, decide_eq_false k2]
    walk_at "evu"
    simp only [t_eq, decide_eq_false k1]
    walk_at "evu"
    rw [if_neg (by decide)]
    walk_at "evu"
    simp only [in_wa, decide_eq_true h1]
    walk_at "evu"
    rw [t_fmt (by omega)]
    walk_at "evu"
    rw [s_empty, t_cat (by simp; omega)]
    walk_at "evu"
    rw [t_cat (by simp; omega)]
    walk_at "evu"
    rw [t_fmt (by omega)]
    walk_at "evu"
    rw [t_cat (by simp; omega)]
    walk_at "evu"
    rw [fin_ret rfl]
    simp [PD.text, PD.parts, TL.joinL, nm_mk]
  | f w n face =>
    obtain ⟨h1, h2, h3, h4, h5⟩ := ok
    obtain ⟨k1, k2, k3⟩ := nk_f h1
    have := wf_len h1
    have := h2.le
    have := faceT_len h4 h5
    unfold PD.v
    walk_at "evu"
    rw [starT_tup (by simp)]
    walk_at "evu"
    simp only [t_eq, decide_eq_false k2]
    walk_at "evu"
    simp only [t_eq, decide_eq_false k1]
    walk_at "evu"
    rw [if_neg (by decide)]
    walk_at "evu"
    simp only [in_wa, decide_eq_false k3]
    walk_at "evu"
    rw [t_fmt (by omega)]
    walk_at "evu"
    rw [s_empty, t_cat (by simp; omega)]
    walk_at "evu"
    rw [t_cat (by simp; omega)]
    walk_at "evu"
    rw [t_fmt (by omega)]
    walk_at "evu"
    rw [t_cat (by simp; omega)]
    walk_at "evu"
    rw [t_cat (by simp; omega)]
    walk_at "evu"
    simp only [face_text_eq h4 h5]
    walk_at "evu"
    rw [t_fmt (by omega)]
    walk_at "evu"
    rw [t_cat (by simp; omega)]
    walk_at "evu"
    rw [fin_ret rfl]
    simp [PD.text, PD.parts, TL.joinL, nm_mk]
  | k n0 n1 n2 s0 s1 row =>
    have pl := PD.part_len ok
    obtain ⟨h1, h2, h3, h4, h5, h6, h7⟩ := ok
    unfold PD.v
    walk_at "evu"
    rw [starT_tup (by simp)]
    walk_at "evu"
    simp only [t_eq, decide_eq_false (show ¬ wKeep = wBundle by decide)]
    walk_at "evu"
    simp only [t_eq, decide_true]
    walk_at "evu"
    rw [if_neg (by decide)]
    walk_at "evu"
    simp only [sl_lst, cut5]
    walk_at "evu"
    rw [if_neg (by show ¬ _ > 16777216; simp)]
    simp only [wp, List.set_cons_zero, List.set_cons_succ]
    have em := strs_mix (j := 4) (ys := [(nmV n0, n0), (nmV n1, n1), (nmV n2, n2), (.int (s0 : Int), TL.numL s0), (.int (s1 : Int), TL.numL s1)]) (ρ := [some (VV.tup [nmV wKeep, nmV n0, nmV n1, nmV n2, .int (s0 : Int), .int (s1 : Int), .tup (row.map VV.int)]), some (nmV wKeep), some (.lst [nmV n0, nmV n1, nmV n2, .int (s0 : Int), .int (s1 : Int), .tup (row.map VV.int)]), none, none]) (h := h) (by simp) (by
      intro p hp
      simp only [List.mem_cons, List.not_mem_nil, or_false] at hp
      rcases hp with rfl | rfl | rfl | rfl | rfl
      · exact t_strS
      · exact t_strS
      · exact t_strS
      · rw [t_str (by simpa using h4), numI_nat]
      · rw [t_str (by simpa using h5), numI_nat])
    simp only [List.map_cons, List.map_nil] at em
    simp only [em, afterL_ok]
    walk_at "evu"
    rw [add_lst (by simp)]
    walk_at "evu"
    simp only [at_5]
    walk_at "evu"
    simp only [row_text_eq h6 h7]
    walk_at "evu"
    rw [if_neg (by decide)]
    walk_at "evu"
    rw [add_lst (by simp)]
    walk_at "evu"
    rw [s_blank]
    have ej := join_ok (s := 32) (ps := [wKeep, n0, n1, n2, TL.numL s0, TL.numL s1, rowT row]) (h := h) (c := 186) (m := 7) pl (by simp) (by decide)
    simp only [List.map_cons, List.map_nil] at ej
    simp only [ej]
    walk_at "evu"
    rw [fin_ret rfl]
    rfl
theorem law_text_plain {d : Nat} {p : PD} (ok : p.Ok) : F_law_text (d + 1) [p.v] h = .ok (nmV p.text) h := by
  unfold F_law_text B_law_text
  cases p with
  | a w n =>
    obtain ⟨h1, h2⟩ := ok
    obtain ⟨k1, k2, k3⟩ := nk_a h1
    have := wa_len h1
    have := h2.le
    unfold PD.v
    walk_at "evu"
    simp only [t_eq, decide_eq_false k2]
    walk_at "evu"
    simp only [t_eq, decide_eq_false k1]
    walk_at "evu"
    rw [if_neg (by decide)]
    walk_at "evu"
    simp only [in_wa, decide_eq_true h1]
    walk_at "evu"
    rw [t_add (by simp; omega)]
    walk_at "evu"
    rw [t_add (by simp; omega)]
    walk_at "evu"
    rw [fin_ret rfl]
    simp [PD.text, PD.parts, TL.joinL]
  | f w n face =>
    obtain ⟨h1, h2, h3, h4, h5⟩ := ok
    obtain ⟨k1, k2, k3⟩ := nk_f h1
    have := wf_len h1
    have := h2.le
    have := faceT_len h4 h5
    unfold PD.v
    walk_at "evu"
    simp only [t_eq, decide_eq_false k2]
    walk_at "evu"
    simp only [t_eq, decide_eq_false k1]
    walk_at "evu"
    rw [if_neg (by decide)]
    walk_at "evu"
    simp only [in_wa, decide_eq_false k3]
    walk_at "evu"
    rw [t_add (by simp; omega)]
    walk_at "evu"
    rw [t_add (by simp; omega)]
    walk_at "evu"
    rw [t_add (by simp; omega)]
    walk_at "evu"
    rw [nat_ints, if_neg (by rw [List.length_map, List.length_map]; show ¬ _ > 16777216; omega)]
    simp only [wp, List.set_cons_zero, List.set_cons_succ]
    rw [strs_lc (by simp) (fun i hi => by
      obtain ⟨n, hn, rfl⟩ := List.mem_map.mp hi
      exact h5 n hn), nat_nums, afterL_ok]
    walk_at "evu"
    rw [s_dot, join_ok (face_parts h5) (by rw [List.length_map]; exact h4) (by decide)]
    walk_at "evu"
    rw [show nmV (TL.joinL [46] (face.map TL.numL)) = nmV (faceT face) from rfl, t_add (by simp; omega)]
    walk_at "evu"
    rw [fin_ret rfl]
    simp [PD.text, PD.parts, TL.joinL]
  | k n0 n1 n2 s0 s1 row =>
    have pl := PD.part_len ok
    obtain ⟨h1, h2, h3, h4, h5, h6, h7⟩ := ok
    unfold PD.v
    walk_at "evu"
    simp only [t_eq, decide_eq_false (show ¬ wKeep = wBundle by decide)]
    walk_at "evu"
    simp only [t_eq, decide_true]
    walk_at "evu"
    simp only [J.sl_tup, cut6]
    walk_at "evu"
    rw [if_neg (by show ¬ _ > 16777216; simp)]
    simp only [wp, List.set_cons_zero, List.set_cons_succ]
    have em := strs_mix (j := 3) (ys := [(nmV wKeep, wKeep), (nmV n0, n0), (nmV n1, n1), (nmV n2, n2), (.int (s0 : Int), TL.numL s0), (.int (s1 : Int), TL.numL s1)]) (ρ := [some (VV.tup [nmV wKeep, nmV n0, nmV n1, nmV n2, .int (s0 : Int), .int (s1 : Int), .tup (row.map VV.int)]), none, none, none]) (h := h) (by simp) (by
      intro p hp
      simp only [List.mem_cons, List.not_mem_nil, or_false] at hp
      rcases hp with rfl | rfl | rfl | rfl | rfl | rfl
      · exact t_strS
      · exact t_strS
      · exact t_strS
      · exact t_strS
      · rw [t_str (by simpa using h4), numI_nat]
      · rw [t_str (by simpa using h5), numI_nat])
    simp only [List.map_cons, List.map_nil] at em
    simp only [em, afterL_ok]
    walk_at "evu"
    simp only [at_6]
    walk_at "evu"
    simp only [law_row_text_eq h6 h7]
    walk_at "evu"
    rw [if_neg (by decide)]
    walk_at "evu"
    rw [add_lst (by simp)]
    walk_at "evu"
    rw [s_blank]
    have ej := join_ok (s := 32) (ps := [wKeep, n0, n1, n2, TL.numL s0, TL.numL s1, rowT row]) (h := h) (c := 186) (m := 7) pl (by simp) (by decide)
    simp only [List.map_cons, List.map_nil] at ej
    simp only [ej]
    walk_at "evu"
    rw [fin_ret rfl]
    rfl
end
/-! reading -/
theorem numL_head : ∀ n : Nat, 1 ≤ n → ∀ r, TL.numL n ≠ 48 :: r := by
  intro n
  induction n using Nat.strongRecOn with
  | ind n ih =>
    intro h1 r e
    by_cases c : n < 10
    · rw [TL.numL_lt c] at e
      have := (List.cons.inj e).1
      omega
    · rw [TL.numL_step (by omega)] at e
      cases hq : TL.numL (n / 10) with
      | nil => exact TL.numL_ne _ hq
      | cons x xs =>
        rw [hq] at e
        have := (List.cons.inj e).1
        subst this
        exact ih (n / 10) (by omega) (by omega) xs hq
theorem numL_zero {n : Nat} {r : List Nat} (e : TL.numL n = 48 :: r) : TL.numL n = [48] := by
  rcases Nat.eq_zero_or_pos n with rfl | h
  · rfl
  · exact absurd e (numL_head n h r)
theorem numL_dig {n c : Nat} (h : c ∈ TL.numL n) : 48 ≤ c ∧ c ≤ 57 := by
  rcases Nat.lt_or_ge c 48 with k | k
  · exact absurd h (TL.numL_free (.inl k))
  · rcases Nat.lt_or_ge 57 c with k2 | k2
    · exact absurd h (TL.numL_free (.inr k2))
    · exact ⟨k, k2⟩
theorem in_digits {c : Nat} (h : 48 ≤ c ∧ c ≤ 57) : c ∈ wDigits := by
  rcases (by omega : c = 48 ∨ c = 49 ∨ c = 50 ∨ c = 51 ∨ c = 52 ∨ c = 53 ∨ c = 54 ∨ c = 55 ∨ c = 56 ∨ c = 57) with z | z | z | z | z | z | z | z | z | z <;> subst z <;> decide
theorem letters_all : ∀ k : Fin 26, 97 + (k : Nat) ∈ wLetters := by decide
theorem in_letters {c : Nat} (h : 97 ≤ c ∧ c ≤ 122) : c ∈ wLetters := by
  have := letters_all ⟨c - 97, by omega⟩
  rwa [show 97 + (c - 97) = c by omega] at this
theorem signs_in {j : Nat} {z a : List Nat} {ρ : VSt} {h : VH} {s : Str} (hs : VV.str s = nmV z) (hj : j < ρ.length) (ha : ∀ c ∈ a, c ∈ z) : lcGo (bNm j) tTrue (eBin (opInS false) (eVar j) (eC (.str s))) ρ (a.map fun c => nmV [c]) h = .ok (List.replicate a.length (.bl true)) h := by
  rw [lc_map (b := bNm j) (t := tTrue) (fun c : Nat => nmV [c]) (fun _ => VV.bl true) (ys := a) (fun c hc => ⟨_, rfl, rfl, by
    simp only [a_bin, a_var, a_c, List.getElem?_set_self hj, getV_some, bnd_ok, hs, t_inS, decide_eq_true (ha c hc), lift_some], rfl⟩), List.map_const']
local macro_rules | `(tactic| walk_at "evu") => `(tactic| (walk_at "ev"; (try simp only [l_begin, l_drop, l_forget, l_put, l_take, l_finer, l_lesser, l_keep, l_bundle, l_ring, l_cut, l_all, l_blank, l_semi, l_dot, l_comma, l_minus, l_zero, List.any_cons, List.any_nil, obj_nm, obj_int, obj_tup, obj_lst, Bool.or_false, Bool.false_eq_true, false_or, la0, la1, ta0, ta1, ta2]); walk_at "ev"; (try simp only [l_begin, l_drop, l_forget, l_put, l_take, l_finer, l_lesser, l_keep, l_bundle, l_ring, l_cut, l_all, l_blank, l_semi, l_dot, l_comma, l_minus, l_zero, List.any_cons, List.any_nil, obj_nm, obj_int, obj_tup, obj_lst, Bool.or_false, Bool.false_eq_true, false_or, la0, la1, ta0, ta1, ta2]); walk_at "ev"))
section
variable {h : VH}
theorem t_int_at {n : Nat} {l : List Nat} (hq : TL.numL n = l) (hn : n < 10 ^ 30) : cIntS h [nmV l] = some (.int (n : Int)) := by rw [← hq]; exact t_int hn
theorem read_plain_eq {n : Nat} (hn : n < 10 ^ 30) : F_read_plain [nmV (TL.numL n)] h = .ok (.int (n : Int)) h := by
  have hl := numL_le hn
  have hp : 1 ≤ (TL.numL n).length := List.length_pos_iff.mpr (TL.numL_ne n)
  obtain ⟨m, hm⟩ : ∃ m : Int, ((TL.numL n).length : Int) = m := ⟨_, rfl⟩
  unfold F_read_plain B_read_plain
  walk_at "evu"
  simp only [t_len (a := TL.numL n) (by omega), hm]
  walk_at "evu"
  simp only [decide_eq_true (show (1 : Int) ≤ m by omega)]
  walk_at "evu"
  simp only [decide_eq_true (show m ≤ 30 by omega)]
  walk_at "evu"
  simp only [t_signs]
  walk_at "evu"
  rw [if_neg (by rw [List.length_map]; show ¬ _ > 16777216; omega)]
  simp only [wp, List.set_cons_zero, List.set_cons_succ]
  rw [signs_in l_digits (by simp) (fun c hc => in_digits (numL_dig hc)), afterL_ok]
  walk_at "evu"
  simp only [all_true]
  walk_at "evu"
  cases hq : TL.numL n with
  | nil => exact absurd hq (TL.numL_ne n)
  | cons c r =>
    have hr : r.length < 1000000 := by rw [hq, List.length_cons] at hl; omega
    simp only [t_at0 hr]
    walk_at "evu"
    simp only [t_eq]
    walk_at "evu"
    by_cases k : c = 48
    · subst k
      have e1 : (48 :: r) = [48] := by rw [← hq]; exact numL_zero hq
      simp only [decide_true]
      walk_at "evu"
      simp only [t_ne, e1, decide_true]
      walk_at "evu"
      rw [t_int_at hq hn]
      walk_at "evu"
      rw [fin_ret rfl]
    · simp only [decide_eq_false (show ¬ [c] = [48] from fun z => k (List.cons.inj z).1)]
      walk_at "evu"
      rw [t_int_at hq hn]
      walk_at "evu"
      rw [fin_ret rfl]
theorem read_number_eq {i : Int} (hi : i.natAbs < 10 ^ 30) : F_read_number [nmV (numI i)] h = .ok (.int i) h := by
  have hl := numL_le hi
  unfold F_read_number B_read_number numI
  by_cases c : i < 0
  · rw [if_pos c]
    walk_at "evu"
    simp only [show opSl h (nmV (45 :: TL.numL i.natAbs)) none (some 1) = some (nmV [45]) from t_fore (k := 1) (by rw [List.length_cons]; omega)]
    walk_at "evu"
    simp only [t_eq, decide_true]
    walk_at "evu"
    simp only [show opSl h (nmV (45 :: TL.numL i.natAbs)) (some 1) none = some (nmV (TL.numL i.natAbs)) from t_rest (k := 1) (by rw [List.length_cons]; omega) (by rw [List.length_cons]; omega)]
    walk_at "evu"
    simp only [read_plain_eq hi]
    walk_at "evu"
    simp only [decide_eq_false (show ¬ ((i.natAbs : Int) = 0) by omega)]
    walk_at "evu"
    rw [fin_ret rfl, show -(i.natAbs : Int) = i by omega]
  · rw [if_neg c]
    have hne : ¬ (TL.numL i.natAbs).take 1 = [45] := fun z => by
      have : 45 ∈ TL.numL i.natAbs := List.mem_of_mem_take (i := 1) (by rw [z]; simp)
      exact TL.numL_free (.inl (by decide)) this
    walk_at "evu"
    simp only [show opSl h (nmV (TL.numL i.natAbs)) none (some 1) = some (nmV ((TL.numL i.natAbs).take 1)) from t_fore (k := 1) (by omega)]
    walk_at "evu"
    simp only [t_eq, decide_eq_false hne]
    walk_at "evu"
    simp only [read_plain_eq hi]
    walk_at "evu"
    rw [fin_ret rfl, show (i.natAbs : Int) = i by omega]
theorem is_name_eq {n : List Nat} (hn : Nm n) : F_is_name [nmV n] h = .ok (.bl true) h := by
  have h1 := hn.pos
  have h2 := hn.le
  obtain ⟨m, hm⟩ : ∃ m : Int, (n.length : Int) = m := ⟨_, rfl⟩
  unfold F_is_name B_is_name
  walk_at "evu"
  simp only [t_len (a := n) (by omega), hm]
  walk_at "evu"
  simp only [decide_eq_true (show (1 : Int) ≤ m by omega)]
  walk_at "evu"
  simp only [decide_eq_true (show m ≤ 8 by omega)]
  walk_at "evu"
  simp only [t_signs]
  walk_at "evu"
  rw [if_neg (by rw [List.length_map]; show ¬ _ > 16777216; omega)]
  simp only [wp, List.set_cons_zero, List.set_cons_succ]
  rw [signs_in l_letters (by simp) (fun c hc => in_letters (hn.az c hc)), afterL_ok]
  walk_at "evu"
  simp only [all_true]
  walk_at "evu"
  rw [fin_ret rfl]
theorem read_name_eq {n : List Nat} (hn : Nm n) : F_read_name [nmV n] h = .ok (nmV n) h := by
  unfold F_read_name B_read_name
  walk_at "evu"
  simp only [is_name_eq hn]
  walk_at "evu"
  rw [fin_ret rfl]
end
theorem numI_free {i : Int} {s : Nat} (h : s = 32 ∨ s = 44 ∨ s = 46 ∨ s = 59) : s ∉ numI i := fun z => by
  have hf : s ∉ TL.numL i.natAbs := TL.numL_free (s := s) (by omega)
  unfold numI at z
  split at z
  · rcases List.mem_cons.mp z with z | z
    · omega
    · exact hf z
  · exact hf z
theorem joinL_free {s t : Nat} (hst : s ≠ t) : ∀ {ps : List (List Nat)}, (∀ p ∈ ps, s ∉ p) → s ∉ TL.joinL [t] ps
  | [], _ => by simp [TL.joinL]
  | [p], h => by simpa [TL.joinL] using h p (by simp)
  | p :: q :: r, h => by
    have ih := joinL_free hst (ps := q :: r) fun x hx => h x (List.mem_cons_of_mem _ hx)
    have h1 := h p List.mem_cons_self
    rw [TL.joinL]
    simp only [List.mem_append, List.mem_cons, List.not_mem_nil, or_false, not_or]
    exact ⟨h1, hst, ih⟩
theorem numI_pos (i : Int) : 1 ≤ (numI i).length := by
  have := List.length_pos_iff.mpr (TL.numL_ne i.natAbs)
  unfold numI
  split
  · rw [List.length_cons]; omega
  · exact this
theorem row_ne {row : List Int} (hr : row ≠ []) : TL.joinL [44] (row.map numI) ≠ [45] := by
  match row, hr with
  | [i], _ =>
    show numI i ≠ [45]
    unfold numI
    split
    · intro z
      exact TL.numL_ne _ (List.cons.inj z).2
    · intro z
      have : 45 ∈ TL.numL i.natAbs := by rw [z]; simp
      exact TL.numL_free (.inl (by decide)) this
  | i :: j :: r, _ =>
    intro z
    have := congrArg List.length z
    have h1 := numI_pos i
    rw [List.map_cons, List.map_cons, TL.joinL, List.length_append, List.length_append] at this
    simp only [List.length_cons, List.length_nil] at this
    cases r with
    | nil =>
      have h2 := numI_pos j
      simp only [List.map_nil, TL.joinL] at this
      omega
    | cons k r =>
      have h2 := numI_pos j
      simp only [List.map_cons, TL.joinL, List.length_append, List.length_cons, List.length_nil] at this
      omega
theorem faceT_free {face : List Nat} {s : Nat} (h : s = 32 ∨ s = 59) : s ∉ faceT face := joinL_free (by omega) fun p hp => by
  obtain ⟨n, _, rfl⟩ := List.mem_map.mp hp
  exact TL.numL_free (s := s) (by omega)
theorem rowT_free {row : List Int} {s : Nat} (h : s = 32 ∨ s = 59) : s ∉ rowT row := by
  unfold rowT
  split
  · simp; omega
  · exact joinL_free (by omega) fun p hp => by
      obtain ⟨n, _, rfl⟩ := List.mem_map.mp hp
      exact numI_free (by omega)
theorem nm_free {n : List Nat} (hn : Nm n) {s : Nat} (h : s = 32 ∨ s = 59) : s ∉ n := fun z => by
  have := hn.az s z
  omega
theorem wa_free {w : List Nat} (h : w ∈ wa) {s : Nat} (hs : s = 32 ∨ s = 59) : s ∉ w := by
  simp only [wa, List.mem_cons, List.not_mem_nil, or_false] at h
  rcases hs with rfl | rfl <;> rcases h with rfl | rfl | rfl <;> decide
theorem wf_free {w : List Nat} (h : w ∈ wf) {s : Nat} (hs : s = 32 ∨ s = 59) : s ∉ w := by
  simp only [wf, List.mem_cons, List.not_mem_nil, or_false] at h
  rcases hs with rfl | rfl <;> rcases h with rfl | rfl | rfl | rfl <;> decide
theorem keep_free {s : Nat} (hs : s = 32 ∨ s = 59) : s ∉ wKeep := by rcases hs with rfl | rfl <;> decide
theorem PD.part_free {d : PD} (ok : d.Ok) {s : Nat} (hs : s = 32 ∨ s = 59) : ∀ p ∈ d.parts, s ∉ p := by
  cases d with
  | a w n =>
    obtain ⟨h1, h2⟩ := ok
    intro p hp
    simp only [PD.parts, List.mem_cons, List.not_mem_nil, or_false] at hp
    rcases hp with rfl | rfl
    · exact wa_free h1 hs
    · exact nm_free h2 hs
  | f w n face =>
    obtain ⟨h1, h2, _⟩ := ok
    intro p hp
    simp only [PD.parts, List.mem_cons, List.not_mem_nil, or_false] at hp
    rcases hp with rfl | rfl | rfl
    · exact wf_free h1 hs
    · exact nm_free h2 hs
    · exact faceT_free hs
  | k n0 n1 n2 s0 s1 row =>
    obtain ⟨h1, h2, h3, _⟩ := ok
    intro p hp
    simp only [PD.parts, List.mem_cons, List.not_mem_nil, or_false] at hp
    rcases hp with rfl | rfl | rfl | rfl | rfl | rfl | rfl
    · exact keep_free hs
    · exact nm_free h1 hs
    · exact nm_free h2 hs
    · exact nm_free h3 hs
    · exact TL.numL_free (s := s) (by omega)
    · exact TL.numL_free (s := s) (by omega)
    · exact rowT_free hs
theorem PD.parts_ne (d : PD) : d.parts ≠ [] := by cases d <;> simp [PD.parts]
theorem PD.text_free {d : PD} (ok : d.Ok) : 59 ∉ d.text := joinL_free (by decide) (PD.part_free ok (.inr rfl))
theorem l6_3 {a b c d e f : VV} {h : VH} : opIx h (.lst [a, b, c, d, e, f]) (.int 3) = some d := rfl
theorem l6_4 {a b c d e f : VV} {h : VH} : opIx h (.lst [a, b, c, d, e, f]) (.int 4) = some e := rfl
theorem l3_2 {a b c : VV} {h : VH} : opIx h (.lst [a, b, c]) (.int 2) = some c := rfl
theorem cut3 {a b c d e f : VV} : cut [a, b, c, d, e, f] none (some 3) = [a, b, c] := rfl
section
variable {h : VH}
theorem read_row_eq {row : List Int} (hl : row.length ≤ 4) (hr : ∀ i ∈ row, i.natAbs < 10 ^ 30) : F_read_row [nmV (rowT row)] h = .ok (.tup (row.map VV.int)) h := by
  unfold F_read_row B_read_row
  by_cases c : row.length = 0
  · obtain rfl := List.length_eq_zero_iff.mp c
    walk_at "evu"
    simp only [t_eq, show decide (rowT [] = [45]) = true from rfl]
    walk_at "evu"
    rw [if_neg (by decide)]
    walk_at "evu"
    rw [fin_ret rfl]
  · have e : rowT row = TL.joinL [44] (row.map numI) := if_neg c
    have hne : row ≠ [] := fun z => c (by rw [z]; rfl)
    rw [e]
    have jl := joinL_le (s := 44) (c := 31) (m := 4) (row_parts hr) (by rw [List.length_map]; exact hl)
    walk_at "evu"
    simp only [t_eq, decide_eq_false (row_ne hne)]
    walk_at "evu"
    rw [t_split (by decide) (by simpa using hne) (fun p hp => by
      obtain ⟨i, _, rfl⟩ := List.mem_map.mp hp
      exact numI_free (by omega)) (by omega)]
    walk_at "evu"
    rw [if_neg (by rw [List.length_map, List.length_map]; show ¬ _ > 16777216; omega)]
    simp only [wp, List.set_cons_zero, List.set_cons_succ]
    rw [List.map_map, lc_map (b := bNm 1) (t := tTrue) (e := le_read_row_1) (nmV ∘ numI) VV.int (ys := row) (fun i hi => ⟨_, rfl, rfl, by
      walk_at "evu"
      show F_read_number [nmV (numI i)] h = _
      exact read_number_eq (hr i hi), rfl⟩), afterL_ok]
    walk_at "evu"
    simp only [tuple_lst]
    walk_at "evu"
    rw [fin_ret rfl]
theorem read_words_eq {p : PD} (ok : p.Ok) : F_read_words [.lst (p.parts.map nmV)] h = .ok p.v h := by
  unfold F_read_words B_read_words
  cases p with
  | a w n =>
    obtain ⟨h1, h2⟩ := ok
    unfold PD.parts PD.v
    walk_at "evu"
    rw [starL_lst (by simp)]
    walk_at "evu"
    rw [if_neg (by decide)]
    walk_at "evu"
    simp only [in_wa, decide_eq_true h1]
    walk_at "evu"
    simp only [len_lst]
    walk_at "evu"
    simp only [show decide (((1 : Nat) : Int) = 1) = true from rfl]
    walk_at "evu"
    simp only [read_name_eq h2]
    walk_at "evu"
    rw [if_neg (by decide)]
    walk_at "evu"
    rw [fin_ret rfl]
  | f w n face =>
    obtain ⟨h1, h2, h3, h4, h5⟩ := ok
    obtain ⟨k1, k2, k3⟩ := nk_f h1
    have jl := joinL_le (s := 46) (c := 30) (m := 6) (face_parts h5) (by rw [List.length_map]; exact h4)
    have hne : face ≠ [] := fun z => by rw [z] at h3; simp at h3
    unfold PD.parts PD.v faceT
    walk_at "evu"
    rw [starL_lst (by simp)]
    walk_at "evu"
    rw [if_neg (by decide)]
    walk_at "evu"
    simp only [in_wa, decide_eq_false k3]
    walk_at "evu"
    rw [if_neg (by decide)]
    walk_at "evu"
    simp only [in_wf, decide_eq_true h1]
    walk_at "evu"
    simp only [len_lst]
    walk_at "evu"
    simp only [show decide (((2 : Nat) : Int) = 2) = true from rfl]
    walk_at "evu"
    simp only [read_name_eq h2]
    walk_at "evu"
    rw [t_split (by decide) (by simpa using hne) (fun p hp => by
      obtain ⟨i, _, rfl⟩ := List.mem_map.mp hp
      exact TL.numL_free (.inl (by decide))) (by omega)]
    walk_at "evu"
    rw [if_neg (by rw [List.length_map, List.length_map]; show ¬ _ > 16777216; omega)]
    simp only [wp, List.set_cons_zero, List.set_cons_succ]
    rw [List.map_map, lc_map (b := bNm 5) (t := tTrue) (e := le_read_words_1) (nmV ∘ TL.numL) (fun (i : Nat) => VV.int (i : Int)) (ys := face) (fun i hi => ⟨_, rfl, rfl, by
      walk_at "evu"
      show F_read_plain [nmV (TL.numL i)] h = _
      exact read_plain_eq (h5 i hi), rfl⟩), afterL_ok]
    walk_at "evu"
    simp only [tuple_lst]
    walk_at "evu"
    rw [if_neg (by decide)]
    walk_at "evu"
    rw [fin_ret rfl]
  | k n0 n1 n2 s0 s1 row =>
    obtain ⟨h1, h2, h3, h4, h5, h6, h7⟩ := ok
    unfold PD.parts PD.v
    walk_at "evu"
    rw [starL_lst (by simp)]
    walk_at "evu"
    rw [if_neg (by decide)]
    walk_at "evu"
    simp only [in_wa, decide_eq_false (show wKeep ∉ wa by decide)]
    walk_at "evu"
    rw [if_neg (by decide)]
    walk_at "evu"
    simp only [in_wf, decide_eq_false (show wKeep ∉ wf by decide)]
    walk_at "evu"
    simp only [t_ne, decide_true]
    walk_at "evu"
    simp only [len_lst]
    walk_at "evu"
    simp only [show (!decide (((6 : Nat) : Int) = 6)) = false from rfl]
    walk_at "evu"
    simp only [sl_lst, cut3]
    walk_at "evu"
    rw [if_neg (by show ¬ _ > 16777216; simp)]
    simp only [wp, List.set_cons_zero, List.set_cons_succ]
    have em := lc_map (b := bNm 4) (t := tTrue) (e := le_read_words_2) (ρ := [some (VV.lst [nmV wKeep, nmV n0, nmV n1, nmV n2, nmV (TL.numL s0), nmV (TL.numL s1), nmV (rowT row)]), none, some (nmV wKeep), some (.lst [nmV n0, nmV n1, nmV n2, nmV (TL.numL s0), nmV (TL.numL s1), nmV (rowT row)]), none, none]) (h := h) nmV nmV (ys := [n0, n1, n2]) (fun n hn => ⟨_, rfl, rfl, by
      have hN : Nm n := by
        simp only [List.mem_cons, List.not_mem_nil, or_false] at hn
        rcases hn with rfl | rfl | rfl
        · exact h1
        · exact h2
        · exact h3
      walk_at "evu"
      exact read_name_eq hN, rfl⟩)
    simp only [List.map_cons, List.map_nil] at em
    simp only [em, afterL_ok]
    walk_at "evu"
    simp only [l3_2]
    walk_at "evu"
    simp only [l6_3]
    walk_at "evu"
    simp only [read_plain_eq h4]
    walk_at "evu"
    simp only [l6_4]
    walk_at "evu"
    simp only [read_plain_eq h5]
    walk_at "evu"
    simp only [at_5]
    walk_at "evu"
    simp only [read_row_eq h6 h7]
    walk_at "evu"
    rw [if_neg (by decide)]
    walk_at "evu"
    rw [fin_ret rfl]
end
inductive WD where
  | p (d : PD)
  | b (ds : List PD)
def WD.v : WD → VV
  | .p d => d.v
  | .b ds => .tup [nmV wBundle, .tup (ds.map PD.v)]
def WD.Ok : WD → Prop
  | .p d => d.Ok
  | .b ds => ds.length ≤ 3 ∧ ∀ d ∈ ds, d.Ok
def btext (ds : List PD) : List (List Nat) := ds.map fun d => 32 :: d.text
def WD.text : WD → List Nat
  | .p d => d.text
  | .b ds => wAll ++ TL.joinL [59] (btext ds)
theorem obj_pd {d : PD} : d.v.isObj = false := by cases d <;> rfl
theorem low_pd {d : PD} : lowV 1 d.v = true := by cases d <;> rfl
theorem written_eq (b : Bx) : ∃ (d : WD) (b' : Bx), F_law_written_deed [.obj 0] [b.v] = .ok d.v [b'.v] ∧ d.Ok := by
  obtain ⟨r, b1, e1, r0, r1⟩ := take1 b (m := 4) (by decide) (by decide)
  unfold F_law_written_deed B_law_written_deed
  walk_at "evu"
  simp only [e1]
  walk_at "evu"
  by_cases c : 0 < r
  · obtain ⟨d, b2, e2, ok⟩ := plain_deed_eq b1
    simp only [decide_eq_true c]
    walk_at "evu"
    simp only [e2]
    walk_at "evu"
    exact ⟨.p d, b2, fin_o low_pd rfl, ok⟩
  · simp only [decide_eq_false c]
    walk_at "evu"
    obtain ⟨m, b2, e2, m0, m1⟩ := take1 b1 (m := 4) (by decide) (by decide)
    simp only [e2]
    walk_at "evu"
    rw [if_pos (rngB m0 (by omega))]
    walk_at "evu"
    rw [if_neg (by show ¬ (rngV 0 m.toNat).length > 16777216; rw [show (rngV 0 m.toNat).length = m.toNat by unfold rngV; simp]; omega)]
    simp only [wp, List.set_cons_zero, List.set_cons_succ]
    rw [rng_eq]
    obtain ⟨ds, h', e4, ⟨b4, rfl⟩, l4, g4⟩ := lc_draw (b := bNm 1) (t := tTrue) (e := le_law_written_deed_1) (ρ := [some (.obj 0), none]) (fun (i : Nat) => VV.int (0 + (i : Int))) PD.v (fun h => ∃ b : Bx, h = [b.v]) PD.Ok (ys := List.range m.toNat) (h := [b2.v]) ⟨b2, rfl⟩ (by
      rintro y _ h ⟨b, rfl⟩
      obtain ⟨d, b', e, ok⟩ := plain_deed_eq b
      refine ⟨_, d, [b'.v], rfl, rfl, ?_, obj_pd, ⟨b', rfl⟩, ok⟩
      walk_at "evu"
      exact e)
    simp only [e4, afterL_ok]
    walk_at "evu"
    simp only [tuple_lst]
    walk_at "evu"
    rw [if_neg (by decide)]
    walk_at "evu"
    exact ⟨.b ds, b4, fin_o rfl rfl, by rw [l4, List.length_range]; omega, g4⟩
theorem btext_len {ds : List PD} (ok : ∀ d ∈ ds, d.Ok) : ∀ p ∈ btext ds, p.length ≤ 1310 := fun p hp => by
  obtain ⟨d, hd, rfl⟩ := List.mem_map.mp hp
  have := PD.text_len (ok d hd)
  rw [List.length_cons]; omega
theorem bundle_len {ds : List PD} (hl : ds.length ≤ 3) (ok : ∀ d ∈ ds, d.Ok) : (TL.joinL [59] (btext ds)).length ≤ 3933 := joinL_le (c := 1310) (m := 3) (btext_len ok) (by unfold btext; rw [List.length_map]; exact hl)
theorem texts_lc {j : Nat} {ds : List PD} {ρ : VSt} {h : VH} {F : FF} (hF : ∀ d ∈ ds, F [d.v] h = .ok (nmV d.text) h) (hj : j < ρ.length) (ok : ∀ d ∈ ds, d.Ok) : lcGo (bNm j) tTrue (eBin opAdd (eC (.str " ")) (eFn 1 F [] (aCons (eVar j) aNil))) ρ (ds.map PD.v) h = .ok ((btext ds).map nmV) h := by
  unfold btext
  rw [List.map_map]
  refine lc_map (b := bNm j) (t := tTrue) PD.v (nmV ∘ fun d => 32 :: d.text) (ys := ds) fun d hd => ⟨_, rfl, rfl, ?_, rfl⟩
  have := PD.text_len (ok d hd)
  simp only [a_bin, a_c, a_fn, a_cons, a_var, a_nil, List.getElem?_set_self hj, getV_some, bnd_ok, List.cons_append, List.nil_append, List.append_nil, List.length_cons, List.length_nil, Nat.zero_add, if_true, hF d hd, l_blank]
  rw [t_add (by simp; omega)]
  rfl
section
variable {h : VH}
theorem deed_text_eq {d : WD} (ok : d.Ok) : F_deed_text 3 [d.v] h = .ok (nmV d.text) h := by
  cases d with
  | p d => exact deed_text_plain ok
  | b ds =>
    obtain ⟨hl, ok⟩ := ok
    have bl := bundle_len hl ok
    unfold F_deed_text B_deed_text WD.v
    walk_at "evu"
    rw [starT_tup (by simp)]
    walk_at "evu"
    simp only [t_eq, decide_true]
    walk_at "evu"
    rw [if_neg (by rw [List.length_map]; show ¬ _ > 16777216; omega)]
    simp only [wp, List.set_cons_zero, List.set_cons_succ]
    rw [texts_lc (fun d hd => deed_text_plain (ok d hd)) (by simp) ok, afterL_ok]
    walk_at "evu"
    rw [s_semi, join_ok (btext_len ok) (m := 3) (by unfold btext; rw [List.length_map]; exact hl) (by decide)]
    walk_at "evu"
    rw [t_add (by show 4 + _ ≤ _; omega)]
    walk_at "evu"
    rw [fin_ret rfl]; rfl
theorem law_text_eq {d : WD} (ok : d.Ok) : F_law_text 3 [d.v] h = .ok (nmV d.text) h := by
  cases d with
  | p d => exact law_text_plain ok
  | b ds =>
    obtain ⟨hl, ok⟩ := ok
    have bl := bundle_len hl ok
    unfold F_law_text B_law_text WD.v
    walk_at "evu"
    simp only [t_eq, decide_true]
    walk_at "evu"
    rw [if_neg (by rw [List.length_map]; show ¬ _ > 16777216; omega)]
    simp only [wp, List.set_cons_zero, List.set_cons_succ]
    rw [texts_lc (fun d hd => law_text_plain (ok d hd)) (by simp) ok, afterL_ok]
    walk_at "evu"
    rw [s_semi, join_ok (btext_len ok) (m := 3) (by unfold btext; rw [List.length_map]; exact hl) (by decide)]
    walk_at "evu"
    rw [t_add (by show 4 + _ ≤ _; omega)]
    walk_at "evu"
    rw [fin_ret rfl]; rfl
theorem text_head {d : PD} (ok : d.Ok) : ∃ c r, d.text = c :: r ∧ c ≠ 97 := by
  cases d with
  | a w n =>
    obtain ⟨h1, _⟩ := ok
    simp only [wa, List.mem_cons, List.not_mem_nil, or_false] at h1
    rcases h1 with rfl | rfl | rfl <;> exact ⟨_, _, rfl, by decide⟩
  | f w n face =>
    obtain ⟨h1, _⟩ := ok
    simp only [wf, List.mem_cons, List.not_mem_nil, or_false] at h1
    rcases h1 with rfl | rfl | rfl | rfl <;> exact ⟨_, _, rfl, by decide⟩
  | k n0 n1 n2 s0 s1 row => exact ⟨_, _, rfl, by decide⟩
theorem split_text {d : PD} (ok : d.Ok) : spR (nmV d.text) (.ok (nmV [32]) h) = .ok (.lst (d.parts.map nmV)) h := by
  have := PD.text_len ok
  exact t_split (by decide) d.parts_ne (PD.part_free ok (.inl rfl)) (by show d.text.length ≤ _; omega)
theorem of_turn {ds : List PD} {d : PD} {o : VO} {x0 : Option VV} (ok : d.Ok) (hl : ds.length ≤ 100) : lb_deed_of_1 [x0, some (.obj 1), some (nmV (32 :: d.text))] [o, .fl (ds.map PD.v)] = .nx [x0, some (.obj 1), some (nmV (32 :: d.text))] [o, .fl ((ds ++ [d]).map PD.v)] := by
  have := PD.text_len ok
  walk_at "evu"
  simp only [show ∀ h : VH, opSl h (nmV (32 :: d.text)) none (some 1) = some (nmV [32]) from fun h => t_fore (k := 1) (by rw [List.length_cons]; omega)]
  walk_at "evu"
  simp only [t_ne, decide_true]
  walk_at "evu"
  simp only [show ∀ h : VH, opSl h (nmV (32 :: d.text)) (some 1) none = some (nmV d.text) from fun h => t_rest (k := 1) (by rw [List.length_cons]; omega) (by rw [List.length_cons]; omega)]
  walk_at "evu"
  rw [split_text ok]
  walk_at "evu"
  simp only [read_words_eq ok]
  walk_at "evu"
  rw [appO_fl (by rw [List.length_map]; omega) obj_pd]
  walk_at "evu"
  rw [List.map_append]; rfl
theorem deed_of_eq {d : WD} {o : VO} (ho : lowO 1 o = true) (ok : d.Ok) : F_deed_of [nmV d.text] [o] = .ok d.v [o] := by
  unfold F_deed_of B_deed_of
  cases d with
  | p d =>
    obtain ⟨c, r, e, hc⟩ := text_head ok
    have tl := PD.text_len ok
    have n1 : ¬ d.text = wAll := fun z => by rw [e] at z; exact hc (List.cons.inj z).1
    have n2 : ¬ d.text.take 4 = wAll := fun z => by rw [e] at z; exact hc (List.cons.inj z).1
    unfold WD.text WD.v
    walk_at "evu"
    simp only [t_eq, decide_eq_false n1]
    walk_at "evu"
    simp only [show ∀ h : VH, opSl h (nmV d.text) none (some 4) = some (nmV (d.text.take 4)) from fun h => t_fore (k := 4) (by omega)]
    walk_at "evu"
    simp only [t_ne, decide_eq_false n2]
    walk_at "evu"
    rw [split_text ok]
    walk_at "evu"
    simp only [read_words_eq ok]
    walk_at "evu"
    rw [fin_o low_pd ho]
  | b ds =>
    obtain ⟨hl, ok⟩ := ok
    have bl := bundle_len hl ok
    unfold WD.text WD.v
    walk_at "evu"
    by_cases c : ds = []
    · subst c
      simp only [t_eq, show decide (wAll ++ TL.joinL [59] (btext []) = wAll) = true from rfl]
      walk_at "evu"
      rw [if_neg (by decide)]
      walk_at "evu"
      rw [if_neg (by decide)]
      walk_at "evu"
      rw [fin_o rfl ho]
    · have hb : btext ds ≠ [] := by unfold btext; simpa using c
      have hbl : 1 ≤ (TL.joinL [59] (btext ds)).length := by
        cases ds with
        | nil => exact absurd rfl c
        | cons d ds =>
          cases ds with
          | nil => simp [btext, TL.joinL]
          | cons d2 ds => simp [btext, TL.joinL]
      have n1 : ¬ wAll ++ TL.joinL [59] (btext ds) = wAll := fun z => by
        have := congrArg List.length z
        rw [List.length_append] at this
        omega
      simp only [t_eq, decide_eq_false n1]
      walk_at "evu"
      simp only [show ∀ h : VH, opSl h (nmV (wAll ++ TL.joinL [59] (btext ds))) none (some 4) = some (nmV wAll) from fun h => t_fore (k := 4) (by rw [List.length_append]; show 4 + _ ≤ _; omega)]
      walk_at "evu"
      simp only [t_ne, decide_true]
      walk_at "evu"
      rw [if_neg (by decide)]
      walk_at "evu"
      simp only [show ∀ h : VH, opSl h (nmV (wAll ++ TL.joinL [59] (btext ds))) (some 4) none = some (nmV (TL.joinL [59] (btext ds))) from fun h => t_rest (k := 4) (by rw [List.length_append]; show 4 + _ ≤ _; omega) (by rw [List.length_append]; show 4 ≤ 4 + _; omega)]
      walk_at "evu"
      rw [t_split (by decide) hb (fun p hp => by
        obtain ⟨d, hd, rfl⟩ := List.mem_map.mp hp
        have := PD.text_free (ok d hd)
        simp only [List.mem_cons, not_or]
        exact ⟨by decide, this⟩) (by omega)]
      walk_at "evu"
      have eb : (btext ds).map nmV = ds.map fun d => nmV (32 :: d.text) := by unfold btext; rw [List.map_map]; rfl
      rw [eb]
      obtain ⟨ρ2, h2, e5, o2, rfl, rfl⟩ := for_pre (b := bNm 2) (body := lb_deed_of_1) (fun d : PD => nmV (32 :: d.text))
        (fun pre ρ h => ∃ (o2 : Option VV), ρ = [some (nmV (wAll ++ TL.joinL [59] (btext ds))), some (.obj 1), o2] ∧ h = [o, .fl (pre.map PD.v)])
        ds (ρ := [some (nmV (wAll ++ TL.joinL [59] (btext ds))), some (.obj 1), none]) (h := [o, .fl []]) ⟨none, rfl, rfl⟩ (by
          rintro pre d post ey ρ h ⟨o2, rfl, rfl⟩
          have hd : d ∈ ds := by rw [ey]; simp
          have hp : pre.length ≤ 100 := by
            have := congrArg List.length ey
            rw [List.length_append] at this
            omega
          exact ⟨_, _, _, rfl, of_turn (ok d hd) hp, _, rfl, rfl⟩)
      rw [e5, thn_nx]
      walk_at "evu"
      simp only [tuple_lst]
      walk_at "evu"
      rw [if_neg (by decide)]
      walk_at "evu"
      rw [fin_o rfl ho]
end
theorem shape_ints (l : List Int) : isD (.tup (l.map VV.int)) = true ∧ dep (.tup (l.map VV.int)) ≤ 1 ∧ wide (.tup (l.map VV.int)) = l.length := by
  refine ⟨by rw [isD]; exact isDs_ints l, by rw [dep, (deps_ints l).1]; exact Nat.le_refl _, ?_⟩
  rw [wide, (deps_ints l).2, List.length_map]; omega
theorem shape_pd {d : PD} (ok : d.Ok) : isD d.v = true ∧ dep d.v ≤ 2 ∧ wide d.v ≤ 7 := by
  cases d with
  | a w n =>
    unfold PD.v nmV
    exact ⟨rfl, by simp only [dep, deps]; omega, by simp only [wide, wides, List.length_cons, List.length_nil]; omega⟩
  | f w n face =>
    obtain ⟨s1, s2, s3⟩ := shape_ints (face.map fun (i : Nat) => (i : Int))
    rw [← nat_ints] at s1 s2 s3
    rw [List.length_map] at s3
    obtain ⟨_, _, _, h4, _⟩ := ok
    unfold PD.v nmV
    refine ⟨?_, ?_, ?_⟩
    · simp only [isD, isDs] at s1 ⊢
      rw [s1]; rfl
    · simp only [dep, deps] at s2 ⊢
      omega
    · simp only [wide, wides, List.length_cons, List.length_nil] at s3 ⊢
      omega
  | k n0 n1 n2 s0 s1 row =>
    obtain ⟨t1, t2, t3⟩ := shape_ints row
    obtain ⟨_, _, _, _, _, h6, _⟩ := ok
    unfold PD.v nmV
    refine ⟨?_, ?_, ?_⟩
    · simp only [isD, isDs] at t1 ⊢
      rw [t1]; rfl
    · simp only [dep, deps] at t2 ⊢
      omega
    · simp only [wide, wides, List.length_cons, List.length_nil] at t3 ⊢
      omega
theorem shape_pds : ∀ {ds : List PD}, (∀ d ∈ ds, d.Ok) → isDs (ds.map PD.v) = true ∧ deps (ds.map PD.v) ≤ 2 ∧ wides (ds.map PD.v) ≤ 7
  | [], _ => ⟨rfl, by decide, by decide⟩
  | d :: ds, ok => by
    obtain ⟨a1, a2, a3⟩ := shape_pd (ok d List.mem_cons_self)
    obtain ⟨b1, b2, b3⟩ := shape_pds (ds := ds) fun x hx => ok x (List.mem_cons_of_mem _ hx)
    rw [List.map_cons, isDs, deps, wides, a1, b1]
    exact ⟨rfl, by omega, by omega⟩
theorem alike_deed {d : WD} {h : VH} (ok : d.Ok) : F_law_alike 6 [d.v, d.v] h = .ok (.bl true) h := by
  have key : isD d.v = true ∧ dep d.v ≤ 4 ∧ wide d.v ≤ 7 := by
    cases d with
    | p d =>
      obtain ⟨a, b, c⟩ := shape_pd ok
      exact ⟨a, Nat.le_trans b (by decide), c⟩
    | b ds =>
      obtain ⟨hl, ok⟩ := ok
      obtain ⟨b1, b2, b3⟩ := shape_pds ok
      unfold WD.v nmV
      refine ⟨?_, ?_, ?_⟩
      · simp only [isD, isDs, b1]; rfl
      · simp only [dep, deps]; omega
      · simp only [wide, wides, List.length_cons, List.length_nil, List.length_map]; omega
  exact alike_refl 6 _ h key.1 (by omega) (by show _ ≤ 16777216; omega)
theorem alike_text {a : List Nat} {h : VH} : F_law_alike 6 [nmV a, nmV a] h = .ok (.bl true) h := alike_refl 6 _ h rfl (by unfold nmV; simp only [dep]; omega) (by unfold nmV; simp only [wide]; omega)
theorem law_turn (b : Bx) {x0 x2 o3 : Option VV} : ∃ (b' : Bx) (p3 : Option VV), lb_law_1 [x0, some (.obj 0), x2, o3] [b.v] = .nx [x0, some (.obj 0), x2, p3] [b'.v] := by
  obtain ⟨d, b1, e1, ok⟩ := written_eq b
  walk_at "evu"
  simp only [e1]
  walk_at "evu"
  simp only [deed_text_eq ok]
  walk_at "evu"
  simp only [law_text_eq ok]
  walk_at "evu"
  simp only [alike_text]
  walk_at "evu"
  simp only [law_text_eq ok]
  walk_at "evu"
  simp only [deed_of_eq (o := b1.v) rfl ok]
  walk_at "evu"
  simp only [alike_deed ok]
  walk_at "evu"
  exact ⟨b1, _, rfl⟩
theorem law_true : ∀ ns : List Int, ns.length ≤ 63 → (∀ z ∈ ns, Builtin.Int.intBits z ≤ 1048576) → ∃ h', F_law [.scr (ns.map VV.int)] [] = .ok (.bl true) h' := by
  intro ns _ _
  obtain ⟨b0, e0⟩ := box_eq ns
  unfold F_law B_law
  walk_at "evu"
  simp only [e0]
  walk_at "evu"
  rw [if_pos (by decide)]
  walk_at "evu"
  rw [rng_eq]
  obtain ⟨ρ2, h2, e5, b5, o2, o3, rfl, rfl⟩ := for_pre (b := bNm 2) (body := lb_law_1) (fun (i : Nat) => VV.int (0 + (i : Int)))
    (fun pre ρ h => ∃ (b : Bx) (o2 o3 : Option VV), ρ = [some (.scr (ns.map VV.int)), some (.obj 0), o2, o3] ∧ h = [b.v])
    (List.range (Int.toNat 8)) (ρ := [some (.scr (ns.map VV.int)), some (.obj 0), none, none]) (h := [b0.v]) ⟨b0, none, none, rfl, rfl⟩ (by
      rintro pre k post ey ρ h ⟨b, o2, o3, rfl, rfl⟩
      obtain ⟨b', p3, e⟩ := law_turn b (x0 := some (.scr (ns.map VV.int))) (x2 := some (.int (0 + (k : Int)))) (o3 := o3)
      exact ⟨_, _, _, rfl, e, b', _, _, rfl, rfl⟩)
  rw [e5, thn_nx]
  walk_at "evu"
  exact ⟨_, rfl⟩
end L
namespace L
open PySem L2 J
structure Blt (K : PySem.W.Frag) (mg : Str → Option Value) : Prop where
  n_all : mg "all" = none
  n_bool : mg "bool" = none
  n_int : mg "int" = none
  n_isinstance : mg "isinstance" = none
  n_len : mg "len" = none
  n_list : mg "list" = none
  n_range : mg "range" = none
  n_str : mg "str" = none
  n_tuple : mg "tuple" = none
  n_zip : mg "zip" = none
  g_FIGURES_MOST : ∃ t, mg "FIGURES_MOST" = some (.int 30 t)
  g_LETTERS : ∃ t, mg "LETTERS" = some (.str "abcdefghijklmnopqrstuvwxyz" t)
  g_SIGNS_MOST : ∃ t, mg "SIGNS_MOST" = some (.int 8 t)
section
variable {P : Program} {w : World} {K : PySem.W.Frag} {mg : Str → Option Value} {base : Heap}
theorem sc_law_box : FnScope ["_law_script", "_law_seed", "_law_cell"] ["_law_script"] (defScope s_law_box) := ⟨rfl, rfl, rfl, by decide +kernel, rfl, by decide +kernel, by decide +kernel⟩
theorem fn_law_box (B : Blt K mg) {f : Addr} {fd : FuncData} (D : Dm K "_law_box" "_law_box" s_law_box [] [] f fd) : FnOk P w K mg base (L2N.CX P w) 1 f fd ["_law_script"] (spF ⟨K, mg⟩ 1 F_law_box) :=
  fnokM_of (k := 0) (N := ["_law_script", "_law_seed", "_law_cell"]) (n := 3) D sc_law_box rfl (by decide) rfl fun cdv A outer s H E hr =>
      (js_cons (js_set (i := 1) sc_law_box.nd rfl (by first | exact Or.inl rfl | exact Or.inr rfl) j_int)
      (js_cons (js_for (passes_of rfl) rfl (ji_seq (j_sl (j_var 0 (pv 0)) jo_none (jo_some j_int))) (pg_name (i := 2) sc_law_box.nd rfl (by first | exact Or.inl rfl | exact Or.inr rfl)) (pat_nm 2) (js_one (js_set (i := 1) sc_law_box.nd rfl (by first | exact Or.inl rfl | exact Or.inr rfl) (j_bin or_mod (j_bin or_add (j_bin or_add (j_bin or_mul (j_var 1 (pv 1)) j_int) (j_var 2 (pv 2))) j_int) j_int))))
      (js_one (js_ret (j_lstO (ja_cons (j_callTy cr_listJ (by rfl) B.n_list (by decide +kernel) (ja_cons (j_sl (j_var 0 (pv 0)) jo_none (jo_some j_int)) ja_nil)) (ja_cons j_int (ja_cons j_int (ja_cons j_int (ja_cons (j_var 1 (pv 1)) ja_nil))))))))))
theorem ok_law_box_L0 (B : Blt K mg) {f : Addr} {fd : FuncData} (D : Dm K "_law_box" "_law_box" s_law_box [] [] f fd) (hm : mg "_law_box" = some (.ref f)) : Ok1 P w K mg base 1 "_law_box" 1 [] F_law_box := ok_of ⟨D.F, hm⟩ (fn_law_box B D) (fun _ _ _ _ _ _ us hl => match us, hl with | [_], _ => rfl)
theorem sc_law_mixed : FnScope ["_law_number", "_law_turn", "_law_one", "_law_two"] ["_law_number", "_law_turn"] (defScope s_law_mixed) := ⟨rfl, rfl, rfl, by decide +kernel, rfl, by decide +kernel, by decide +kernel⟩
theorem fn_law_mixed (B : Blt K mg) {f : Addr} {fd : FuncData} (D : Dm K "_law_mixed" "_law_mixed" s_law_mixed [] [] f fd) : FnOk P w K mg base (L2N.CX P w) 1 f fd ["_law_number", "_law_turn"] (spF ⟨K, mg⟩ 2 F_law_mixed) :=
  fnokM_of (k := 0) (N := ["_law_number", "_law_turn", "_law_one", "_law_two"]) (n := 4) D sc_law_mixed rfl (by decide) rfl fun cdv A outer s H E hr =>
      (js_cons (js_set (i := 2) sc_law_mixed.nd rfl (by first | exact Or.inl rfl | exact Or.inr rfl) (j_bin or_mod (j_bin or_add (j_bin or_add (j_bin or_mul (j_var 0 (pv 0)) j_int) (j_bin or_mul (j_var 1 (pv 1)) j_int)) j_int) j_int))
      (js_cons (js_set (i := 3) sc_law_mixed.nd rfl (by first | exact Or.inl rfl | exact Or.inr rfl) (j_bin or_mod (j_bin or_add (j_bin or_add (j_bin or_mul (j_var 2 (pv 2)) (j_bin or_add (j_bin or_mod (j_var 2 (pv 2)) j_int) j_int)) (j_bin or_mul (j_var 1 (pv 1)) j_int)) (j_bin or_mod (j_var 0 (pv 0)) j_int)) j_int))
      (js_one (js_ret (j_bin or_fdiv (j_var 3 (pv 3)) j_int)))))
theorem ok_law_mixed_L0 (B : Blt K mg) {f : Addr} {fd : FuncData} (D : Dm K "_law_mixed" "_law_mixed" s_law_mixed [] [] f fd) (hm : mg "_law_mixed" = some (.ref f)) : Ok1 P w K mg base 1 "_law_mixed" 2 [] F_law_mixed := ok_of ⟨D.F, hm⟩ (fn_law_mixed B D) (fun _ _ _ _ _ _ us hl => match us, hl with | [_, _], _ => rfl)
theorem sc_law_take : FnScope ["_law_box_here", "_law_many", "_law_cell", "_law_left"] ["_law_box_here", "_law_many"] (defScope s_law_take) := ⟨rfl, rfl, rfl, by decide +kernel, rfl, by decide +kernel, by decide +kernel⟩
theorem fn_law_take (B : Blt K mg) {f : Addr} {fd : FuncData} (D : Dm K "_law_take" "_law_take" s_law_take [] [] f fd) (O_law_mixed_L0 : Ok1 P w K mg base 1 "_law_mixed" 2 [] F_law_mixed) : FnOk P w K mg base (L2N.CX P w) 2 f fd ["_law_box_here", "_law_many"] (spF ⟨K, mg⟩ 2 F_law_take) :=
  fnokM_of (k := 1) (N := ["_law_box_here", "_law_many", "_law_cell", "_law_left"]) (n := 4) D sc_law_take rfl (by decide) rfl fun cdv A outer s H E hr =>
      (js_cons (js_setI (j_bin or_add (j_ix ir_ix (j_var 0 (pv 0)) j_int (fun _ _ => rfl)) j_int) (j_var 0 (pv 0)) j_int)
      (js_cons (js_if (jt_cmp or_gt (j_ix ir_ix (j_var 0 (pv 0)) j_int (fun _ _ => rfl)) j_int (nomark _)) (js_cons (js_set (i := 3) sc_law_take.nd rfl (by first | exact Or.inl rfl | exact Or.inr rfl) (j_ix ir_ix (j_var 0 (pv 0)) j_int (fun _ _ => rfl)))
      (js_cons (js_setI (j_bin or_fdiv (j_var 3 (pv 3)) (j_var 1 (pv 1))) (j_var 0 (pv 0)) j_int)
      (js_one (js_ret (j_bin or_mod (j_var 3 (pv 3)) (j_var 1 (pv 1))))))) js_nil)
      (js_cons (js_if (jt_cmp or_ge (j_ix ir_ix (j_var 0 (pv 0)) j_int (fun _ _ => rfl)) (j_callB cr_len (by rfl) B.n_len (by decide +kernel) (ja_cons (j_ix ir_ix (j_var 0 (pv 0)) j_int (fun _ _ => rfl)) ja_nil)) (nomark _)) (js_one (js_ret (j_bin or_mod (j_callO O_law_mixed_L0 (hr.mono (by decide)) (by rfl) (L2N.takes_of rfl rfl rfl rfl) (ja_cons (j_ix ir_ix (j_var 0 (pv 0)) j_int (fun _ _ => rfl)) (ja_cons (j_ix ir_ix (j_var 0 (pv 0)) j_int (fun _ _ => rfl)) ja_nil))) (j_var 1 (pv 1))))) js_nil)
      (js_cons (js_set (i := 2) sc_law_take.nd rfl (by first | exact Or.inl rfl | exact Or.inr rfl) (j_ix ir_ix (j_ix ir_ix (j_var 0 (pv 0)) j_int (fun _ _ => rfl)) (j_ix ir_ix (j_var 0 (pv 0)) j_int (fun _ _ => rfl)) (fun _ _ => rfl)))
      (js_cons (js_setI (j_bin or_add (j_ix ir_ix (j_var 0 (pv 0)) j_int (fun _ _ => rfl)) j_int) (j_var 0 (pv 0)) j_int)
      (js_cons (js_if (jt_cmp or_lt (j_var 2 (pv 2)) (j_bin or_pow j_int j_int) (nomark _)) (js_one (js_ret (j_bin or_mod (j_callO O_law_mixed_L0 (hr.mono (by decide)) (by rfl) (L2N.takes_of rfl rfl rfl rfl) (ja_cons (j_var 2 (pv 2)) (ja_cons (j_ix ir_ix (j_var 0 (pv 0)) j_int (fun _ _ => rfl)) ja_nil))) (j_var 1 (pv 1))))) js_nil)
      (js_cons (js_setI (j_bin or_fdiv (j_var 2 (pv 2)) (j_var 1 (pv 1))) (j_var 0 (pv 0)) j_int)
      (js_one (js_ret (j_bin or_mod (j_var 2 (pv 2)) (j_var 1 (pv 1))))))))))))
theorem ok_law_take_L0 (B : Blt K mg) {f : Addr} {fd : FuncData} (D : Dm K "_law_take" "_law_take" s_law_take [] [] f fd) (O_law_mixed_L0 : Ok1 P w K mg base 1 "_law_mixed" 2 [] F_law_mixed) (hm : mg "_law_take" = some (.ref f)) : Ok1 P w K mg base 2 "_law_take" 2 [] F_law_take := ok_of ⟨D.F, hm⟩ (fn_law_take B D O_law_mixed_L0) (fun _ _ _ _ _ _ us hl => match us, hl with | [_, _], _ => rfl)
theorem sc_law_ten_names : FnScope ["_law_box_here", "_law_size", "_law_base", "_law_at", "_law_letters", "_law_start", "_law_found", "_law_k", "_law_row", "_law_one"] ["_law_box_here"] (defScope s_law_ten_names) := ⟨rfl, rfl, rfl, by decide +kernel, rfl, by decide +kernel, by decide +kernel⟩
theorem fn_law_ten_names (B : Blt K mg) {f : Addr} {fd : FuncData} (D : Dm K "_law_ten_names" "_law_ten_names" s_law_ten_names [] [] f fd) (O_law_take_L0 : Ok1 P w K mg base 2 "_law_take" 2 [] F_law_take) : FnOk P w K mg base (L2N.CX P w) 3 f fd ["_law_box_here"] (spF ⟨K, mg⟩ 1 F_law_ten_names) :=
  fnokM_of (k := 2) (N := ["_law_box_here", "_law_size", "_law_base", "_law_at", "_law_letters", "_law_start", "_law_found", "_law_k", "_law_row", "_law_one"]) (n := 10) D sc_law_ten_names rfl (by decide) rfl fun cdv A outer s H E hr =>
      (js_cons (js_set (i := 1) sc_law_ten_names.nd rfl (by first | exact Or.inl rfl | exact Or.inr rfl) (j_callO O_law_take_L0 (hr.mono (by decide)) (by rfl) (L2N.takes_of rfl rfl rfl rfl) (ja_cons (j_var 0 (pv 0)) (ja_cons j_int ja_nil))))
      (js_cons (js_setLc (i := 2) rfl sc_law_ten_names.nd rfl rfl (sw_true rfl rfl rfl (by decide +kernel)) (ji_range1 (by rfl) B.n_range (j_var 1 (pv 1))) (blkOk_by (own := [("_law_k", 7)]) (by kernel_rfl)) (fun _ _ _ _ _ => (pg_name (i := 7) sc_law_ten_names.nd rfl (by first | exact Or.inl rfl | exact Or.inr rfl))) (pat_nm 7) (fun _ _ _ _ _ => jts_nil) (fun _ _ _ _ _ => (j_callO O_law_take_L0 (hr.mono (by decide)) (by rfl) takesN0 (ja_cons (j_var 0 (pv 0)) (ja_cons j_int ja_nil)))))
      (js_cons (js_set (i := 3) sc_law_ten_names.nd rfl (by first | exact Or.inl rfl | exact Or.inr rfl) (j_callO O_law_take_L0 (hr.mono (by decide)) (by rfl) (L2N.takes_of rfl rfl rfl rfl) (ja_cons (j_var 0 (pv 0)) (ja_cons (j_bin or_add (j_var 1 (pv 1)) j_int) ja_nil))))
      (js_cons (js_set (i := 4) sc_law_ten_names.nd rfl (by first | exact Or.inl rfl | exact Or.inr rfl) j_str)
      (js_cons (js_set (i := 5) sc_law_ten_names.nd rfl (by first | exact Or.inl rfl | exact Or.inr rfl) (j_callO O_law_take_L0 (hr.mono (by decide)) (by rfl) (L2N.takes_of rfl rfl rfl rfl) (ja_cons (j_var 0 (pv 0)) (ja_cons j_int ja_nil))))
      (js_cons (js_set (i := 6) sc_law_ten_names.nd rfl (by first | exact Or.inl rfl | exact Or.inr rfl) (j_lstO ja_nil))
      (js_cons (js_for (passes_of rfl) rfl (ji_range1 (by rfl) B.n_range j_int) (pg_name (i := 7) sc_law_ten_names.nd rfl (by first | exact Or.inl rfl | exact Or.inr rfl)) (pat_nm 7) (js_cons (js_set (i := 8) sc_law_ten_names.nd rfl (by first | exact Or.inl rfl | exact Or.inr rfl) (j_sl (j_bin or_add (j_bin or_add (j_sl (j_var 2 (pv 2)) jo_none (jo_some (j_var 3 (pv 3)))) (j_lst (ja_cons (j_bin or_mod (j_bin or_add (j_var 5 (pv 5)) (j_var 7 (pv 7))) j_int) ja_nil))) (j_sl (j_var 2 (pv 2)) (jo_some (j_var 3 (pv 3))) jo_none)) (jo_some (j_bin or_mod (j_var 7 (pv 7)) (j_bin or_add (j_var 3 (pv 3)) j_int))) jo_none))
      (js_one (js_expr (j_app (j_var 6 (pv 6)) (j_join j_str (j_lc rfl sc_law_ten_names.nd (ji_seq (j_var 8 (pv 8))) (blkOk_by (own := [("_law_one", 9)]) (by kernel_rfl)) (fun _ _ _ _ _ => (pg_name (i := 9) sc_law_ten_names.nd rfl (by first | exact Or.inl rfl | exact Or.inr rfl))) (pat_nm 9) (fun _ _ _ _ _ => jts_nil) (fun _ _ _ _ _ => (j_ix ir_ix (j_var 4 (pv 4)) (j_var 9 (pv 9)) (fun _ _ => rfl))))))))))
      (js_one (js_ret (j_frzD (j_var 6 (pv 6))))))))))))
theorem ok_law_ten_names_L0 (B : Blt K mg) {f : Addr} {fd : FuncData} (D : Dm K "_law_ten_names" "_law_ten_names" s_law_ten_names [] [] f fd) (O_law_take_L0 : Ok1 P w K mg base 2 "_law_take" 2 [] F_law_take) (hm : mg "_law_ten_names" = some (.ref f)) : Ok1 P w K mg base 3 "_law_ten_names" 1 [] F_law_ten_names := ok_of ⟨D.F, hm⟩ (fn_law_ten_names B D O_law_take_L0) (fun _ _ _ _ _ _ us hl => match us, hl with | [_], _ => rfl)
theorem sc_law_great_number : FnScope ["_law_box_here"] ["_law_box_here"] (defScope s_law_great_number) := ⟨rfl, rfl, rfl, by decide +kernel, rfl, by decide +kernel, by decide +kernel⟩
theorem fn_law_great_number (B : Blt K mg) {f : Addr} {fd : FuncData} (D : Dm K "_law_great_number" "_law_great_number" s_law_great_number [] [] f fd) (O_law_take_L0 : Ok1 P w K mg base 2 "_law_take" 2 [] F_law_take) : FnOk P w K mg base (L2N.CX P w) 3 f fd ["_law_box_here"] (spF ⟨K, mg⟩ 1 F_law_great_number) :=
  fnokM_of (k := 2) (N := ["_law_box_here"]) (n := 1) D sc_law_great_number rfl (by decide) rfl fun cdv A outer s H E hr =>
      (js_one (js_ret (j_ix ir_ix (j_lst (ja_cons j_int (ja_cons j_int (ja_cons (j_callO O_law_take_L0 (hr.mono (by decide)) (by rfl) (L2N.takes_of rfl rfl rfl rfl) (ja_cons (j_var 0 (pv 0)) (ja_cons j_int ja_nil))) (ja_cons (j_bin or_sub (j_bin or_pow j_int j_int) j_int) (ja_cons (j_callO O_law_take_L0 (hr.mono (by decide)) (by rfl) (L2N.takes_of rfl rfl rfl rfl) (ja_cons (j_var 0 (pv 0)) (ja_cons (j_bin or_pow j_int j_int) ja_nil))) ja_nil)))))) (j_callO O_law_take_L0 (hr.mono (by decide)) (by rfl) (L2N.takes_of rfl rfl rfl rfl) (ja_cons (j_var 0 (pv 0)) (ja_cons j_int ja_nil))) (fun _ _ => rfl))))
theorem ok_law_great_number_L0 (B : Blt K mg) {f : Addr} {fd : FuncData} (D : Dm K "_law_great_number" "_law_great_number" s_law_great_number [] [] f fd) (O_law_take_L0 : Ok1 P w K mg base 2 "_law_take" 2 [] F_law_take) (hm : mg "_law_great_number" = some (.ref f)) : Ok1 P w K mg base 3 "_law_great_number" 1 [] F_law_great_number := ok_of ⟨D.F, hm⟩ (fn_law_great_number B D O_law_take_L0) (fun _ _ _ _ _ _ us hl => match us, hl with | [_], _ => rfl)
theorem sc_law_plain_deed : FnScope ["_law_box_here", "_law_names", "_law_word", "_law_many", "_law_numbers", "_law_sizes", "_law_kind", "_law_face", "_law_k"] ["_law_box_here"] (defScope s_law_plain_deed) := ⟨rfl, rfl, rfl, by decide +kernel, rfl, by decide +kernel, by decide +kernel⟩
theorem fn_law_plain_deed (B : Blt K mg) {f : Addr} {fd : FuncData} (D : Dm K "_law_plain_deed" "_law_plain_deed" s_law_plain_deed [] [] f fd) (O_law_ten_names_L0 : Ok1 P w K mg base 3 "_law_ten_names" 1 [] F_law_ten_names) (O_law_take_L0 : Ok1 P w K mg base 2 "_law_take" 2 [] F_law_take) (O_law_great_number_L0 : Ok1 P w K mg base 3 "_law_great_number" 1 [] F_law_great_number) : FnOk P w K mg base (L2N.CX P w) 4 f fd ["_law_box_here"] (spF ⟨K, mg⟩ 1 F_law_plain_deed) :=
  fnokM_of (k := 3) (N := ["_law_box_here", "_law_names", "_law_word", "_law_many", "_law_numbers", "_law_sizes", "_law_kind", "_law_face", "_law_k"]) (n := 9) D sc_law_plain_deed rfl (by decide) rfl fun cdv A outer s H E hr =>
      (js_cons (js_set (i := 1) sc_law_plain_deed.nd rfl (by first | exact Or.inl rfl | exact Or.inr rfl) (j_callO O_law_ten_names_L0 (hr.mono (by decide)) (by rfl) (L2N.takes_of rfl rfl rfl rfl) (ja_cons (j_var 0 (pv 0)) ja_nil)))
      (js_cons (js_set (i := 2) sc_law_plain_deed.nd rfl (by first | exact Or.inl rfl | exact Or.inr rfl) (j_ix ir_ix (j_lst (ja_cons j_str (ja_cons j_str (ja_cons j_str (ja_cons j_str (ja_cons j_str (ja_cons j_str (ja_cons j_str (ja_cons j_str (ja_cons j_str ja_nil)))))))))) (j_callO O_law_take_L0 (hr.mono (by decide)) (by rfl) (L2N.takes_of rfl rfl rfl rfl) (ja_cons (j_var 0 (pv 0)) (ja_cons j_int ja_nil))) (fun _ _ => rfl)))
      (js_cons (js_if (jt_cmp (or_in hr) (j_var 2 (pv 2)) (j_tup (ja_cons j_str (ja_cons j_str (ja_cons j_str ja_nil)))) rfl) (js_one (js_ret (j_tup (ja_cons (j_var 2 (pv 2)) (ja_cons (j_ix ir_ix (j_var 1 (pv 1)) j_int (fun _ _ => rfl)) ja_nil))))) js_nil)
      (js_cons (js_if (jt_cmp (or_ne hr) (j_var 2 (pv 2)) j_str (nomark _)) (js_cons (js_setLc (i := 7) rfl sc_law_plain_deed.nd rfl rfl (sw_true rfl rfl rfl (by decide +kernel)) (ji_range1 (by rfl) B.n_range (j_bin or_add j_int (j_callO O_law_take_L0 (hr.mono (by decide)) (by rfl) (L2N.takes_of rfl rfl rfl rfl) (ja_cons (j_var 0 (pv 0)) (ja_cons j_int ja_nil))))) (blkOk_by (own := [("_law_k", 8)]) (by kernel_rfl)) (fun _ _ _ _ _ => (pg_name (i := 8) sc_law_plain_deed.nd rfl (by first | exact Or.inl rfl | exact Or.inr rfl))) (pat_nm 8) (fun _ _ _ _ _ => jts_nil) (fun _ _ _ _ _ => (j_callO O_law_great_number_L0 (hr.mono (by decide)) (by rfl) takesN0 (ja_cons (j_var 0 (pv 0)) ja_nil))))
      (js_one (js_ret (j_tup (ja_cons (j_var 2 (pv 2)) (ja_cons (j_ix ir_ix (j_var 1 (pv 1)) j_int (fun _ _ => rfl)) (ja_cons (j_callTy cr_tupleJ (by rfl) B.n_tuple (by decide +kernel) (ja_cons (j_var 7 (pv 7)) ja_nil)) ja_nil))))))) js_nil)
      (js_cons (js_set (i := 3) sc_law_plain_deed.nd rfl (by first | exact Or.inl rfl | exact Or.inr rfl) (j_callO O_law_take_L0 (hr.mono (by decide)) (by rfl) (L2N.takes_of rfl rfl rfl rfl) (ja_cons (j_var 0 (pv 0)) (ja_cons j_int ja_nil))))
      (js_cons (js_setLc (i := 4) rfl sc_law_plain_deed.nd rfl rfl (sw_true rfl rfl rfl (by decide +kernel)) (ji_range1 (by rfl) B.n_range (j_var 3 (pv 3))) (blkOk_by (own := [("_law_k", 8)]) (by kernel_rfl)) (fun _ _ _ _ _ => (pg_name (i := 8) sc_law_plain_deed.nd rfl (by first | exact Or.inl rfl | exact Or.inr rfl))) (pat_nm 8) (fun _ _ _ _ _ => jts_nil) (fun _ _ _ _ _ => (j_bin or_mul (j_bin or_sub j_int (j_bin or_mul j_int (j_callO O_law_take_L0 (hr.mono (by decide)) (by rfl) takesN0 (ja_cons (j_var 0 (pv 0)) (ja_cons j_int ja_nil))))) (j_callO O_law_great_number_L0 (hr.mono (by decide)) (by rfl) takesN0 (ja_cons (j_var 0 (pv 0)) ja_nil)))))
      (js_cons (js_set (i := 5) sc_law_plain_deed.nd rfl (by first | exact Or.inl rfl | exact Or.inr rfl) (j_tup (ja_cons (j_callO O_law_great_number_L0 (hr.mono (by decide)) (by rfl) (L2N.takes_of rfl rfl rfl rfl) (ja_cons (j_var 0 (pv 0)) ja_nil)) (ja_cons (j_callO O_law_great_number_L0 (hr.mono (by decide)) (by rfl) (L2N.takes_of rfl rfl rfl rfl) (ja_cons (j_var 0 (pv 0)) ja_nil)) ja_nil))))
      (js_cons (js_set (i := 6) sc_law_plain_deed.nd rfl (by first | exact Or.inl rfl | exact Or.inr rfl) (j_ix ir_ix (j_lst (ja_cons j_str (ja_cons j_str (ja_cons (j_ix ir_ix (j_var 1 (pv 1)) j_int (fun _ _ => rfl)) ja_nil)))) (j_callO O_law_take_L0 (hr.mono (by decide)) (by rfl) (L2N.takes_of rfl rfl rfl rfl) (ja_cons (j_var 0 (pv 0)) (ja_cons j_int ja_nil))) (fun _ _ => rfl)))
      (js_one (js_ret (j_bin or_add (j_bin or_add (j_tup (ja_cons (j_var 2 (pv 2)) (ja_cons (j_ix ir_ix (j_var 1 (pv 1)) j_int (fun _ _ => rfl)) (ja_cons (j_ix ir_ix (j_var 1 (pv 1)) j_int (fun _ _ => rfl)) (ja_cons (j_var 6 (pv 6)) ja_nil))))) (j_var 5 (pv 5))) (j_tup (ja_cons (j_callTy cr_tupleJ (by rfl) B.n_tuple (by decide +kernel) (ja_cons (j_var 4 (pv 4)) ja_nil)) ja_nil)))))))))))))
theorem ok_law_plain_deed_L0 (B : Blt K mg) {f : Addr} {fd : FuncData} (D : Dm K "_law_plain_deed" "_law_plain_deed" s_law_plain_deed [] [] f fd) (O_law_ten_names_L0 : Ok1 P w K mg base 3 "_law_ten_names" 1 [] F_law_ten_names) (O_law_take_L0 : Ok1 P w K mg base 2 "_law_take" 2 [] F_law_take) (O_law_great_number_L0 : Ok1 P w K mg base 3 "_law_great_number" 1 [] F_law_great_number) (hm : mg "_law_plain_deed" = some (.ref f)) : Ok1 P w K mg base 4 "_law_plain_deed" 1 [] F_law_plain_deed := ok_of ⟨D.F, hm⟩ (fn_law_plain_deed B D O_law_ten_names_L0 O_law_take_L0 O_law_great_number_L0) (fun _ _ _ _ _ _ us hl => match us, hl with | [_], _ => rfl)
theorem sc_law_written_deed : FnScope ["_law_box_here", "_law_k"] ["_law_box_here"] (defScope s_law_written_deed) := ⟨rfl, rfl, rfl, by decide +kernel, rfl, by decide +kernel, by decide +kernel⟩
theorem fn_law_written_deed (B : Blt K mg) {f : Addr} {fd : FuncData} (D : Dm K "_law_written_deed" "_law_written_deed" s_law_written_deed [] [] f fd) (O_law_take_L0 : Ok1 P w K mg base 2 "_law_take" 2 [] F_law_take) (O_law_plain_deed_L0 : Ok1 P w K mg base 4 "_law_plain_deed" 1 [] F_law_plain_deed) : FnOk P w K mg base (L2N.CX P w) 5 f fd ["_law_box_here"] (spF ⟨K, mg⟩ 1 F_law_written_deed) :=
  fnokM_of (k := 4) (N := ["_law_box_here", "_law_k"]) (n := 2) D sc_law_written_deed rfl (by decide) rfl fun cdv A outer s H E hr =>
      (js_cons (js_if (jt_cmp or_gt (j_callO O_law_take_L0 (hr.mono (by decide)) (by rfl) (L2N.takes_of rfl rfl rfl rfl) (ja_cons (j_var 0 (pv 0)) (ja_cons j_int ja_nil))) j_int (nomark _)) (js_one (js_ret (j_callO O_law_plain_deed_L0 (hr.mono (by decide)) (by rfl) (L2N.takes_of rfl rfl rfl rfl) (ja_cons (j_var 0 (pv 0)) ja_nil)))) js_nil)
      (js_one (js_ret (j_tup (ja_cons j_str (ja_cons (j_callTy cr_tupleJ (by rfl) B.n_tuple (by decide +kernel) (ja_cons (j_lc rfl sc_law_written_deed.nd (ji_range1 (by rfl) B.n_range (j_callO O_law_take_L0 (hr.mono (by decide)) (by rfl) (L2N.takes_of rfl rfl rfl rfl) (ja_cons (j_var 0 (pv 0)) (ja_cons j_int ja_nil)))) (blkOk_by (own := [("_law_k", 1)]) (by kernel_rfl)) (fun _ _ _ _ _ => (pg_name (i := 1) sc_law_written_deed.nd rfl (by first | exact Or.inl rfl | exact Or.inr rfl))) (pat_nm 1) (fun _ _ _ _ _ => jts_nil) (fun _ _ _ _ _ => (j_callO O_law_plain_deed_L0 (hr.mono (by decide)) (by rfl) takesN0 (ja_cons (j_var 0 (pv 0)) ja_nil)))) ja_nil)) ja_nil))))))
theorem ok_law_written_deed_L0 (B : Blt K mg) {f : Addr} {fd : FuncData} (D : Dm K "_law_written_deed" "_law_written_deed" s_law_written_deed [] [] f fd) (O_law_take_L0 : Ok1 P w K mg base 2 "_law_take" 2 [] F_law_take) (O_law_plain_deed_L0 : Ok1 P w K mg base 4 "_law_plain_deed" 1 [] F_law_plain_deed) (hm : mg "_law_written_deed" = some (.ref f)) : Ok1 P w K mg base 5 "_law_written_deed" 1 [] F_law_written_deed := ok_of ⟨D.F, hm⟩ (fn_law_written_deed B D O_law_take_L0 O_law_plain_deed_L0) (fun _ _ _ _ _ _ us hl => match us, hl with | [_], _ => rfl)
theorem sc_law_row_text : FnScope ["_law_numbers", "_law_number"] ["_law_numbers"] (defScope s_law_row_text) := ⟨rfl, rfl, rfl, by decide +kernel, rfl, by decide +kernel, by decide +kernel⟩
theorem fn_law_row_text (B : Blt K mg) {f : Addr} {fd : FuncData} (D : Dm K "_law_row_text" "_law_row_text" s_law_row_text [] [] f fd) : FnOk P w K mg base (L2N.CX P w) 1 f fd ["_law_numbers"] (spF ⟨K, mg⟩ 1 F_law_row_text) :=
  fnokM_of (k := 0) (N := ["_law_numbers", "_law_number"]) (n := 2) D sc_law_row_text rfl (by decide) rfl fun cdv A outer s H E hr =>
      (js_one (js_ret (j_if (jt_cmp or_gt (j_callB cr_len (by rfl) B.n_len (by decide +kernel) (ja_cons (j_var 0 (pv 0)) ja_nil)) j_int (nomark _)) (j_join j_str (j_lc rfl sc_law_row_text.nd (ji_seq (j_var 0 (pv 0))) (blkOk_by (own := [("_law_number", 1)]) (by kernel_rfl)) (fun _ _ _ _ _ => (pg_name (i := 1) sc_law_row_text.nd rfl (by first | exact Or.inl rfl | exact Or.inr rfl))) (pat_nm 1) (fun _ _ _ _ _ => jts_nil) (fun _ _ _ _ _ => (j_callTy cr_strJ (by rfl) B.n_str (by decide +kernel) (ja_cons (j_var 1 (pv 1)) ja_nil))))) j_str)))
theorem ok_law_row_text_L0 (B : Blt K mg) {f : Addr} {fd : FuncData} (D : Dm K "_law_row_text" "_law_row_text" s_law_row_text [] [] f fd) (hm : mg "_law_row_text" = some (.ref f)) : Ok1 P w K mg base 1 "_law_row_text" 1 [] F_law_row_text := ok_of ⟨D.F, hm⟩ (fn_law_row_text B D) (fun _ _ _ _ _ _ us hl => match us, hl with | [_], _ => rfl)
theorem sc_law_text : FnScope ["_law_deed", "_law_point", "_law_some", "_law_thing"] ["_law_deed"] (defScope s_law_text) := ⟨rfl, rfl, rfl, by decide +kernel, rfl, by decide +kernel, by decide +kernel⟩
theorem fn_law_text (B : Blt K mg) {f : Addr} {fd : FuncData} (D : Dm K "_law_text" "_law_text" s_law_text [] [] f fd) (O_law_row_text_L0 : Ok1 P w K mg base 1 "_law_row_text" 1 [] F_law_row_text) (hm : mg "_law_text" = some (.ref f)) : ∀ d : Nat, FnOk P w K mg base (L2N.CX P w) (1 + d) f fd ["_law_deed"] (spF ⟨K, mg⟩ 1 (F_law_text d))
  | 0 => fn_no rfl
  | d + 1 => by
    have OkR : Ok1 P w K mg base (1 + d) "_law_text" 1 [] (F_law_text d) := ok_of ⟨D.F, hm⟩ (fn_law_text B D O_law_row_text_L0 hm d) (fun _ _ _ _ _ _ us hl => match us, hl with | [_], _ => rfl)
    exact fnokM_of (k := 1 + d) (N := ["_law_deed", "_law_point", "_law_some", "_law_thing"]) (n := 4) D sc_law_text rfl (by decide) rfl fun cdv A outer s H E hr =>
      (js_cons (js_if (jt_cmp (or_eq hr) (j_ix ir_ix (j_var 0 (pv 0)) j_int (fun _ _ => rfl)) j_str (nomark _)) (js_one (js_ret (j_bin or_add j_str (j_join j_str (j_lc rfl sc_law_text.nd (ji_seq (j_ix ir_ix (j_var 0 (pv 0)) j_int (fun _ _ => rfl))) (blkOk_by (own := [("_law_some", 2)]) (by kernel_rfl)) (fun _ _ _ _ _ => (pg_name (i := 2) sc_law_text.nd rfl (by first | exact Or.inl rfl | exact Or.inr rfl))) (pat_nm 2) (fun _ _ _ _ _ => jts_nil) (fun _ _ _ _ _ => (j_bin or_add j_str (j_callO OkR hr (by rfl) takesN0 (ja_cons (j_var 2 (pv 2)) ja_nil))))))))) js_nil)
      (js_cons (js_if (jt_cmp (or_eq hr) (j_ix ir_ix (j_var 0 (pv 0)) j_int (fun _ _ => rfl)) j_str (nomark _)) (js_one (js_ret (j_join j_str (j_bin or_add (j_lc rfl sc_law_text.nd (ji_seq (j_sl (j_var 0 (pv 0)) jo_none (jo_some j_int))) (blkOk_by (own := [("_law_thing", 3)]) (by kernel_rfl)) (fun _ _ _ _ _ => (pg_name (i := 3) sc_law_text.nd rfl (by first | exact Or.inl rfl | exact Or.inr rfl))) (pat_nm 3) (fun _ _ _ _ _ => jts_nil) (fun _ _ _ _ _ => (j_callTy cr_strJ (by rfl) B.n_str (by decide +kernel) (ja_cons (j_var 3 (pv 3)) ja_nil)))) (j_lst (ja_cons (j_callO O_law_row_text_L0 (hr.mono (by omega)) (by rfl) (L2N.takes_of rfl rfl rfl rfl) (ja_cons (j_ix ir_ix (j_var 0 (pv 0)) j_int (fun _ _ => rfl)) ja_nil)) ja_nil)))))) js_nil)
      (js_cons (js_if (jt_cmp (or_in hr) (j_ix ir_ix (j_var 0 (pv 0)) j_int (fun _ _ => rfl)) (j_tup (ja_cons j_str (ja_cons j_str (ja_cons j_str ja_nil)))) rfl) (js_one (js_ret (j_bin or_add (j_bin or_add (j_ix ir_ix (j_var 0 (pv 0)) j_int (fun _ _ => rfl)) j_str) (j_ix ir_ix (j_var 0 (pv 0)) j_int (fun _ _ => rfl))))) js_nil)
      (js_one (js_ret (j_bin or_add (j_bin or_add (j_bin or_add (j_bin or_add (j_ix ir_ix (j_var 0 (pv 0)) j_int (fun _ _ => rfl)) j_str) (j_ix ir_ix (j_var 0 (pv 0)) j_int (fun _ _ => rfl))) j_str) (j_join j_str (j_lc rfl sc_law_text.nd (ji_seq (j_ix ir_ix (j_var 0 (pv 0)) j_int (fun _ _ => rfl))) (blkOk_by (own := [("_law_point", 1)]) (by kernel_rfl)) (fun _ _ _ _ _ => (pg_name (i := 1) sc_law_text.nd rfl (by first | exact Or.inl rfl | exact Or.inr rfl))) (pat_nm 1) (fun _ _ _ _ _ => jts_nil) (fun _ _ _ _ _ => (j_callTy cr_strJ (by rfl) B.n_str (by decide +kernel) (ja_cons (j_var 1 (pv 1)) ja_nil)))))))))))
theorem ok_law_text_L0 (B : Blt K mg) {f : Addr} {fd : FuncData} (D : Dm K "_law_text" "_law_text" s_law_text [] [] f fd) (O_law_row_text_L0 : Ok1 P w K mg base 1 "_law_row_text" 1 [] F_law_row_text) (hm : mg "_law_text" = some (.ref f)) : Ok1 P w K mg base 4 "_law_text" 1 [] (F_law_text 3) := ok_of ⟨D.F, hm⟩ (fn_law_text B D O_law_row_text_L0 hm 3) (fun _ _ _ _ _ _ us hl => match us, hl with | [_], _ => rfl)
theorem sc_row_text : FnScope ["numbers", "number"] ["numbers"] (defScope s_row_text) := ⟨rfl, rfl, rfl, by decide +kernel, rfl, by decide +kernel, by decide +kernel⟩
theorem fn_row_text (B : Blt K mg) {f : Addr} {fd : FuncData} (D : Dm K "row_text" "row_text" s_row_text [] [] f fd) : FnOk P w K mg base (L2N.CX P w) 1 f fd ["numbers"] (spF ⟨K, mg⟩ 1 F_row_text) :=
  fnokM_of (k := 0) (N := ["numbers", "number"]) (n := 2) D sc_row_text rfl (by decide) rfl fun cdv A outer s H E hr =>
      (js_cons (js_if (jt_cmp (or_eq hr) (j_callB cr_len (by rfl) B.n_len (by decide +kernel) (ja_cons (j_var 0 (pv 0)) ja_nil)) j_int (nomark _)) (js_one (js_ret j_str)) js_nil)
      (js_one (js_ret (j_join j_str (j_lc rfl sc_row_text.nd (ji_seq (j_var 0 (pv 0))) (blkOk_by (own := [("number", 1)]) (by kernel_rfl)) (fun _ _ _ _ _ => (pg_name (i := 1) sc_row_text.nd rfl (by first | exact Or.inl rfl | exact Or.inr rfl))) (pat_nm 1) (fun _ _ _ _ _ => jts_nil) (fun _ _ _ _ _ => (j_callTy cr_strJ (by rfl) B.n_str (by decide +kernel) (ja_cons (j_var 1 (pv 1)) ja_nil))))))))
theorem ok_row_text_L0 (B : Blt K mg) {f : Addr} {fd : FuncData} (D : Dm K "row_text" "row_text" s_row_text [] [] f fd) (hm : mg "row_text" = some (.ref f)) : Ok1 P w K mg base 1 "row_text" 1 [] F_row_text := ok_of ⟨D.F, hm⟩ (fn_row_text B D) (fun _ _ _ _ _ _ us hl => match us, hl with | [_], _ => rfl)
theorem sc_face_text : FnScope ["face", "point"] ["face"] (defScope s_face_text) := ⟨rfl, rfl, rfl, by decide +kernel, rfl, by decide +kernel, by decide +kernel⟩
theorem fn_face_text (B : Blt K mg) {f : Addr} {fd : FuncData} (D : Dm K "face_text" "face_text" s_face_text [] [] f fd) : FnOk P w K mg base (L2N.CX P w) 1 f fd ["face"] (spF ⟨K, mg⟩ 1 F_face_text) :=
  fnokM_of (k := 0) (N := ["face", "point"]) (n := 2) D sc_face_text rfl (by decide) rfl fun cdv A outer s H E hr =>
      (js_one (js_ret (j_join j_str (j_lc rfl sc_face_text.nd (ji_seq (j_var 0 (pv 0))) (blkOk_by (own := [("point", 1)]) (by kernel_rfl)) (fun _ _ _ _ _ => (pg_name (i := 1) sc_face_text.nd rfl (by first | exact Or.inl rfl | exact Or.inr rfl))) (pat_nm 1) (fun _ _ _ _ _ => jts_nil) (fun _ _ _ _ _ => (j_callTy cr_strJ (by rfl) B.n_str (by decide +kernel) (ja_cons (j_var 1 (pv 1)) ja_nil)))))))
theorem ok_face_text_L0 (B : Blt K mg) {f : Addr} {fd : FuncData} (D : Dm K "face_text" "face_text" s_face_text [] [] f fd) (hm : mg "face_text" = some (.ref f)) : Ok1 P w K mg base 1 "face_text" 1 [] F_face_text := ok_of ⟨D.F, hm⟩ (fn_face_text B D) (fun _ _ _ _ _ _ us hl => match us, hl with | [_], _ => rfl)
theorem sc_deed_text : FnScope ["deed", "word", "things", "some", "thing"] ["deed"] (defScope s_deed_text) := ⟨rfl, rfl, rfl, by decide +kernel, rfl, by decide +kernel, by decide +kernel⟩
theorem fn_deed_text (B : Blt K mg) {f : Addr} {fd : FuncData} (D : Dm K "deed_text" "deed_text" s_deed_text [] [] f fd) (O_row_text_L0 : Ok1 P w K mg base 1 "row_text" 1 [] F_row_text) (O_face_text_L0 : Ok1 P w K mg base 1 "face_text" 1 [] F_face_text) (hm : mg "deed_text" = some (.ref f)) : ∀ d : Nat, FnOk P w K mg base (L2N.CX P w) (1 + d) f fd ["deed"] (spF ⟨K, mg⟩ 1 (F_deed_text d))
  | 0 => fn_no rfl
  | d + 1 => by
    have OkR : Ok1 P w K mg base (1 + d) "deed_text" 1 [] (F_deed_text d) := ok_of ⟨D.F, hm⟩ (fn_deed_text B D O_row_text_L0 O_face_text_L0 hm d) (fun _ _ _ _ _ _ us hl => match us, hl with | [_], _ => rfl)
    exact fnokM_of (k := 1 + d) (N := ["deed", "word", "things", "some", "thing"]) (n := 5) D sc_deed_text rfl (by decide) rfl fun cdv A outer s H E hr =>
      (js_cons (js_star rfl (j_var 0 (pv 0)) (pg_name (i := 1) sc_deed_text.nd rfl (by first | exact Or.inl rfl | exact Or.inr rfl)) (pg_name (i := 2) sc_deed_text.nd rfl (by first | exact Or.inl rfl | exact Or.inr rfl)))
      (js_cons (js_if (jt_cmp (or_eq hr) (j_var 1 (pv 1)) j_str (nomark _)) (js_one (js_ret (j_bin or_add j_str (j_join j_str (j_lc rfl sc_deed_text.nd (ji_seq (j_ix ir_ix (j_var 2 (pv 2)) j_int (fun _ _ => rfl))) (blkOk_by (own := [("some", 3)]) (by kernel_rfl)) (fun _ _ _ _ _ => (pg_name (i := 3) sc_deed_text.nd rfl (by first | exact Or.inl rfl | exact Or.inr rfl))) (pat_nm 3) (fun _ _ _ _ _ => jts_nil) (fun _ _ _ _ _ => (j_bin or_add j_str (j_callO OkR hr (by rfl) takesN0 (ja_cons (j_var 3 (pv 3)) ja_nil))))))))) js_nil)
      (js_cons (js_if (jt_cmp (or_eq hr) (j_var 1 (pv 1)) j_str (nomark _)) (js_one (js_ret (j_join j_str (j_bin or_add (j_bin or_add (j_lst (ja_cons (j_var 1 (pv 1)) ja_nil)) (j_lc rfl sc_deed_text.nd (ji_seq (j_sl (j_var 2 (pv 2)) jo_none (jo_some j_int))) (blkOk_by (own := [("thing", 4)]) (by kernel_rfl)) (fun _ _ _ _ _ => (pg_name (i := 4) sc_deed_text.nd rfl (by first | exact Or.inl rfl | exact Or.inr rfl))) (pat_nm 4) (fun _ _ _ _ _ => jts_nil) (fun _ _ _ _ _ => (j_callTy cr_strJ (by rfl) B.n_str (by decide +kernel) (ja_cons (j_var 4 (pv 4)) ja_nil))))) (j_lst (ja_cons (j_callO O_row_text_L0 (hr.mono (by omega)) (by rfl) (L2N.takes_of rfl rfl rfl rfl) (ja_cons (j_ix ir_ix (j_var 2 (pv 2)) j_int (fun _ _ => rfl)) ja_nil)) ja_nil)))))) js_nil)
      (js_cons (js_if (jt_cmp (or_in hr) (j_var 1 (pv 1)) (j_tup (ja_cons j_str (ja_cons j_str (ja_cons j_str ja_nil)))) rfl) (js_one (js_ret (j_joined (.cons (j_fmt (j_var 1 (pv 1))) (.cons j_str (.cons (j_fmt (j_ix ir_ix (j_var 2 (pv 2)) j_int (fun _ _ => rfl))) .nil)))))) js_nil)
      (js_one (js_ret (j_joined (.cons (j_fmt (j_var 1 (pv 1))) (.cons j_str (.cons (j_fmt (j_ix ir_ix (j_var 2 (pv 2)) j_int (fun _ _ => rfl))) (.cons j_str (.cons (j_fmt (j_callO O_face_text_L0 (hr.mono (by omega)) (by rfl) (L2N.takes_of rfl rfl rfl rfl) (ja_cons (j_ix ir_ix (j_var 2 (pv 2)) j_int (fun _ _ => rfl)) ja_nil))) .nil))))))))))))
theorem ok_deed_text_L0 (B : Blt K mg) {f : Addr} {fd : FuncData} (D : Dm K "deed_text" "deed_text" s_deed_text [] [] f fd) (O_row_text_L0 : Ok1 P w K mg base 1 "row_text" 1 [] F_row_text) (O_face_text_L0 : Ok1 P w K mg base 1 "face_text" 1 [] F_face_text) (hm : mg "deed_text" = some (.ref f)) : Ok1 P w K mg base 4 "deed_text" 1 [] (F_deed_text 3) := ok_of ⟨D.F, hm⟩ (fn_deed_text B D O_row_text_L0 O_face_text_L0 hm 3) (fun _ _ _ _ _ _ us hl => match us, hl with | [_], _ => rfl)
theorem sc_law_alike : FnScope ["_law_found", "_law_due", "_law_one", "_law_other"] ["_law_found", "_law_due"] (defScope s_law_alike) := ⟨rfl, rfl, rfl, by decide +kernel, rfl, by decide +kernel, by decide +kernel⟩
theorem fn_law_alike (B : Blt K mg) {f : Addr} {fd : FuncData} (D : Dm K "_law_alike" "_law_alike" s_law_alike [] [] f fd) (hm : mg "_law_alike" = some (.ref f)) : ∀ d : Nat, FnOk P w K mg base (L2N.CX P w) (0 + d) f fd ["_law_found", "_law_due"] (spF ⟨K, mg⟩ 2 (F_law_alike d))
  | 0 => fn_no rfl
  | d + 1 => by
    have OkR : Ok1 P w K mg base (0 + d) "_law_alike" 2 [] (F_law_alike d) := ok_of ⟨D.F, hm⟩ (fn_law_alike B D hm d) (fun _ _ _ _ _ _ us hl => match us, hl with | [_, _], _ => rfl)
    exact fnokM_of (k := 0 + d) (N := ["_law_found", "_law_due", "_law_one", "_law_other"]) (n := 4) D sc_law_alike rfl (by decide) rfl fun cdv A outer s H E hr =>
      (js_cons (js_if (PW.pt (jw_or (jt_val (j_callB cr_isi (by rfl) B.n_isinstance (by decide +kernel) (ja_cons (j_var 1 (pv 1)) (ja_cons (j_ty (by rfl) B.n_list (by decide +kernel)) ja_nil)))) (jw_or1 (jt_val (j_callB cr_isi (by rfl) B.n_isinstance (by decide +kernel) (ja_cons (j_var 1 (pv 1)) (ja_cons (j_ty (by rfl) B.n_tuple (by decide +kernel)) ja_nil))))))) (js_cons (js_if (PW.pt (jw_or (jt_cmp (or_ne hr) (j_callB cr_isi (by rfl) B.n_isinstance (by decide +kernel) (ja_cons (j_var 0 (pv 0)) (ja_cons (j_ty (by rfl) B.n_list (by decide +kernel)) ja_nil))) (j_callB cr_isi (by rfl) B.n_isinstance (by decide +kernel) (ja_cons (j_var 1 (pv 1)) (ja_cons (j_ty (by rfl) B.n_list (by decide +kernel)) ja_nil))) (nomark _)) (jw_or1 (jt_cmp (or_ne hr) (j_callB cr_isi (by rfl) B.n_isinstance (by decide +kernel) (ja_cons (j_var 0 (pv 0)) (ja_cons (j_ty (by rfl) B.n_tuple (by decide +kernel)) ja_nil))) (j_callB cr_isi (by rfl) B.n_isinstance (by decide +kernel) (ja_cons (j_var 1 (pv 1)) (ja_cons (j_ty (by rfl) B.n_tuple (by decide +kernel)) ja_nil))) (nomark _))))) (js_one (js_ret j_bl)) js_nil)
      (js_one (js_ret (j_and (j_cmp (or_eq hr) (j_callB cr_len (by rfl) B.n_len (by decide +kernel) (ja_cons (j_var 0 (pv 0)) ja_nil)) (j_callB cr_len (by rfl) B.n_len (by decide +kernel) (ja_cons (j_var 1 (pv 1)) ja_nil)) (nomark _)) (j_one (j_callB (cr_allJ rfl) (by rfl) B.n_all (by decide +kernel) (ja_cons (j_lc rfl sc_law_alike.nd (ji_zip (by rfl) B.n_zip (ja_cons (j_var 0 (pv 0)) (ja_cons (j_var 1 (pv 1)) ja_nil))) (blkOk_by (own := [("_law_one", 2), ("_law_other", 3)]) (by kernel_rfl)) (fun _ _ _ _ _ => (pg_tup rfl (pgs_cons (pg_name (i := 2) sc_law_alike.nd rfl (by first | exact Or.inl rfl | exact Or.inr rfl)) (pgs_cons (pg_name (i := 3) sc_law_alike.nd rfl (by first | exact Or.inl rfl | exact Or.inr rfl)) pgs_nil)))) (pat_tup (pats_cons (pat_nm 2) (pats_cons (pat_nm 3) pats_nil))) (fun _ _ _ _ _ => jts_nil) (fun _ _ _ _ _ => (j_callO OkR hr (by rfl) takesN0 (ja_cons (j_var 2 (pv 2)) (ja_cons (j_var 3 (pv 3)) ja_nil))))) ja_nil))))))) js_nil)
      (js_cons (js_if (PW.pt (jw_or (jt_cmp or_isN (j_var 1 (pv 1)) j_non (nomark _)) (jw_or1 (jt_cmp or_isN (j_var 0 (pv 0)) j_non (nomark _))))) (js_one (js_ret (j_and (j_cmp or_isN (j_var 0 (pv 0)) j_non (nomark _)) (j_one (j_cmp or_isN (j_var 1 (pv 1)) j_non (nomark _)))))) js_nil)
      (js_cons (js_if (PW.pt (jw_or (jt_cmp (or_ne hr) (j_callB cr_isi (by rfl) B.n_isinstance (by decide +kernel) (ja_cons (j_var 0 (pv 0)) (ja_cons (j_ty (by rfl) B.n_bool (by decide +kernel)) ja_nil))) (j_callB cr_isi (by rfl) B.n_isinstance (by decide +kernel) (ja_cons (j_var 1 (pv 1)) (ja_cons (j_ty (by rfl) B.n_bool (by decide +kernel)) ja_nil))) (nomark _)) (jw_or1 (jt_cmp (or_ne hr) (j_callB cr_isi (by rfl) B.n_isinstance (by decide +kernel) (ja_cons (j_var 0 (pv 0)) (ja_cons (j_ty (by rfl) B.n_int (by decide +kernel)) ja_nil))) (j_callB cr_isi (by rfl) B.n_isinstance (by decide +kernel) (ja_cons (j_var 1 (pv 1)) (ja_cons (j_ty (by rfl) B.n_int (by decide +kernel)) ja_nil))) (nomark _))))) (js_one (js_ret j_bl)) js_nil)
      (js_one (js_ret (j_and (j_cmp (or_eq hr) (j_callB cr_isi (by rfl) B.n_isinstance (by decide +kernel) (ja_cons (j_var 0 (pv 0)) (ja_cons (j_ty (by rfl) B.n_str (by decide +kernel)) ja_nil))) (j_callB cr_isi (by rfl) B.n_isinstance (by decide +kernel) (ja_cons (j_var 1 (pv 1)) (ja_cons (j_ty (by rfl) B.n_str (by decide +kernel)) ja_nil))) (nomark _)) (j_one (j_cmp (or_eq hr) (j_var 0 (pv 0)) (j_var 1 (pv 1)) (nomark _)))))))))
theorem ok_law_alike_L0 (B : Blt K mg) {f : Addr} {fd : FuncData} (D : Dm K "_law_alike" "_law_alike" s_law_alike [] [] f fd) (hm : mg "_law_alike" = some (.ref f)) : Ok1 P w K mg base 6 "_law_alike" 2 [] (F_law_alike 6) := ok_of ⟨D.F, hm⟩ (fn_law_alike B D hm 6) (fun _ _ _ _ _ _ us hl => match us, hl with | [_, _], _ => rfl)
theorem sc_is_name : FnScope ["text", "letter"] ["text"] (defScope s_is_name) := ⟨rfl, rfl, rfl, by decide +kernel, rfl, by decide +kernel, by decide +kernel⟩
theorem fn_is_name (B : Blt K mg) {f : Addr} {fd : FuncData} (D : Dm K "is_name" "is_name" s_is_name [] [] f fd) : FnOk P w K mg base (L2N.CX P w) 1 f fd ["text"] (spF ⟨K, mg⟩ 1 F_is_name) :=
  fnokM_of (k := 0) (N := ["text", "letter"]) (n := 2) D sc_is_name rfl (by decide) rfl fun cdv A outer s H E hr =>
      (js_one (js_ret (j_and (j_chain or_le or_le j_int (j_callB cr_len (by rfl) B.n_len (by decide +kernel) (ja_cons (j_var 0 (pv 0)) ja_nil)) (j_globI (by rfl) B.g_SIGNS_MOST)) (j_one (j_callB (cr_allJ rfl) (by rfl) B.n_all (by decide +kernel) (ja_cons (j_lc rfl sc_is_name.nd (ji_seq (j_var 0 (pv 0))) (blkOk_by (own := [("letter", 1)]) (by kernel_rfl)) (fun _ _ _ _ _ => (pg_name (i := 1) sc_is_name.nd rfl (by first | exact Or.inl rfl | exact Or.inr rfl))) (pat_nm 1) (fun _ _ _ _ _ => jts_nil) (fun _ _ _ _ _ => (j_cmp or_inS (j_var 1 (pv 1)) (j_globS (by rfl) B.g_LETTERS) rfl))) ja_nil))))))
theorem ok_is_name_L0 (B : Blt K mg) {f : Addr} {fd : FuncData} (D : Dm K "is_name" "is_name" s_is_name [] [] f fd) (hm : mg "is_name" = some (.ref f)) : Ok1 P w K mg base 1 "is_name" 1 [] F_is_name := ok_of ⟨D.F, hm⟩ (fn_is_name B D) (fun _ _ _ _ _ _ us hl => match us, hl with | [_], _ => rfl)
theorem sc_read_name : FnScope ["word"] ["word"] (defScope s_read_name) := ⟨rfl, rfl, rfl, by decide +kernel, rfl, by decide +kernel, by decide +kernel⟩
theorem fn_read_name (B : Blt K mg) {f : Addr} {fd : FuncData} (D : Dm K "read_name" "read_name" s_read_name [] [] f fd) (O_is_name_L0 : Ok1 P w K mg base 1 "is_name" 1 [] F_is_name) : FnOk P w K mg base (L2N.CX P w) 2 f fd ["word"] (spF ⟨K, mg⟩ 1 F_read_name) :=
  fnokM_of (k := 1) (N := ["word"]) (n := 1) D sc_read_name rfl (by decide) rfl fun cdv A outer s H E hr =>
      (js_cons (js_if (jt_not (jt_val (j_callO O_is_name_L0 (hr.mono (by decide)) (by rfl) (L2N.takes_of rfl rfl rfl rfl) (ja_cons (j_var 0 (pv 0)) ja_nil)))) (js_one js_never) js_nil)
      (js_one (js_ret (j_var 0 (pv 0)))))
theorem ok_read_name_L0 (B : Blt K mg) {f : Addr} {fd : FuncData} (D : Dm K "read_name" "read_name" s_read_name [] [] f fd) (O_is_name_L0 : Ok1 P w K mg base 1 "is_name" 1 [] F_is_name) (hm : mg "read_name" = some (.ref f)) : Ok1 P w K mg base 2 "read_name" 1 [] F_read_name := ok_of ⟨D.F, hm⟩ (fn_read_name B D O_is_name_L0) (fun _ _ _ _ _ _ us hl => match us, hl with | [_], _ => rfl)
theorem sc_read_plain : FnScope ["word", "sign"] ["word"] (defScope s_read_plain) := ⟨rfl, rfl, rfl, by decide +kernel, rfl, by decide +kernel, by decide +kernel⟩
theorem fn_read_plain (B : Blt K mg) {f : Addr} {fd : FuncData} (D : Dm K "read_plain" "read_plain" s_read_plain [] [] f fd) : FnOk P w K mg base (L2N.CX P w) 1 f fd ["word"] (spF ⟨K, mg⟩ 1 F_read_plain) :=
  fnokM_of (k := 0) (N := ["word", "sign"]) (n := 2) D sc_read_plain rfl (by decide) rfl fun cdv A outer s H E hr =>
      (js_cons (js_if (PW.pt (jw_or (jt_not (jt_chain or_le or_le j_int (j_callB cr_len (by rfl) B.n_len (by decide +kernel) (ja_cons (j_var 0 (pv 0)) ja_nil)) (j_globI (by rfl) B.g_FIGURES_MOST))) (jw_or1 (jt_not (jt_val (j_callB (cr_allJ rfl) (by rfl) B.n_all (by decide +kernel) (ja_cons (j_lc rfl sc_read_plain.nd (ji_seq (j_var 0 (pv 0))) (blkOk_by (own := [("sign", 1)]) (by kernel_rfl)) (fun _ _ _ _ _ => (pg_name (i := 1) sc_read_plain.nd rfl (by first | exact Or.inl rfl | exact Or.inr rfl))) (pat_nm 1) (fun _ _ _ _ _ => jts_nil) (fun _ _ _ _ _ => (j_cmp or_inS (j_var 1 (pv 1)) j_str rfl))) ja_nil))))))) (js_one js_never) js_nil)
      (js_cons (js_if (PW.pt (jw_and (jt_cmp (or_eq hr) (j_ix ir_ix (j_var 0 (pv 0)) j_int (fun _ _ => rfl)) j_str (nomark _)) (jw_and1 (jt_cmp (or_ne hr) (j_var 0 (pv 0)) j_str (nomark _))))) (js_one js_never) js_nil)
      (js_one (js_ret (j_callTy cr_intS (by rfl) B.n_int (by decide +kernel) (ja_cons (j_var 0 (pv 0)) ja_nil))))))
theorem ok_read_plain_L0 (B : Blt K mg) {f : Addr} {fd : FuncData} (D : Dm K "read_plain" "read_plain" s_read_plain [] [] f fd) (hm : mg "read_plain" = some (.ref f)) : Ok1 P w K mg base 1 "read_plain" 1 [] F_read_plain := ok_of ⟨D.F, hm⟩ (fn_read_plain B D) (fun _ _ _ _ _ _ us hl => match us, hl with | [_], _ => rfl)
theorem sc_read_number : FnScope ["word", "found"] ["word"] (defScope s_read_number) := ⟨rfl, rfl, rfl, by decide +kernel, rfl, by decide +kernel, by decide +kernel⟩
theorem fn_read_number (B : Blt K mg) {f : Addr} {fd : FuncData} (D : Dm K "read_number" "read_number" s_read_number [] [] f fd) (O_read_plain_L0 : Ok1 P w K mg base 1 "read_plain" 1 [] F_read_plain) : FnOk P w K mg base (L2N.CX P w) 2 f fd ["word"] (spF ⟨K, mg⟩ 1 F_read_number) :=
  fnokM_of (k := 1) (N := ["word", "found"]) (n := 2) D sc_read_number rfl (by decide) rfl fun cdv A outer s H E hr =>
      (js_cons (js_if (jt_cmp (or_eq hr) (j_sl (j_var 0 (pv 0)) jo_none (jo_some j_int)) j_str (nomark _)) (js_cons (js_set (i := 1) sc_read_number.nd rfl (by first | exact Or.inl rfl | exact Or.inr rfl) (j_callO O_read_plain_L0 (hr.mono (by decide)) (by rfl) (L2N.takes_of rfl rfl rfl rfl) (ja_cons (j_sl (j_var 0 (pv 0)) (jo_some j_int) jo_none) ja_nil)))
      (js_cons (js_if (jt_cmp (or_eq hr) (j_var 1 (pv 1)) j_int (nomark _)) (js_one js_never) js_nil)
      (js_one (js_ret (j_un ur_neg (j_var 1 (pv 1))))))) js_nil)
      (js_one (js_ret (j_callO O_read_plain_L0 (hr.mono (by decide)) (by rfl) (L2N.takes_of rfl rfl rfl rfl) (ja_cons (j_var 0 (pv 0)) ja_nil)))))
theorem ok_read_number_L0 (B : Blt K mg) {f : Addr} {fd : FuncData} (D : Dm K "read_number" "read_number" s_read_number [] [] f fd) (O_read_plain_L0 : Ok1 P w K mg base 1 "read_plain" 1 [] F_read_plain) (hm : mg "read_number" = some (.ref f)) : Ok1 P w K mg base 2 "read_number" 1 [] F_read_number := ok_of ⟨D.F, hm⟩ (fn_read_number B D O_read_plain_L0) (fun _ _ _ _ _ _ us hl => match us, hl with | [_], _ => rfl)
theorem sc_read_row : FnScope ["word", "part"] ["word"] (defScope s_read_row) := ⟨rfl, rfl, rfl, by decide +kernel, rfl, by decide +kernel, by decide +kernel⟩
theorem fn_read_row (B : Blt K mg) {f : Addr} {fd : FuncData} (D : Dm K "read_row" "read_row" s_read_row [] [] f fd) (O_read_number_L0 : Ok1 P w K mg base 2 "read_number" 1 [] F_read_number) : FnOk P w K mg base (L2N.CX P w) 3 f fd ["word"] (spF ⟨K, mg⟩ 1 F_read_row) :=
  fnokM_of (k := 2) (N := ["word", "part"]) (n := 2) D sc_read_row rfl (by decide) rfl fun cdv A outer s H E hr =>
      (js_cons (js_if (jt_cmp (or_eq hr) (j_var 0 (pv 0)) j_str (nomark _)) (js_one (js_ret (j_tup ja_nil))) js_nil)
      (js_one (js_ret (j_callTy cr_tupleJ (by rfl) B.n_tuple (by decide +kernel) (ja_cons (j_lc rfl sc_read_row.nd (ji_seq (j_split (j_var 0 (pv 0)) j_str)) (blkOk_by (own := [("part", 1)]) (by kernel_rfl)) (fun _ _ _ _ _ => (pg_name (i := 1) sc_read_row.nd rfl (by first | exact Or.inl rfl | exact Or.inr rfl))) (pat_nm 1) (fun _ _ _ _ _ => jts_nil) (fun _ _ _ _ _ => (j_callO O_read_number_L0 (hr.mono (by decide)) (by rfl) takesN0 (ja_cons (j_var 1 (pv 1)) ja_nil)))) ja_nil)))))
theorem ok_read_row_L0 (B : Blt K mg) {f : Addr} {fd : FuncData} (D : Dm K "read_row" "read_row" s_read_row [] [] f fd) (O_read_number_L0 : Ok1 P w K mg base 2 "read_number" 1 [] F_read_number) (hm : mg "read_row" = some (.ref f)) : Ok1 P w K mg base 3 "read_row" 1 [] F_read_row := ok_of ⟨D.F, hm⟩ (fn_read_row B D O_read_number_L0) (fun _ _ _ _ _ _ us hl => match us, hl with | [_], _ => rfl)
theorem sc_read_words : FnScope ["words", "names", "word", "things", "thing", "part"] ["words"] (defScope s_read_words) := ⟨rfl, rfl, rfl, by decide +kernel, rfl, by decide +kernel, by decide +kernel⟩
theorem fn_read_words (B : Blt K mg) {f : Addr} {fd : FuncData} (D : Dm K "read_words" "read_words" s_read_words [] [] f fd) (O_read_name_L0 : Ok1 P w K mg base 2 "read_name" 1 [] F_read_name) (O_read_plain_L0 : Ok1 P w K mg base 1 "read_plain" 1 [] F_read_plain) (O_read_row_L0 : Ok1 P w K mg base 3 "read_row" 1 [] F_read_row) : FnOk P w K mg base (L2N.CX P w) 4 f fd ["words"] (spF ⟨K, mg⟩ 1 F_read_words) :=
  fnokM_of (k := 3) (N := ["words", "names", "word", "things", "thing", "part"]) (n := 6) D sc_read_words rfl (by decide) rfl fun cdv A outer s H E hr =>
      (js_cons (js_starL rfl (j_var 0 (pv 0)) (pg_name (i := 2) sc_read_words.nd rfl (by first | exact Or.inl rfl | exact Or.inr rfl)) (pg_name (i := 3) sc_read_words.nd rfl (by first | exact Or.inl rfl | exact Or.inr rfl)))
      (js_cons (js_if (PW.pt (jw_and (jt_cmp (or_in hr) (j_var 2 (pv 2)) (j_tup (ja_cons j_str (ja_cons j_str (ja_cons j_str ja_nil)))) rfl) (jw_and1 (jt_cmp (or_eq hr) (j_callB cr_len (by rfl) B.n_len (by decide +kernel) (ja_cons (j_var 3 (pv 3)) ja_nil)) j_int (nomark _))))) (js_one (js_ret (j_tup (ja_cons (j_var 2 (pv 2)) (ja_cons (j_callO O_read_name_L0 (hr.mono (by decide)) (by rfl) (L2N.takes_of rfl rfl rfl rfl) (ja_cons (j_ix ir_ix (j_var 3 (pv 3)) j_int (fun _ _ => rfl)) ja_nil)) ja_nil))))) js_nil)
      (js_cons (js_if (PW.pt (jw_and (jt_cmp (or_in hr) (j_var 2 (pv 2)) (j_tup (ja_cons j_str (ja_cons j_str (ja_cons j_str (ja_cons j_str ja_nil))))) rfl) (jw_and1 (jt_cmp (or_eq hr) (j_callB cr_len (by rfl) B.n_len (by decide +kernel) (ja_cons (j_var 3 (pv 3)) ja_nil)) j_int (nomark _))))) (js_one (js_ret (j_tup (ja_cons (j_var 2 (pv 2)) (ja_cons (j_callO O_read_name_L0 (hr.mono (by decide)) (by rfl) (L2N.takes_of rfl rfl rfl rfl) (ja_cons (j_ix ir_ix (j_var 3 (pv 3)) j_int (fun _ _ => rfl)) ja_nil)) (ja_cons (j_callTy cr_tupleJ (by rfl) B.n_tuple (by decide +kernel) (ja_cons (j_lc rfl sc_read_words.nd (ji_seq (j_split (j_ix ir_ix (j_var 3 (pv 3)) j_int (fun _ _ => rfl)) j_str)) (blkOk_by (own := [("part", 5)]) (by kernel_rfl)) (fun _ _ _ _ _ => (pg_name (i := 5) sc_read_words.nd rfl (by first | exact Or.inl rfl | exact Or.inr rfl))) (pat_nm 5) (fun _ _ _ _ _ => jts_nil) (fun _ _ _ _ _ => (j_callO O_read_plain_L0 (hr.mono (by decide)) (by rfl) takesN0 (ja_cons (j_var 5 (pv 5)) ja_nil)))) ja_nil)) ja_nil)))))) js_nil)
      (js_cons (js_if (PW.pt (jw_or (jt_cmp (or_ne hr) (j_var 2 (pv 2)) j_str (nomark _)) (jw_or1 (jt_cmp (or_ne hr) (j_callB cr_len (by rfl) B.n_len (by decide +kernel) (ja_cons (j_var 3 (pv 3)) ja_nil)) j_int (nomark _))))) (js_one js_never) js_nil)
      (js_cons (js_setLc (i := 1) rfl sc_read_words.nd rfl rfl (sw_true rfl rfl rfl (by decide +kernel)) (ji_seq (j_sl (j_var 3 (pv 3)) jo_none (jo_some j_int))) (blkOk_by (own := [("thing", 4)]) (by kernel_rfl)) (fun _ _ _ _ _ => (pg_name (i := 4) sc_read_words.nd rfl (by first | exact Or.inl rfl | exact Or.inr rfl))) (pat_nm 4) (fun _ _ _ _ _ => jts_nil) (fun _ _ _ _ _ => (j_callO O_read_name_L0 (hr.mono (by decide)) (by rfl) takesN0 (ja_cons (j_var 4 (pv 4)) ja_nil))))
      (js_one (js_ret (j_tup (ja_cons (j_var 2 (pv 2)) (ja_cons (j_ix ir_ix (j_var 1 (pv 1)) j_int (fun _ _ => rfl)) (ja_cons (j_ix ir_ix (j_var 1 (pv 1)) j_int (fun _ _ => rfl)) (ja_cons (j_ix ir_ix (j_var 1 (pv 1)) j_int (fun _ _ => rfl)) (ja_cons (j_callO O_read_plain_L0 (hr.mono (by decide)) (by rfl) (L2N.takes_of rfl rfl rfl rfl) (ja_cons (j_ix ir_ix (j_var 3 (pv 3)) j_int (fun _ _ => rfl)) ja_nil)) (ja_cons (j_callO O_read_plain_L0 (hr.mono (by decide)) (by rfl) (L2N.takes_of rfl rfl rfl rfl) (ja_cons (j_ix ir_ix (j_var 3 (pv 3)) j_int (fun _ _ => rfl)) ja_nil)) (ja_cons (j_callO O_read_row_L0 (hr.mono (by decide)) (by rfl) (L2N.takes_of rfl rfl rfl rfl) (ja_cons (j_ix ir_ix (j_var 3 (pv 3)) j_int (fun _ _ => rfl)) ja_nil)) ja_nil)))))))))))))))
theorem ok_read_words_L0 (B : Blt K mg) {f : Addr} {fd : FuncData} (D : Dm K "read_words" "read_words" s_read_words [] [] f fd) (O_read_name_L0 : Ok1 P w K mg base 2 "read_name" 1 [] F_read_name) (O_read_plain_L0 : Ok1 P w K mg base 1 "read_plain" 1 [] F_read_plain) (O_read_row_L0 : Ok1 P w K mg base 3 "read_row" 1 [] F_read_row) (hm : mg "read_words" = some (.ref f)) : Ok1 P w K mg base 4 "read_words" 1 [] F_read_words := ok_of ⟨D.F, hm⟩ (fn_read_words B D O_read_name_L0 O_read_plain_L0 O_read_row_L0) (fun _ _ _ _ _ _ us hl => match us, hl with | [_], _ => rfl)
theorem sc_deed_of : FnScope ["text", "found", "part"] ["text"] (defScope s_deed_of) := ⟨rfl, rfl, rfl, by decide +kernel, rfl, by decide +kernel, by decide +kernel⟩
theorem fn_deed_of (B : Blt K mg) {f : Addr} {fd : FuncData} (D : Dm K "deed_of" "deed_of" s_deed_of [] [] f fd) (O_read_words_L0 : Ok1 P w K mg base 4 "read_words" 1 [] F_read_words) : FnOk P w K mg base (L2N.CX P w) 5 f fd ["text"] (spF ⟨K, mg⟩ 1 F_deed_of) :=
  fnokM_of (k := 4) (N := ["text", "found", "part"]) (n := 3) D sc_deed_of rfl (by decide) rfl fun cdv A outer s H E hr =>
      (js_cons (js_if (jt_cmp (or_eq hr) (j_var 0 (pv 0)) j_str (nomark _)) (js_one (js_ret (j_tup (ja_cons j_str (ja_cons (j_tup ja_nil) ja_nil))))) js_nil)
      (js_cons (js_if (jt_cmp (or_ne hr) (j_sl (j_var 0 (pv 0)) jo_none (jo_some j_int)) j_str (nomark _)) (js_one (js_ret (j_callO O_read_words_L0 (hr.mono (by decide)) (by rfl) (L2N.takes_of rfl rfl rfl rfl) (ja_cons (j_split (j_var 0 (pv 0)) j_str) ja_nil)))) js_nil)
      (js_cons (js_set (i := 1) sc_deed_of.nd rfl (by first | exact Or.inl rfl | exact Or.inr rfl) (j_lstO ja_nil))
      (js_cons (js_for (passes_of rfl) rfl (ji_seq (j_split (j_sl (j_var 0 (pv 0)) (jo_some j_int) jo_none) j_str)) (pg_name (i := 2) sc_deed_of.nd rfl (by first | exact Or.inl rfl | exact Or.inr rfl)) (pat_nm 2) (js_cons (js_if (jt_cmp (or_ne hr) (j_sl (j_var 2 (pv 2)) jo_none (jo_some j_int)) j_str (nomark _)) (js_one js_never) js_nil)
      (js_one (js_expr (j_app (j_var 1 (pv 1)) (j_callO O_read_words_L0 (hr.mono (by decide)) (by rfl) (L2N.takes_of rfl rfl rfl rfl) (ja_cons (j_split (j_sl (j_var 2 (pv 2)) (jo_some j_int) jo_none) j_str) ja_nil)))))))
      (js_one (js_ret (j_tup (ja_cons j_str (ja_cons (j_callTy cr_tupleJ (by rfl) B.n_tuple (by decide +kernel) (ja_cons (j_frzD (j_var 1 (pv 1))) ja_nil)) ja_nil)))))))))
theorem ok_deed_of_L0 (B : Blt K mg) {f : Addr} {fd : FuncData} (D : Dm K "deed_of" "deed_of" s_deed_of [] [] f fd) (O_read_words_L0 : Ok1 P w K mg base 4 "read_words" 1 [] F_read_words) (hm : mg "deed_of" = some (.ref f)) : Ok1 P w K mg base 5 "deed_of" 1 [] F_deed_of := ok_of ⟨D.F, hm⟩ (fn_deed_of B D O_read_words_L0) (fun _ _ _ _ _ _ us hl => match us, hl with | [_], _ => rfl)
theorem sc_law : FnScope ["_law_script", "_law_box_here", "_law_k", "_law_deed"] ["_law_script"] (defScope s_law) := ⟨rfl, rfl, rfl, by decide +kernel, rfl, by decide +kernel, by decide +kernel⟩
theorem fn_law (B : Blt K mg) {f : Addr} {fd : FuncData} (D : Dm K "law" "law" s_law [] [] f fd) (O_law_box_L0 : Ok1 P w K mg base 1 "_law_box" 1 [] F_law_box) (O_law_written_deed_L0 : Ok1 P w K mg base 5 "_law_written_deed" 1 [] F_law_written_deed) (O_law_text_L0 : Ok1 P w K mg base 4 "_law_text" 1 [] (F_law_text 3)) (O_deed_text_L0 : Ok1 P w K mg base 4 "deed_text" 1 [] (F_deed_text 3)) (O_law_alike_L0 : Ok1 P w K mg base 6 "_law_alike" 2 [] (F_law_alike 6)) (O_deed_of_L0 : Ok1 P w K mg base 5 "deed_of" 1 [] F_deed_of) : FnOk P w K mg base (L2N.CX P w) 8 f fd ["_law_script"] (spF ⟨K, mg⟩ 1 F_law) :=
  fnokM_of (k := 7) (N := ["_law_script", "_law_box_here", "_law_k", "_law_deed"]) (n := 4) D sc_law rfl (by decide) rfl fun cdv A outer s H E hr =>
      (js_cons (js_set (i := 1) sc_law.nd rfl (by first | exact Or.inl rfl | exact Or.inr rfl) (j_callO O_law_box_L0 (hr.mono (by decide)) (by rfl) (L2N.takes_of rfl rfl rfl rfl) (ja_cons (j_var 0 (pv 0)) ja_nil)))
      (js_cons (js_for (passes_of rfl) rfl (ji_range1 (by rfl) B.n_range j_int) (pg_name (i := 2) sc_law.nd rfl (by first | exact Or.inl rfl | exact Or.inr rfl)) (pat_nm 2) (js_cons (js_set (i := 3) sc_law.nd rfl (by first | exact Or.inl rfl | exact Or.inr rfl) (j_callO O_law_written_deed_L0 (hr.mono (by decide)) (by rfl) (L2N.takes_of rfl rfl rfl rfl) (ja_cons (j_var 1 (pv 1)) ja_nil)))
      (js_one (js_if (PW.pt (jw_or (jt_not (jt_val (j_callO O_law_alike_L0 (hr.mono (by decide)) (by rfl) (L2N.takes_of rfl rfl rfl rfl) (ja_cons (j_callO O_deed_text_L0 (hr.mono (by decide)) (by rfl) (L2N.takes_of rfl rfl rfl rfl) (ja_cons (j_var 3 (pv 3)) ja_nil)) (ja_cons (j_callO O_law_text_L0 (hr.mono (by decide)) (by rfl) (L2N.takes_of rfl rfl rfl rfl) (ja_cons (j_var 3 (pv 3)) ja_nil)) ja_nil))))) (jw_or1 (jt_not (jt_val (j_callO O_law_alike_L0 (hr.mono (by decide)) (by rfl) (L2N.takes_of rfl rfl rfl rfl) (ja_cons (j_callO O_deed_of_L0 (hr.mono (by decide)) (by rfl) (L2N.takes_of rfl rfl rfl rfl) (ja_cons (j_callO O_law_text_L0 (hr.mono (by decide)) (by rfl) (L2N.takes_of rfl rfl rfl rfl) (ja_cons (j_var 3 (pv 3)) ja_nil)) ja_nil)) (ja_cons (j_var 3 (pv 3)) ja_nil)))))))) (js_one (js_ret j_bl)) js_nil))))
      (js_one (js_ret j_bl))))
end
theorem ex_at {h : Heap} {K : PySem.W.Frag} (Y : SaysL fs fn ex h K) {b : Bool} (i : Nat) (e : (exs K)[i]? = some b) : b = true := by
  have q := List.all_eq_true.mp Y.2.2 b (List.mem_of_getElem? e)
  exact q
theorem all_mk {P : Program} {w : World} {K : PySem.W.Frag} {h : Heap} {mg : Str → Option Value} {fa : Addr} (Y : SaysL fs fn ex h K) (G : h.Ns mainGlobals mg) (hfa : mg lamFn = some (.ref fa))
    : ∃ (fd : FuncData) (cc TT : Addr), PySem.W.tabIn K lamFn = some (cc, TT) ∧ K.lookup TT = none ∧ (∀ (s : Shared) (v : Value), BindsTo s fd ⟨[v], []⟩ [("_law_script", v)]) ∧ ∀ base : Heap, K.In base → base.Ns mainGlobals mg → LamX.TabB base mg cc TT → FnOk P w K mg base (L2N.CX P w) 8 fa fd ["_law_script"] (spF ⟨K, mg⟩ 1 F_law) := by
  have e := hfa.symm.trans (Y.glo (x := "law") G 33 rfl)
  cases e
  have B : Blt K mg := ⟨Y.free G 0 rfl, Y.free G 1 rfl, Y.free G 2 rfl, Y.free G 3 rfl, Y.free G 4 rfl, Y.free G 5 rfl, Y.free G 6 rfl, Y.free G 7 rfl, Y.free G 8 rfl, Y.free G 9 rfl, Y.int G 10 rfl, Y.str G 11 rfl, Y.int G 12 rfl⟩
  obtain ⟨fd0, D0⟩ : ∃ fd, Dm K "_law_box" "_law_box" s_law_box [] [] (He.ga K "_law_box") fd := Y.dm (st := s_law_box) (df := []) (kw := []) 0 rfl
  have hm0 := Y.glo (x := "_law_box") G 13 rfl
  obtain ⟨fd1, D1⟩ : ∃ fd, Dm K "_law_mixed" "_law_mixed" s_law_mixed [] [] (He.ga K "_law_mixed") fd := Y.dm (st := s_law_mixed) (df := []) (kw := []) 1 rfl
  have hm1 := Y.glo (x := "_law_mixed") G 14 rfl
  obtain ⟨fd2, D2⟩ : ∃ fd, Dm K "_law_take" "_law_take" s_law_take [] [] (He.ga K "_law_take") fd := Y.dm (st := s_law_take) (df := []) (kw := []) 2 rfl
  have hm2 := Y.glo (x := "_law_take") G 15 rfl
  obtain ⟨fd3, D3⟩ : ∃ fd, Dm K "_law_ten_names" "_law_ten_names" s_law_ten_names [] [] (He.ga K "_law_ten_names") fd := Y.dm (st := s_law_ten_names) (df := []) (kw := []) 3 rfl
  have hm3 := Y.glo (x := "_law_ten_names") G 16 rfl
  obtain ⟨fd4, D4⟩ : ∃ fd, Dm K "_law_great_number" "_law_great_number" s_law_great_number [] [] (He.ga K "_law_great_number") fd := Y.dm (st := s_law_great_number) (df := []) (kw := []) 4 rfl
  have hm4 := Y.glo (x := "_law_great_number") G 17 rfl
  obtain ⟨fd5, D5⟩ : ∃ fd, Dm K "_law_plain_deed" "_law_plain_deed" s_law_plain_deed [] [] (He.ga K "_law_plain_deed") fd := Y.dm (st := s_law_plain_deed) (df := []) (kw := []) 5 rfl
  have hm5 := Y.glo (x := "_law_plain_deed") G 18 rfl
  obtain ⟨fd6, D6⟩ : ∃ fd, Dm K "_law_written_deed" "_law_written_deed" s_law_written_deed [] [] (He.ga K "_law_written_deed") fd := Y.dm (st := s_law_written_deed) (df := []) (kw := []) 6 rfl
  have hm6 := Y.glo (x := "_law_written_deed") G 19 rfl
  obtain ⟨fd7, D7⟩ : ∃ fd, Dm K "_law_row_text" "_law_row_text" s_law_row_text [] [] (He.ga K "_law_row_text") fd := Y.dm (st := s_law_row_text) (df := []) (kw := []) 7 rfl
  have hm7 := Y.glo (x := "_law_row_text") G 20 rfl
  obtain ⟨fd8, D8⟩ : ∃ fd, Dm K "_law_text" "_law_text" s_law_text [] [] (He.ga K "_law_text") fd := Y.dm (st := s_law_text) (df := []) (kw := []) 8 rfl
  have hm8 := Y.glo (x := "_law_text") G 21 rfl
  obtain ⟨fd9, D9⟩ : ∃ fd, Dm K "row_text" "row_text" s_row_text [] [] (He.ga K "row_text") fd := Y.dm (st := s_row_text) (df := []) (kw := []) 9 rfl
  have hm9 := Y.glo (x := "row_text") G 22 rfl
  obtain ⟨fd10, D10⟩ : ∃ fd, Dm K "face_text" "face_text" s_face_text [] [] (He.ga K "face_text") fd := Y.dm (st := s_face_text) (df := []) (kw := []) 10 rfl
  have hm10 := Y.glo (x := "face_text") G 23 rfl
  obtain ⟨fd11, D11⟩ : ∃ fd, Dm K "deed_text" "deed_text" s_deed_text [] [] (He.ga K "deed_text") fd := Y.dm (st := s_deed_text) (df := []) (kw := []) 11 rfl
  have hm11 := Y.glo (x := "deed_text") G 24 rfl
  obtain ⟨fd12, D12⟩ : ∃ fd, Dm K "_law_alike" "_law_alike" s_law_alike [] [] (He.ga K "_law_alike") fd := Y.dm (st := s_law_alike) (df := []) (kw := []) 12 rfl
  have hm12 := Y.glo (x := "_law_alike") G 25 rfl
  obtain ⟨fd13, D13⟩ : ∃ fd, Dm K "is_name" "is_name" s_is_name [] [] (He.ga K "is_name") fd := Y.dm (st := s_is_name) (df := []) (kw := []) 13 rfl
  have hm13 := Y.glo (x := "is_name") G 26 rfl
  obtain ⟨fd14, D14⟩ : ∃ fd, Dm K "read_name" "read_name" s_read_name [] [] (He.ga K "read_name") fd := Y.dm (st := s_read_name) (df := []) (kw := []) 14 rfl
  have hm14 := Y.glo (x := "read_name") G 27 rfl
  obtain ⟨fd15, D15⟩ : ∃ fd, Dm K "read_plain" "read_plain" s_read_plain [] [] (He.ga K "read_plain") fd := Y.dm (st := s_read_plain) (df := []) (kw := []) 15 rfl
  have hm15 := Y.glo (x := "read_plain") G 28 rfl
  obtain ⟨fd16, D16⟩ : ∃ fd, Dm K "read_number" "read_number" s_read_number [] [] (He.ga K "read_number") fd := Y.dm (st := s_read_number) (df := []) (kw := []) 16 rfl
  have hm16 := Y.glo (x := "read_number") G 29 rfl
  obtain ⟨fd17, D17⟩ : ∃ fd, Dm K "read_row" "read_row" s_read_row [] [] (He.ga K "read_row") fd := Y.dm (st := s_read_row) (df := []) (kw := []) 17 rfl
  have hm17 := Y.glo (x := "read_row") G 30 rfl
  obtain ⟨fd18, D18⟩ : ∃ fd, Dm K "read_words" "read_words" s_read_words [] [] (He.ga K "read_words") fd := Y.dm (st := s_read_words) (df := []) (kw := []) 18 rfl
  have hm18 := Y.glo (x := "read_words") G 31 rfl
  obtain ⟨fd19, D19⟩ : ∃ fd, Dm K "deed_of" "deed_of" s_deed_of [] [] (He.ga K "deed_of") fd := Y.dm (st := s_deed_of) (df := []) (kw := []) 19 rfl
  have hm19 := Y.glo (x := "deed_of") G 32 rfl
  obtain ⟨fd20, D20⟩ : ∃ fd, Dm K "law" "law" s_law [] [] (He.ga K "law") fd := Y.dm (st := s_law) (df := []) (kw := []) 20 rfl
  have hm20 := Y.glo (x := "law") G 33 rfl
  obtain ⟨cL, PL, hTab, tn⟩ := tabB_ok (ex_at Y 0 rfl)
  refine ⟨fd20, cL, PL, hTab, tn, fun s v => FunD.bindsA (ps := ["_law_script"]) D20.F (fun _ _ _ _ _ _ us hl => match us, hl with | [_], _ => rfl) s [v] rfl, fun base _ _ TB => ?_⟩
  have O_law_box_L0 := ok_law_box_L0 (P := P) (w := w) (base := base) B D0 hm0
  have O_law_mixed_L0 := ok_law_mixed_L0 (P := P) (w := w) (base := base) B D1 hm1
  have O_law_take_L0 := ok_law_take_L0 (P := P) (w := w) (base := base) B D2 O_law_mixed_L0 hm2
  have O_law_ten_names_L0 := ok_law_ten_names_L0 (P := P) (w := w) (base := base) B D3 O_law_take_L0 hm3
  have O_law_great_number_L0 := ok_law_great_number_L0 (P := P) (w := w) (base := base) B D4 O_law_take_L0 hm4
  have O_law_plain_deed_L0 := ok_law_plain_deed_L0 (P := P) (w := w) (base := base) B D5 O_law_ten_names_L0 O_law_take_L0 O_law_great_number_L0 hm5
  have O_law_written_deed_L0 := ok_law_written_deed_L0 (P := P) (w := w) (base := base) B D6 O_law_take_L0 O_law_plain_deed_L0 hm6
  have O_law_row_text_L0 := ok_law_row_text_L0 (P := P) (w := w) (base := base) B D7 hm7
  have O_law_text_L0 := ok_law_text_L0 (P := P) (w := w) (base := base) B D8 O_law_row_text_L0 hm8
  have O_row_text_L0 := ok_row_text_L0 (P := P) (w := w) (base := base) B D9 hm9
  have O_face_text_L0 := ok_face_text_L0 (P := P) (w := w) (base := base) B D10 hm10
  have O_deed_text_L0 := ok_deed_text_L0 (P := P) (w := w) (base := base) B D11 O_row_text_L0 O_face_text_L0 hm11
  have O_law_alike_L0 := ok_law_alike_L0 (P := P) (w := w) (base := base) B D12 hm12
  have O_is_name_L0 := ok_is_name_L0 (P := P) (w := w) (base := base) B D13 hm13
  have O_read_name_L0 := ok_read_name_L0 (P := P) (w := w) (base := base) B D14 O_is_name_L0 hm14
  have O_read_plain_L0 := ok_read_plain_L0 (P := P) (w := w) (base := base) B D15 hm15
  have O_read_number_L0 := ok_read_number_L0 (P := P) (w := w) (base := base) B D16 O_read_plain_L0 hm16
  have O_read_row_L0 := ok_read_row_L0 (P := P) (w := w) (base := base) B D17 O_read_number_L0 hm17
  have O_read_words_L0 := ok_read_words_L0 (P := P) (w := w) (base := base) B D18 O_read_name_L0 O_read_plain_L0 O_read_row_L0 hm18
  have O_deed_of_L0 := ok_deed_of_L0 (P := P) (w := w) (base := base) B D19 O_read_words_L0 hm19
  exact fn_law B D20 O_law_box_L0 O_law_written_deed_L0 O_law_text_L0 O_deed_text_L0 O_law_alike_L0 O_deed_of_L0
end L
open PySem PySem.W PySem.Calls PyProof.Rows in
set_option maxRecDepth 100000 in
set_option maxHeartbeats 0 in
theorem PySem.Challenge.cw_cupweb_k63_deeds_written_and_read_holds : PySem.Challenge.rw_cupweb_k63_deeds_written_and_read.Holds := by
  w_on; o_law
  refine HandSHeadRun.head_any (r := OpenLaw.row PySem.Challenge.rw_cupweb_k63_deeds_written_and_read) (q := L.hq) (H := L.hk) (ob := L.hob) (M := 30000) (loose := L.loose) (d := HandSHeadRun.topDef (OpenLaw.row PySem.Challenge.rw_cupweb_k63_deeds_written_and_read).prog 29) (kwd := []) J.obsL_eq
    (by kernel_rfl) (fun s => by kernel_rfl) L.hrun (by kernel_rfl) (by kernel_rfl) (by kernel_rfl) (by rfl) (by first | assumption | decide +kernel) (by decide +kernel) ⟨rfl, rfl, rfl, rfl, rfl, by decide +kernel⟩ ?hw ?hc
  case hw => w_witness2
  case hc => exact J.walk_L (l := PySem.Challenge.rw_cupweb_k63_deeds_written_and_read) (n := 63) (k := 8) (x := "_law_script") (Fm := L.F_law) rfl (by decide) (by kernel_rfl) ⟨rfl, by decide, by decide⟩ (by kernel_rfl) (by kernel_rfl) (fun w mg fa h K Y G hmg => L.all_mk Y G hmg) L.law_true
