import PyProof.Rows.All
import Wide.All
import OpenK.AllK
import Wide.FinOn
import HandS.ForMost
import HandS.ForExc
import HandS.CallSlots
import HandS.Defaults
import HandS.Wide
import HandS.IsInst
import HandS.Lambda
import HandS.ExcCtx
import KE.KNest
import HandS.Style
import HandS.Zip
import HandS.TupAny
import HandS.EndTab
import HandS.DictComp
import HandS.SetBool
import HandS.TupSets
import HandS.Conv
import HandS.Strs
import KE.SortData
import HandS.MapObj
import HandS.Small
import HandS.TupLen
import HandS.Sort
import HandS.Deep
import PyProof.ListRange
import HandS.More
import KE.KDictZip
import HandS.ExcInit
import HandS.ClsMeth
import HandS.HotCalls
import HandS.ExcIs
import HandS.ExcField
import HandS.Text
import PyProof.FactsAll.object_2
import HandS.SetFor
import PyProof.FactsAll.set_1
import PyProof.FactsAll.set_2
import KE.KEqDict
import HandS.Head0
import HandS.Head1
import HandS.Head2
import HandS.HeadHook1
import HandS.HeadHook2
import HandS.HeadHook3
import HandS.HeadHook4
import KE.KDictWalk
import KE.GoesMore
import KE.GoesZip
import KE.GoesEnum
import HandS.SortKw
import KE.DataMinMax
import HandS.TryOnly
import HandS.List
import HandS.Zip0
import PySem.Challenge.RW_cupweb_k09_faces_refused
set_option Elab.async false
set_option linter.all false
set_option maxRecDepth 100000
set_option autoImplicit false
set_option exponentiation.threshold 2000
namespace J
open PySem L2
/-! values -/
inductive VV where
  | non | bl (b : Bool) | int (i : Int) | str (x : Str)
  | tup (xs : List VV) | lst (xs : List VV) | scr (xs : List VV)
  | dT (ks : List (List Key)) (vs : List VV)
  | dK (ks : List Key) (vs : List VV)
  | ins (c : Str) (ns : List Str) (vs : List VV)
  | obj (n : Nat)
  | glb (x : Str)
  | ty (n : String)
  | raw (a : Addr)
/-- a mutable root -/
inductive VO where
  | fzn (v : VV)
  | fl (xs : List VV)
  | lo (xs : List VV)
  | dT (ks : List (List Key)) (vs : List VV)
  | dK (ks : List Key) (vs : List VV)
  | ins (c : Str) (ns : List Str) (vs : List VV)
abbrev VH := List VO
abbrev VSt := List (Option VV)
inductive Res (α : Type) where
  | no
  | ok (a : α) (h : VH)
  | exc (x : Str) (ns : List Str) (vs : List VV) (h : VH)
def Res.bind {α β : Type} (r : Res α) (k : α → VH → Res β) : Res β :=
  match r with
  | .no => .no
  | .ok a h => k a h
  | .exc x ns vs h => .exc x ns vs h
structure Ct where
  K : PySem.W.Frag
  mg : Str → Option Value
structure Gh where
  io : List Addr
  fz : Addr → Prop
  kp : Addr → Prop
/-- a tuple: a frozen one -/
def TupAt (_c : Ct) (_ : Addr → Prop) (H : Hp) (p : Addr) (us : List V) : Prop := H p = some (.tup us)
theorem TupAt.sq {c : Ct} {z : Addr → Prop} {H : Hp} {p : Addr} {us : List V} (h : TupAt c z H p us) : SqT c.K H p us := .inl (.inl h)
theorem TupAt.stp {c : Ct} {z z' : Addr → Prop} {H H' : Hp} {p : Addr} {us : List V} (ht : ∀ p us, H p = some (.tup us) → H' p = some (.tup us)) (h : TupAt c z H p us) : TupAt c z' H' p us := ht _ _ h
/-- a list that is only read: a frozen one, or one of the module's -/
def LstAt (c : Ct) (z : Addr → Prop) (H : Hp) (p : Addr) (us : List V) : Prop :=
  (z p ∧ Rd H p (.lst us)) ∨ ∃ (o : Obj) (its : Array Value) (n : Nat), c.K.lookup p = some o ∧ o.cls = .type "list" ∧ o.dict = none ∧ o.data = .seq its n ∧ its.size ≤ sizeLine ∧ Vals us its.toList
theorem LstAt.sq {c : Ct} {z : Addr → Prop} {H : Hp} {p : Addr} {us : List V} (h : LstAt c z H p us) : SqL c.K H p us := by
  rcases h with h | h
  · exact .inl h.2
  · exact .inr h
theorem rd_same {H H' : Hp} {p : Addr} {o : HO} (e : H' p = H p) (h : Rd H p o) : Rd H' p o := by
  rcases h with h | ⟨q, h⟩
  · exact .inl (e.trans h)
  · exact .inr ⟨q, e.trans h⟩
/-- what may be locked -/
def Lk (o : HO) : Prop := (∃ kvs, o = .dK kvs) ∨ ∃ kvs, o = .dT kvs
/-- what is frozen stands; a dict may be locked -/
def Ke (o o' : Option HO) : Prop := o' = o ∨ ∃ od u, Lk u ∧ o = some u ∧ o' = some (.frz od u)
theorem Ke.refl {o : Option HO} : Ke o o := .inl rfl
theorem Lk.frz {od : Obj} {u : HO} (h : Lk (.frz od u)) : False := by
  rcases h with ⟨_, e⟩ | ⟨_, e⟩ <;> cases e
theorem Ke.trans {a b c : Option HO} (h : Ke a b) (k : Ke b c) : Ke a c := by
  rcases h with h | ⟨od, u, l, h1, h2⟩
  · rw [← h]; exact k
  · rcases k with k | ⟨od2, u2, l2, k1, k2⟩
    · exact .inr ⟨od, u, l, h1, k.trans h2⟩
    · rw [h2] at k1; cases k1; exact l2.frz.elim
theorem Ke.at {o : HO} {a b : Option HO} (h : Ke a b) (e : a = some o) (n : ∀ kvs, o ≠ .dK kvs) (n2 : ∀ kvs, o ≠ .dT kvs := by intro _ z; cases z) : b = some o := by
  rcases h with h | ⟨od, u, l, h1, h2⟩
  · exact h.trans e
  · rw [e] at h1
    rcases l with ⟨kvs, l⟩ | ⟨kvs, l⟩
    · exact absurd ((Option.some.inj h1).trans l) (n kvs)
    · exact absurd ((Option.some.inj h1).trans l) (n2 kvs)
theorem Ke.ex {a b : Option HO} (h : Ke a b) (e : ∃ o, a = some o) : ∃ o, b = some o := by
  obtain ⟨o, e⟩ := e
  rcases h with h | ⟨od, u, l, h1, h2⟩
  · exact ⟨o, h.trans e⟩
  · exact ⟨_, h2⟩
theorem Ke.rdL {H H' : Hp} {p : Addr} {o : HO} (h : Ke (H p) (H' p)) (r : Rd H p o) : Rd H' p o := by
  rcases h with h | ⟨od, u, l, h1, h2⟩
  · exact rd_same h r
  · rcases r with r | ⟨q, r⟩
    · rw [r] at h1; cases h1; exact .inr ⟨od, h2⟩
    · rw [r] at h1; cases h1; exact l.frz.elim
theorem Ke.rd {H H' : Hp} {p : Addr} {o : HO} (h : Ke (H p) (H' p)) (r : Rd H p o) (_ : ∀ kvs, o ≠ .dK kvs) : Rd H' p o := h.rdL r
theorem Ke.dk {H H' : Hp} {p : Addr} {kvs : List (Key × V)} (h : Ke (H p) (H' p)) (r : Rd H p (.dK kvs)) : Rd H' p (.dK kvs) := h.rdL r
theorem LstAt.stp {c : Ct} {z z' : Addr → Prop} {H H' : Hp} {p : Addr} {us : List V} (hz : ∀ p, z p → z' p) (hH : ∀ p, z p → Ke (H p) (H' p)) (h : LstAt c z H p us) : LstAt c z' H' p us := by
  rcases h with h | h
  · exact .inl ⟨hz p h.1, (hH p h.1).rd h.2 (fun _ z => nomatch z)⟩
  · exact .inr h
mutual
def RV (c : Ct) (z : Addr → Prop) (H : Hp) : VV → V → Prop
  | .non, u => u = .non
  | .bl b, u => u = .bl b
  | .int i, u => u = .int i
  | .str x, u => u = .str x
  | .tup xs, u => ∃ p us, u = .ref p ∧ TupAt c z H p us ∧ RVs c z H xs us
  | .lst xs, u => ∃ p us, u = .ref p ∧ z p ∧ H p = some (.lst us) ∧ RVs c z H xs us
  | .scr xs, u => ∃ p us, u = .ref p ∧ LstAt c z H p us ∧ RVs c z H xs us
  | .dT ks vs, u => ∃ p us, u = .ref p ∧ z p ∧ Rd H p (.dT (ks.zip us)) ∧ ks.length = us.length ∧ RVs c z H vs us
  | .dK ks vs, u => ∃ p us, u = .ref p ∧ z p ∧ Rd H p (.dK (ks.zip us)) ∧ ks.length = us.length ∧ RVs c z H vs us
  | .ins x ns vs, u => ∃ p C dx us, u = .ref p ∧ z p ∧ c.mg x = some (.ref C) ∧ H p = some (.ins C dx (ns.zip us)) ∧ ns.length = us.length ∧ RVs c z H vs us
  | .obj _, _ => False
  | .glb x, u => ∃ a, c.mg x = some (.ref a) ∧ u = .ref a
  | .ty n, u => u = .ty n
  | .raw a, u => u = .ref a
def RVs (c : Ct) (z : Addr → Prop) (H : Hp) : List VV → List V → Prop
  | [], us => us = []
  | x :: xs, us => ∃ u r, us = u :: r ∧ RV c z H x u ∧ RVs c z H xs r
end
/-- a value at the top: a root, or data -/
def RT (c : Ct) (g : Gh) (H : Hp) : VV → V → Prop
  | .obj n, u => ∃ a, g.io[n]? = some a ∧ u = .ref a
  | v, u => RV c g.fz H v u
def RTs (c : Ct) (g : Gh) (H : Hp) : List VV → List V → Prop
  | [], us => us = []
  | x :: xs, us => ∃ u r, us = u :: r ∧ RT c g H x u ∧ RTs c g H xs r
def VV.isObj : VV → Bool
  | .obj _ => true
  | _ => false
def RO (c : Ct) (g : Gh) (H : Hp) : VO → Addr → Prop
  | .fzn v, a => g.fz a ∧ RV c g.fz H v (.ref a)
  | .fl xs, a => ¬ g.fz a ∧ ∃ us, H a = some (.lst us) ∧ RVs c g.fz H xs us
  | .lo xs, a => ¬ g.fz a ∧ ∃ us, H a = some (.lst us) ∧ RTs c g H xs us
  | .dT ks vs, a => ¬ g.fz a ∧ ∃ us, H a = some (.dT (ks.zip us)) ∧ ks.length = us.length ∧ RVs c g.fz H vs us
  | .dK ks vs, a => ¬ g.fz a ∧ ∃ us, H a = some (.dK (ks.zip us)) ∧ ks.length = us.length ∧ RVs c g.fz H vs us
  | .ins x ns vs, a => ¬ g.fz a ∧ ∃ C dx us, c.mg x = some (.ref C) ∧ H a = some (.ins C dx (ns.zip us)) ∧ ns.length = us.length ∧ RTs c g H vs us
/-- the table of lambdas of the def that makes some -/
def lamFn : Str := "law"
def lamQ : Str := lamFn ++ ".<locals>." ++ "<lambda>"
def LTab (c : Ct) (H : Hp) : Prop := ∀ cc P, PySem.W.tabIn c.K lamFn = some (cc, P) → LamX.TabS H P lamQ
def NoTab (D : Addr) (o : Option HO) : Prop := (∀ ps, o ≠ some (.tbl ps)) ∧ ∀ q, o ≠ some (LamX.CodeO D q)
theorem NoTab.none {D : Addr} {o : Option HO} (e : o = Option.none) : NoTab D o := by
  subst e
  exact ⟨fun _ z => (by cases z), fun _ z => (by cases z)⟩
theorem noTab_of {D : Addr} {o : HO} (h : ∀ ps, o ≠ .tbl ps) (h2 : ∀ f, o ≠ .ext f) : NoTab D (some o) :=
  ⟨fun ps z => h ps (Option.some.inj z), fun q z => by
    have z := Option.some.inj z
    unfold LamX.CodeO at z
    exact h2 _ z⟩
theorem LTab.upd {c : Ct} {H : Hp} {D : Addr} {O : HO} (t : LTab c H) (n : NoTab D (H D)) : LTab c (upd H D O) := fun cc P e => by
  obtain ⟨ps, h1, h2, h3⟩ := t cc P e
  refine ⟨ps, by rw [upd_ne (fun z => n.1 ps (by rw [← z]; exact h1))]; exact h1, h2, fun pos cv hc => ?_⟩
  obtain ⟨k, e1, e2⟩ := h3 pos cv hc
  exact ⟨k, e1, by rw [upd_ne (fun z => n.2 lamQ (by rw [← z]; exact e2))]; exact e2⟩
theorem RO.noTab {c : Ct} {g : Gh} {H : Hp} {o : VO} {a : Addr} (h : RO c g H o a) (nz : ¬ g.fz a) : NoTab a (H a) := by
  cases o with
  | fzn v => exact absurd h.1 nz
  | fl xs => obtain ⟨h1, us, h3, h4⟩ := h; rw [h3]; exact noTab_of (fun _ z => by cases z) (fun _ z => by cases z)
  | lo xs => obtain ⟨h1, us, h3, h4⟩ := h; rw [h3]; exact noTab_of (fun _ z => by cases z) (fun _ z => by cases z)
  | dT ks vs => obtain ⟨h1, us, h3, h4⟩ := h; rw [h3]; exact noTab_of (fun _ z => by cases z) (fun _ z => by cases z)
  | dK ks vs => obtain ⟨h1, us, h3, h4⟩ := h; rw [h3]; exact noTab_of (fun _ z => by cases z) (fun _ z => by cases z)
  | ins x ns vs => obtain ⟨h1, C, dx, us, h3, h4, h5⟩ := h; rw [h4]; exact noTab_of (fun _ z => by cases z) (fun _ z => by cases z)
structure RH (c : Ct) (g : Gh) (h : VH) (H : Hp) : Prop where
  len : g.io.length = h.length
  nd : g.io.Nodup
  at' : ∀ (n : Nat) (o : VO) (a : Addr), h[n]? = some o → g.io[n]? = some a → RO c g H o a
  fz : ∀ q, g.fz q → ∃ o, H q = some o
  kp : ∀ q, g.kp q → ∃ o, H q = some o
  kd : ∀ q, g.kp q → ¬ g.fz q ∧ q ∉ g.io
  tb : LTab c H
  nt : ∀ q, g.fz q ∨ g.kp q → ∀ ps, H q ≠ some (.tbl ps)
structure Stp (g : Gh) (H : Hp) (g' : Gh) (H' : Hp) : Prop where
  io : g.io <+: g'.io
  fz : ∀ p, g.fz p → g'.fz p
  kp : ∀ p, g.kp p → g'.kp p
  fH : ∀ p, g.fz p → Ke (H p) (H' p)
  kH : ∀ p, g.kp p → H' p = H p
  tp : ∀ p us, H p = some (.tup us) → H' p = some (.tup us)
theorem Stp.refl {g : Gh} {H : Hp} : Stp g H g H := ⟨List.prefix_rfl, fun _ h => h, fun _ h => h, fun _ _ => .refl, fun _ _ => rfl, fun _ _ h => h⟩
theorem Stp.trans {g g1 g2 : Gh} {H H1 H2 : Hp} (a : Stp g H g1 H1) (b : Stp g1 H1 g2 H2) : Stp g H g2 H2 :=
  ⟨a.io.trans b.io, fun p h => b.fz p (a.fz p h), fun p h => b.kp p (a.kp p h), fun p h => (a.fH p h).trans (b.fH p (a.fz p h)), fun p h => (b.kH p (a.kp p h)).trans (a.kH p h), fun p us h => b.tp p us (a.tp p us h)⟩
mutual
theorem RV.stp {c : Ct} {z z' : Addr → Prop} {H H' : Hp} (hz : ∀ p, z p → z' p) (hH : ∀ p, z p → Ke (H p) (H' p)) (ht : ∀ p us, H p = some (.tup us) → H' p = some (.tup us)) : ∀ (v : VV) (u : V), RV c z H v u → RV c z' H' v u
  | .non, u, h => by simpa only [RV] using h
  | .bl b, u, h => by simpa only [RV] using h
  | .int i, u, h => by simpa only [RV] using h
  | .str x, u, h => by simpa only [RV] using h
  | .tup xs, u, h => by
    rw [RV] at h ⊢
    obtain ⟨p, us, e, r, q⟩ := h
    exact ⟨p, us, e, r.stp ht, RVs.stp hz hH ht xs us q⟩
  | .lst xs, u, h => by
    rw [RV] at h ⊢
    obtain ⟨p, us, e, hp, r, q⟩ := h
    exact ⟨p, us, e, hz p hp, (hH p hp).at r (fun _ z => nomatch z), RVs.stp hz hH ht xs us q⟩
  | .scr xs, u, h => by
    rw [RV] at h ⊢
    obtain ⟨p, us, e, r, q⟩ := h
    exact ⟨p, us, e, r.stp hz hH, RVs.stp hz hH ht xs us q⟩
  | .dT ks vs, u, h => by
    rw [RV] at h ⊢
    obtain ⟨p, us, e, hp, r, l, q⟩ := h
    exact ⟨p, us, e, hz p hp, (hH p hp).rdL r, l, RVs.stp hz hH ht vs us q⟩
  | .dK ks vs, u, h => by
    rw [RV] at h ⊢
    obtain ⟨p, us, e, hp, r, l, q⟩ := h
    exact ⟨p, us, e, hz p hp, (hH p hp).dk r, l, RVs.stp hz hH ht vs us q⟩
  | .ins x ns vs, u, h => by
    rw [RV] at h ⊢
    obtain ⟨p, C, dx, us, e, hp, m, r, l, q⟩ := h
    exact ⟨p, C, dx, us, e, hz p hp, m, (hH p hp).at r (fun _ z => nomatch z), l, RVs.stp hz hH ht vs us q⟩
  | .obj _, _, h => by rw [RV] at h; exact h.elim
  | .glb x, u, h => by simpa only [RV] using h
  | .ty n, u, h => by simpa only [RV] using h
  | .raw a, u, h => by simpa only [RV] using h
theorem RVs.stp {c : Ct} {z z' : Addr → Prop} {H H' : Hp} (hz : ∀ p, z p → z' p) (hH : ∀ p, z p → Ke (H p) (H' p)) (ht : ∀ p us, H p = some (.tup us) → H' p = some (.tup us)) : ∀ (vs : List VV) (us : List V), RVs c z H vs us → RVs c z' H' vs us
  | [], us, h => by simpa only [RVs] using h
  | x :: xs, us, h => by
    rw [RVs] at h ⊢
    obtain ⟨u, r, e, a, b⟩ := h
    exact ⟨u, r, e, RV.stp hz hH ht x u a, RVs.stp hz hH ht xs r b⟩
end
theorem Stp.rv {c : Ct} {g g' : Gh} {H H' : Hp} (s : Stp g H g' H') {v : VV} {u : V} (h : RV c g.fz H v u) : RV c g'.fz H' v u := RV.stp s.fz s.fH s.tp _ _ h
theorem Stp.rvs {c : Ct} {g g' : Gh} {H H' : Hp} (s : Stp g H g' H') {v : List VV} {u : List V} (h : RVs c g.fz H v u) : RVs c g'.fz H' v u := RVs.stp s.fz s.fH s.tp _ _ h
theorem RT.of_rv {c : Ct} {g : Gh} {H : Hp} {v : VV} {u : V} (h : RV c g.fz H v u) : RT c g H v u := by
  cases v with
  | obj n => rw [RV] at h; exact h.elim
  | _ => exact h
theorem RT.rv {c : Ct} {g : Gh} {H : Hp} {v : VV} {u : V} (h : RT c g H v u) (n : v.isObj = false) : RV c g.fz H v u := by
  cases v with
  | obj n => cases n
  | _ => exact h
theorem RT.stp {c : Ct} {g g' : Gh} {H H' : Hp} (s : Stp g H g' H') {v : VV} {u : V} (h : RT c g H v u) : RT c g' H' v u := by
  cases v with
  | obj n =>
    obtain ⟨a, e, hu⟩ := h
    refine ⟨a, ?_, hu⟩
    obtain ⟨l, hl⟩ := s.io
    rw [← hl, List.getElem?_append_left (List.getElem?_eq_some_iff.mp e).1]
    exact e
  | _ => exact RT.of_rv (RV.stp s.fz s.fH s.tp _ _ (RT.rv h rfl))
theorem RTs.stp {c : Ct} {g g' : Gh} {H H' : Hp} (s : Stp g H g' H') : ∀ {vs : List VV} {us : List V}, RTs c g H vs us → RTs c g' H' vs us
  | [], us, h => h
  | x :: xs, us, h => by
    obtain ⟨u, r, e, a, b⟩ := h
    exact ⟨u, r, e, a.stp s, RTs.stp s b⟩
theorem RTs.of_rvs {c : Ct} {g : Gh} {H : Hp} : ∀ {vs : List VV} {us : List V}, RVs c g.fz H vs us → RTs c g H vs us
  | [], us, h => by rw [RVs] at h; exact h
  | x :: xs, us, h => by
    rw [RVs] at h
    obtain ⟨u, r, e, a, b⟩ := h
    exact ⟨u, r, e, RT.of_rv a, RTs.of_rvs b⟩
theorem RTs.rvs {c : Ct} {g : Gh} {H : Hp} : ∀ {vs : List VV} {us : List V}, RTs c g H vs us → vs.any VV.isObj = false → RVs c g.fz H vs us
  | [], us, h, _ => by rw [RVs]; exact h
  | x :: xs, us, h, n => by
    obtain ⟨u, r, e, a, b⟩ := h
    rw [List.any_cons, Bool.or_eq_false_iff] at n
    rw [RVs]
    exact ⟨u, r, e, a.rv n.1, RTs.rvs b n.2⟩
theorem RVs.len {c : Ct} {z : Addr → Prop} {H : Hp} : ∀ {vs : List VV} {us : List V}, RVs c z H vs us → vs.length = us.length
  | [], us, h => by rw [RVs] at h; rw [h]; rfl
  | x :: xs, us, h => by
    rw [RVs] at h
    obtain ⟨u, r, e, a, b⟩ := h
    rw [e, List.length_cons, List.length_cons, RVs.len b]
theorem RTs.len {c : Ct} {g : Gh} {H : Hp} : ∀ {vs : List VV} {us : List V}, RTs c g H vs us → vs.length = us.length
  | [], us, h => by rw [show us = [] from h]; rfl
  | x :: xs, us, h => by
    obtain ⟨u, r, e, a, b⟩ := h
    rw [e, List.length_cons, List.length_cons, RTs.len b]
theorem RVs.get {c : Ct} {z : Addr → Prop} {H : Hp} : ∀ {vs : List VV} {us : List V} {i : Nat} {v : VV}, RVs c z H vs us → vs[i]? = some v → ∃ u, us[i]? = some u ∧ RV c z H v u
  | [], us, i, v, h, e => by simp at e
  | x :: xs, us, i, v, h, e => by
    rw [RVs] at h
    obtain ⟨u, r, rfl, a, b⟩ := h
    cases i with
    | zero => simp at e; subst e; exact ⟨u, rfl, a⟩
    | succ i => exact RVs.get (i := i) b (by simpa using e)
theorem RVs.app {c : Ct} {z : Addr → Prop} {H : Hp} : ∀ {vs ws : List VV} {us ys : List V}, RVs c z H vs us → RVs c z H ws ys → RVs c z H (vs ++ ws) (us ++ ys)
  | [], ws, us, ys, h, k => by rw [RVs] at h; subst h; exact k
  | x :: xs, ws, us, ys, h, k => by
    rw [RVs] at h
    obtain ⟨u, r, rfl, a, b⟩ := h
    show RVs c z H (x :: (xs ++ ws)) (u :: (r ++ ys))
    rw [RVs]
    exact ⟨u, _, rfl, a, RVs.app b k⟩
theorem RVs.set {c : Ct} {z : Addr → Prop} {H : Hp} {v : VV} {u : V} (q : RV c z H v u) : ∀ {vs : List VV} {us : List V} {i : Nat}, RVs c z H vs us → RVs c z H (vs.set i v) (us.set i u)
  | [], us, i, h => by rw [RVs] at h; subst h; simp only [List.set_nil]; rw [RVs]
  | x :: xs, us, i, h => by
    rw [RVs] at h
    obtain ⟨y, r, rfl, a, b⟩ := h
    cases i with
    | zero => simp only [List.set_cons_zero]; rw [RVs]; exact ⟨u, r, rfl, q, b⟩
    | succ i => simp only [List.set_cons_succ]; rw [RVs]; exact ⟨y, _, rfl, a, RVs.set q b⟩
theorem RVs.one {c : Ct} {z : Addr → Prop} {H : Hp} {v : VV} {u : V} (q : RV c z H v u) : RVs c z H [v] [u] := by
  rw [RVs]; exact ⟨u, [], rfl, q, by rw [RVs]⟩
theorem RVs.nil {c : Ct} {z : Addr → Prop} {H : Hp} : RVs c z H [] [] := by rw [RVs]
theorem RVs.cons {c : Ct} {z : Addr → Prop} {H : Hp} {v : VV} {u : V} {vs us} (q : RV c z H v u) (r : RVs c z H vs us) : RVs c z H (v :: vs) (u :: us) := by
  rw [RVs]; exact ⟨u, us, rfl, q, r⟩
theorem RVs.take {c : Ct} {z : Addr → Prop} {H : Hp} : ∀ {vs : List VV} {us : List V} (n : Nat), RVs c z H vs us → RVs c z H (vs.take n) (us.take n)
  | _, _, 0, _ => by simp only [List.take_zero]; exact RVs.nil
  | [], us, n + 1, h => by rw [RVs] at h; subst h; simp only [List.take_nil]; exact RVs.nil
  | x :: xs, us, n + 1, h => by
    rw [RVs] at h
    obtain ⟨u, r, rfl, a, b⟩ := h
    simp only [List.take_succ_cons]
    exact RVs.cons a (RVs.take n b)
theorem RVs.drop {c : Ct} {z : Addr → Prop} {H : Hp} : ∀ {vs : List VV} {us : List V} (n : Nat), RVs c z H vs us → RVs c z H (vs.drop n) (us.drop n)
  | _, _, 0, h => by simpa only [List.drop_zero] using h
  | [], us, n + 1, h => by rw [RVs] at h; subst h; simp only [List.drop_nil]; exact RVs.nil
  | x :: xs, us, n + 1, h => by
    rw [RVs] at h
    obtain ⟨u, r, rfl, a, b⟩ := h
    simp only [List.drop_succ_cons]
    exact RVs.drop n b
theorem RT.back {c : Ct} {g g' : Gh} {H : Hp} (e1 : g'.io = g.io) (e2 : g'.fz = g.fz) {v : VV} {u : V} (h : RT c g H v u) : RT c g' H v u := by
  cases v with
  | obj n => obtain ⟨a, b, d⟩ := h; exact ⟨a, by rw [e1]; exact b, d⟩
  | _ => exact RT.of_rv (by rw [e2]; exact RT.rv h rfl)
theorem RTs.back {c : Ct} {g : Gh} {H : Hp} {k : Addr → Prop} : ∀ {vs : List VV} {us : List V}, RTs c g H vs us → RTs c { g with kp := k } H vs us
  | [], us, h => h
  | x :: xs, us, h => by
    obtain ⟨u, r, e, a, b⟩ := h
    exact ⟨u, r, e, a.back rfl rfl, RTs.back b⟩
/-- slots -/
structure RS (c : Ct) (g : Gh) (H : Hp) (ρ : VSt) (σ : St) : Prop where
  len : ρ.length = σ.length
  get : ∀ (i : Nat) (v : VV), ρ[i]? = some (some v) → ∃ u, σ[i]? = some (some u) ∧ RT c g H v u
theorem RS.stp {c : Ct} {g g' : Gh} {H H' : Hp} {ρ : VSt} {σ : St} (s : Stp g H g' H') (h : RS c g H ρ σ) : RS c g' H' ρ σ := ⟨h.len, fun i v e => by
  obtain ⟨u, a, b⟩ := h.get i v e
  exact ⟨u, a, b.stp s⟩⟩
theorem RO.stp {c : Ct} {g g' : Gh} {H H' : Hp} {o : VO} {a : Addr} (s : Stp g H g' H') (nz : ¬ g.fz a → ¬ g'.fz a) (e : H' a = H a) (h : RO c g H o a) : RO c g' H' o a := by
  cases o with
  | fzn v => exact ⟨s.fz a h.1, s.rv h.2⟩
  | fl xs =>
    obtain ⟨h1, us, h3, h4⟩ := h
    exact ⟨nz h1, us, e.trans h3, s.rvs h4⟩
  | lo xs =>
    obtain ⟨h1, us, h3, h4⟩ := h
    exact ⟨nz h1, us, e.trans h3, h4.stp s⟩
  | dT ks vs =>
    obtain ⟨h1, us, h3, h4, h5⟩ := h
    exact ⟨nz h1, us, e.trans h3, h4, s.rvs h5⟩
  | dK ks vs =>
    obtain ⟨h1, us, h3, h4, h5⟩ := h
    exact ⟨nz h1, us, e.trans h3, h4, s.rvs h5⟩
  | ins x ns vs =>
    obtain ⟨h1, C, dx, us, h3, h4, h5, h6⟩ := h
    exact ⟨nz h1, C, dx, us, h3, e.trans h4, h5, h6.stp s⟩
theorem RO.some {c : Ct} {g : Gh} {H : Hp} {o : VO} {a : Addr} (fz : ∀ q, g.fz q → ∃ o, H q = some o) (h : RO c g H o a) : ∃ o, H a = some o := by
  cases o with
  | fzn v => exact fz a h.1
  | fl xs => obtain ⟨h1, us, h3, h4⟩ := h; exact ⟨_, h3⟩
  | lo xs => obtain ⟨h1, us, h3, h4⟩ := h; exact ⟨_, h3⟩
  | dT ks vs => obtain ⟨h1, us, h3, h4⟩ := h; exact ⟨_, h3⟩
  | dK ks vs => obtain ⟨h1, us, h3, h4⟩ := h; exact ⟨_, h3⟩
  | ins x ns vs => obtain ⟨h1, C, dx, us, h3, h4, h5⟩ := h; exact ⟨_, h4⟩
theorem RH.root {c : Ct} {g : Gh} {h : VH} {H : Hp} (R : RH c g h H) {a : Addr} (ha : a ∈ g.io) : ∃ o, H a = some o := by
  obtain ⟨n, hn, e⟩ := List.getElem_of_mem ha
  have hl : n < h.length := by rw [← R.len]; exact hn
  exact (R.at' n h[n] a (List.getElem?_eq_getElem hl) (by rw [List.getElem?_eq_getElem hn, e])).some R.fz
theorem RH.rootNt {c : Ct} {g : Gh} {h : VH} {H : Hp} (R : RH c g h H) {a : Addr} (ha : a ∈ g.io) (ps : Array Value) : H a ≠ some (.tbl ps) := by
  obtain ⟨n, hn, e⟩ := List.getElem_of_mem ha
  have hl : n < h.length := by rw [← R.len]; exact hn
  by_cases z : g.fz a
  · exact R.nt a (.inl z) ps
  · exact (RO.noTab (R.at' n h[n] a (List.getElem?_eq_getElem hl) (by rw [List.getElem?_eq_getElem hn, e])) z).1 ps
theorem nodup_inj {l : List Addr} (h : l.Nodup) {i j : Nat} {a : Addr} (h1 : l[i]? = some a) (h2 : l[j]? = some a) : i = j :=
  (List.getElem?_inj (List.getElem?_eq_some_iff.mp h1).1 h).mp (h1.trans h2.symm)
/-- new data: p, frozen -/
def Gh.frz (g : Gh) (p : Addr) : Gh := { g with fz := fun q => g.fz q ∨ q = p }
theorem Stp.new {c : Ct} {g : Gh} {h : VH} {H : Hp} (R : RH c g h H) {p : Addr} {o : HO} (np : H p = none) : Stp g H (g.frz p) (upd H p o) := by
  have ne : ∀ q, (∃ o, H q = some o) → q ≠ p := fun q ⟨o, e⟩ z => by rw [z, np] at e; cases e
  exact ⟨List.prefix_rfl, fun _ h => .inl h, fun _ h => h, fun q h => .inl (upd_ne (ne q (R.fz q h))), fun q h => upd_ne (ne q (R.kp q h)), fun q us h => (upd_ne (ne q ⟨_, h⟩)).trans h⟩
theorem RH.new {c : Ct} {g : Gh} {h : VH} {H : Hp} (R : RH c g h H) {p : Addr} {o : HO} (np : H p = none) (nt : ∀ ps, o ≠ .tbl ps := by intro _ z; cases z) : RH c (g.frz p) h (upd H p o) := by
  have ne : ∀ q, (∃ o, H q = some o) → q ≠ p := fun q ⟨o, e⟩ z => by rw [z, np] at e; cases e
  refine ⟨R.len, R.nd, fun n o a h1 h2 => ?_, fun q h => ?_, fun q h => ?_, fun q h => ⟨fun z => z.elim (R.kd q h).1 (ne q (R.kp q h)), (R.kd q h).2⟩, R.tb.upd (.none np), fun q h ps z => ?_⟩
  rotate_left 3
  · by_cases e : q = p
    · subst e; rw [upd_same] at z; exact nt ps (Option.some.inj z)
    · rw [upd_ne e] at z
      rcases h with h | h
      · exact R.nt q (.inl (h.elim id (fun y => absurd y e))) ps z
      · exact R.nt q (.inr h) ps z
  · have na : a ≠ p := ne a (R.root (List.mem_of_getElem? h2))
    exact RO.stp (Stp.new R np) (fun h z => z.elim h na) (upd_ne na) (R.at' n o a h1 h2)
  · rcases h with h | h
    · rw [upd_ne (ne q (R.fz q h))]; exact R.fz q h
    · rw [h]; exact ⟨_, upd_same⟩
  · rw [upd_ne (ne q (R.kp q h))]; exact R.kp q h
/-- heap beside that is not ours -/
theorem Stp.junk {c : Ct} {g : Gh} {h : VH} {H : Hp} (R : RH c g h H) {p : Addr} {o : HO} (np : H p = none) : Stp g H g (upd H p o) := by
  have ne : ∀ q, (∃ o, H q = some o) → q ≠ p := fun q ⟨o, e⟩ z => by rw [z, np] at e; cases e
  exact ⟨List.prefix_rfl, fun _ h => h, fun _ h => h, fun q h => .inl (upd_ne (ne q (R.fz q h))), fun q h => upd_ne (ne q (R.kp q h)), fun q us h => (upd_ne (ne q ⟨_, h⟩)).trans h⟩
theorem RH.junk {c : Ct} {g : Gh} {h : VH} {H : Hp} (R : RH c g h H) {p : Addr} {o : HO} (np : H p = none) : RH c g h (upd H p o) := by
  have ne : ∀ q, (∃ o, H q = some o) → q ≠ p := fun q ⟨o, e⟩ z => by rw [z, np] at e; cases e
  refine ⟨R.len, R.nd, fun n o a h1 h2 => ?_, fun q h => ?_, fun q h => ?_, R.kd, R.tb.upd (.none np), fun q h ps z => R.nt q h ps (by rw [upd_ne (ne q (h.elim (R.fz q) (R.kp q)))] at z; exact z)⟩
  · have na : a ≠ p := ne a (R.root (List.mem_of_getElem? h2))
    exact RO.stp (Stp.junk R np) (fun h => h) (upd_ne na) (R.at' n o a h1 h2)
  · rw [upd_ne (ne q (R.fz q h))]; exact R.fz q h
  · rw [upd_ne (ne q (R.kp q h))]; exact R.kp q h
/-- a new root -/
def Gh.add (g : Gh) (p : Addr) : Gh := { g with io := g.io ++ [p] }
theorem Stp.add {g : Gh} {H : Hp} {p : Addr} : Stp g H (g.add p) H := ⟨List.prefix_append _ _, fun _ h => h, fun _ h => h, fun _ _ => .refl, fun _ _ => rfl, fun _ _ h => h⟩
theorem RH.add {c : Ct} {g : Gh} {h : VH} {H : Hp} (R : RH c g h H) {p : Addr} {o : VO} (hp : p ∉ g.io) (hk : ¬ g.kp p) (ro : RO c (g.add p) H o p) : RH c (g.add p) (h ++ [o]) H := by
  refine ⟨by show (g.io ++ [p]).length = _; simp [R.len], ?_, fun n o' a h1 h2 => ?_, R.fz, R.kp, fun q h => ⟨(R.kd q h).1, fun z => ?_⟩, R.tb, R.nt⟩
  · show (g.io ++ [p]).Nodup
    rw [List.nodup_append]
    exact ⟨R.nd, by simp, fun a ha b hb => by simp at hb; subst hb; intro e; subst e; exact hp ha⟩
  · have h2' : (g.io ++ [p])[n]? = some a := h2
    by_cases hn : n < h.length
    · rw [List.getElem?_append_left hn] at h1
      rw [List.getElem?_append_left (by rw [R.len]; exact hn)] at h2'
      exact RO.stp Stp.add (fun h => h) rfl (R.at' n o' a h1 h2')
    · have : n = h.length := by
        have := (List.getElem?_eq_some_iff.mp h1).1
        simp at this; omega
      subst this
      rw [List.getElem?_append_right (Nat.le_refl _), Nat.sub_self] at h1
      rw [List.getElem?_append_right (by rw [R.len]; exact Nat.le_refl _), R.len, Nat.sub_self] at h2'
      simp at h1 h2'
      subst h1 h2'
      exact ro
  · rcases List.mem_append.mp z with z | z
    · exact (R.kd q h).2 z
    · simp at z; subst z; exact hk h
/-- a root is written -/
theorem Stp.wr {c : Ct} {g : Gh} {H : Hp} {a : Addr} {O : HO} (nz : ¬ g.fz a) (nk : ¬ g.kp a) (nt : ∀ us, H a ≠ some (.tup us)) : Stp g H g (upd H a O) :=
  ⟨List.prefix_rfl, fun _ h => h, fun _ h => h, fun q h => .inl (upd_ne (fun z => nz (z ▸ h))), fun q h => upd_ne (fun z => nk (z ▸ h)), fun q us h => (upd_ne (fun (z : q = a) => nt us (by rw [← z]; exact h))).trans h⟩
theorem RH.wr {c : Ct} {g : Gh} {h : VH} {H : Hp} (R : RH c g h H) {n : Nat} {a : Addr} {o : VO} {O : HO} (ha : g.io[n]? = some a) (nz : ¬ g.fz a) (nt : ∀ us, H a ≠ some (.tup us)) (ro : RO c g (upd H a O) o a) : RH c g (h.set n o) (upd H a O) := by
  have nk : ¬ g.kp a := fun z => (R.kd a z).2 (List.mem_of_getElem? ha)
  have hio : ∃ o0, h[n]? = some o0 := by
    have hl : n < h.length := by rw [← R.len]; exact (List.getElem?_eq_some_iff.mp ha).1
    exact ⟨_, List.getElem?_eq_getElem hl⟩
  obtain ⟨o0, ho0⟩ := hio
  refine ⟨by rw [List.length_set]; exact R.len, R.nd, fun m o' b h1 h2 => ?_, fun q h => ?_, fun q h => ?_, R.kd, R.tb.upd ((R.at' n o0 a ho0 ha).noTab nz), fun q h ps z => R.nt q h ps (by rw [upd_ne (show q ≠ a from fun y => h.elim (fun h => nz (y ▸ h)) (fun h => nk (y ▸ h)))] at z; exact z)⟩
  · by_cases e : m = n
    · subst e
      rw [ha] at h2; cases h2
      have hl : m < h.length := by have := (List.getElem?_eq_some_iff.mp h1).1; simpa using this
      rw [List.getElem?_set_self hl] at h1
      cases h1
      exact ro
    · rw [List.getElem?_set_ne (Ne.symm e)] at h1
      have nb : b ≠ a := fun z => by
        subst z
        exact e (nodup_inj R.nd h2 ha)
      exact RO.stp (Stp.wr (c := c) nz nk nt) (fun h => h) (upd_ne nb) (R.at' m o' b h1 h2)
  · rw [upd_ne (show q ≠ a from fun z => nz (z ▸ h))]; exact R.fz q h
  · rw [upd_ne (show q ≠ a from fun z => nk (z ▸ h))]; exact R.kp q h
/-- a root is frozen -/
theorem Stp.kill {g : Gh} {H : Hp} {p : Addr} : Stp g H (g.frz p) H := ⟨List.prefix_rfl, fun _ h => .inl h, fun _ h => h, fun _ _ => .refl, fun _ _ => rfl, fun _ _ h => h⟩
theorem RH.kill {c : Ct} {g : Gh} {h : VH} {H : Hp} (R : RH c g h H) {n : Nat} {a : Addr} {v : VV} (ha : g.io[n]? = some a) (rv : RV c (g.frz a).fz H v (.ref a)) : RH c (g.frz a) (h.set n (.fzn v)) H := by
  refine ⟨by rw [List.length_set]; exact R.len, R.nd, fun m o' b h1 h2 => ?_, fun q h => ?_, R.kp, fun q h => ⟨fun z => z.elim (R.kd q h).1 (fun e => (R.kd q h).2 (e ▸ List.mem_of_getElem? ha)), (R.kd q h).2⟩, R.tb, fun q h ps z => ?_⟩
  rotate_left 2
  · rcases h with (h | h) | h
    · exact R.nt q (.inl h) ps z
    · rw [h] at z; exact R.rootNt (List.mem_of_getElem? ha) ps z
    · exact R.nt q (.inr h) ps z
  · have h2' : g.io[m]? = some b := h2
    by_cases e : m = n
    · subst e
      rw [ha] at h2'; cases h2'
      have hl : m < h.length := by have := (List.getElem?_eq_some_iff.mp h1).1; simpa using this
      rw [List.getElem?_set_self hl] at h1
      cases h1
      exact ⟨.inr rfl, rv⟩
    · rw [List.getElem?_set_ne (Ne.symm e)] at h1
      have nb : b ≠ a := fun z => by
        subst z
        exact e (nodup_inj R.nd h2' ha)
      exact RO.stp Stp.kill (fun h z => z.elim h nb) rfl (R.at' m o' b h1 h2')
  · rcases h with h | h
    · exact R.fz q h
    · rw [h]; exact R.root (List.mem_of_getElem? ha)
/-- an address that is ours for a while: others keep it -/
def Gh.keep (g : Gh) (D : Addr) : Gh := { g with kp := fun q => g.kp q ∨ q = D }
def Gh.back (g : Gh) (k : Addr → Prop) : Gh := { g with kp := k }
theorem Stp.keep {g : Gh} {H : Hp} {D : Addr} : Stp g H (g.keep D) H := ⟨List.prefix_rfl, fun _ h => h, fun _ h => .inl h, fun _ _ => .refl, fun _ _ => rfl, fun _ _ h => h⟩
theorem RH.keep {c : Ct} {g : Gh} {h : VH} {H : Hp} (R : RH c g h H) {D : Addr} {o : HO} (e : H D = some o) (nf : ¬ g.fz D) (ni : D ∉ g.io) (nt : ∀ ps, o ≠ .tbl ps := by intro _ z; cases z) : RH c (g.keep D) h H :=
  ⟨R.len, R.nd, fun n o a h1 h2 => RO.stp Stp.keep (fun h => h) rfl (R.at' n o a h1 h2), R.fz, fun q h => h.elim (R.kp q) (fun z => by rw [z]; exact ⟨o, e⟩), fun q h => h.elim (R.kd q) (fun z => by rw [z]; exact ⟨nf, ni⟩), R.tb, fun q h ps z => by
    rcases h with h | h | h
    · exact R.nt q (.inl h) ps z
    · exact R.nt q (.inr h) ps z
    · rw [h, e] at z; exact nt ps (Option.some.inj z)⟩
theorem RH.back {c : Ct} {g : Gh} {h : VH} {H : Hp} (R : RH c g h H) {k : Addr → Prop} (hk : ∀ p, k p → g.kp p) : RH c (g.back k) h H := by
  refine ⟨R.len, R.nd, fun n o a h1 h2 => ?_, R.fz, fun q h => R.kp q (hk q h), fun q h => R.kd q (hk q h), R.tb, fun q h => R.nt q (h.imp id (hk q))⟩
  have := R.at' n o a h1 h2
  cases o with
  | fzn v => exact this
  | fl xs => exact this
  | lo xs =>
    obtain ⟨h1, us, h3, h4⟩ := this
    exact ⟨h1, us, h3, RTs.back h4⟩
  | dT ks vs => exact this
  | dK ks vs => exact this
  | ins x ns vs =>
    obtain ⟨h1, C, dx, us, h3, h4, h5, h6⟩ := this
    refine ⟨h1, C, dx, us, h3, h4, h5, ?_⟩
    exact RTs.back h6
/-! the reading of a semantics -/
def Pst {α β : Type} (c : Ct) (W : WX) (σ : St) (R : Gh → Hp → α → β → Prop) (g : Gh) (H : Hp) (Q : β → Hp → Prop) : Res α → Prop
  | .no => False
  | .ok v h' => ∀ g' H' u, Stp g H g' H' → RH c g' h' H' → R g' H' v u → Q u H'
  | .exc x ns vs h' => ∀ g' H' C d us, Stp g H g' H' → RH c g' h' H' → c.mg x = some (.ref C) → (H' d = some (.xd (ns.zip us)) ∧ ¬ g'.fz d ∧ d ∉ g'.io) → ns.length = us.length → RVs c g'.fz H' vs us → W (.ref C) (some d) σ H'
theorem Pst.step {α β : Type} {c : Ct} {W : WX} {σ : St} {R : Gh → Hp → α → β → Prop} {g g1 : Gh} {H H1 : Hp} {Q : β → Hp → Prop} {r : Res α} (s : Stp g H g1 H1) (h : Pst c W σ R g H Q r) : Pst c W σ R g1 H1 Q r := by
  cases r with
  | no => exact h
  | ok v h' => exact fun g' H' u st => h g' H' u (s.trans st)
  | exc x ns vs h' => exact fun g' H' C d us st => h g' H' C d us (s.trans st)
theorem Pst.bind {α β γ δ : Type} {c : Ct} {W : WX} {σ : St} {R : Gh → Hp → α → β → Prop} {R' : Gh → Hp → γ → δ → Prop} {g : Gh} {H : Hp} {Q : δ → Hp → Prop} {r : Res α} {k : α → VH → Res γ} (h : Pst c W σ R' g H Q (r.bind k)) :
    Pst c W σ R g H (fun u H1 => ∃ g1 v h1, Stp g H g1 H1 ∧ RH c g1 h1 H1 ∧ R g1 H1 v u ∧ Pst c W σ R' g1 H1 Q (k v h1)) r := by
  cases r with
  | no => exact h
  | ok v h' => exact fun g' H' u st rh rv => ⟨g', v, h', st, rh, rv, Pst.step st h⟩
  | exc x ns vs h' => exact h
theorem Pst.imp {α β : Type} {c : Ct} {W : WX} {σ : St} {R : Gh → Hp → α → β → Prop} {g : Gh} {H : Hp} {Q Q' : β → Hp → Prop} {r : Res α} (h : Pst c W σ R g H Q r) (hq : ∀ u H, Q u H → Q' u H) : Pst c W σ R g H Q' r := by
  cases r with
  | no => exact h
  | ok v h' => exact fun g' H' u a b d => hq _ _ (h g' H' u a b d)
  | exc x ns vs h' => exact h
def tG {α β : Type} (c : Ct) (W : WX) (R : Gh → Hp → α → β → Prop) (f : VSt → VH → Res α) : St → Hp → (β → Hp → Prop) → Prop :=
  fun σ H Q => ∃ g ρ h, RH c g h H ∧ RS c g H ρ σ ∧ Pst c W σ R g H Q (f ρ h)
abbrev EF := VSt → VH → Res VV
abbrev TF := VSt → VH → Res Bool
abbrev AF := VSt → VH → Res (List VV)
def RB (_ : Gh) (_ : Hp) (a b : Bool) : Prop := b = a
abbrev tE (c : Ct) (W : WX) (f : EF) : TE := tG c W (RT c) f
abbrev tT (c : Ct) (W : WX) (f : TF) : TT := tG c W RB f
abbrev tA (c : Ct) (W : WX) (f : AF) : TA := tG c W (RTs c) f
abbrev ct (X : Cx) : Ct := ⟨X.K, X.mg⟩
theorem PE.mono {X : Cx} {e : Expr} {t t' : TE} (h : PE X e t) (m : ∀ σ H Q, t' σ H Q → t σ H Q) : PE X e t' := ⟨fun pins s σ H Q I q => h.run pins s σ H Q I (m σ H Q q)⟩
theorem PT.mono {X : Cx} {e : Expr} {t t' : TT} (h : PT X e t) (m : ∀ σ H Q, t' σ H Q → t σ H Q) : PT X e t' := ⟨fun pins s σ H Q I q => h.run pins s σ H Q I (m σ H Q q)⟩
theorem PW.mono {X : Cx} {e : Expr} {t t' : TT} (h : PW X e t) (m : ∀ σ H Q, t' σ H Q → t σ H Q) : PW X e t' := ⟨fun wh pins s σ H Q I q => h.run wh pins s σ H Q I (m σ H Q q)⟩
theorem PA.mono {X : Cx} {e : List Expr} {t t' : TA} (h : PA X e t) (m : ∀ σ H Q, t' σ H Q → t σ H Q) : PA X e t' := ⟨fun pos pins s σ H Q I q => h.run pos pins s σ H Q I (m σ H Q q)⟩
theorem PS.mono {X : Cx} {e : Stmt} {t t' : TS} (h : PS X e t) (m : ∀ D σ H, t' D σ H → t D σ H) : PS X e t' := ⟨fun pins s σ H D I q => h.run pins s σ H D I (m D σ H q)⟩
theorem PSs.mono {X : Cx} {e : List Stmt} {t t' : TS} (h : PSs X e t) (m : ∀ D σ H, t' D σ H → t D σ H) : PSs X e t' := ⟨fun pins s σ H D I q => h.run pins s σ H D I (m D σ H q)⟩
theorem PI.mono {X : Cx} {tg e : Expr} {t t' : TI} (h : PI X tg e t) (m : ∀ σ H R, t' σ H R → t σ H R) : PI X tg e t' := ⟨fun pins s σ H R I q => h.run pins s σ H R I (m σ H R q)⟩
/-- what is left behind a first part -/
theorem tG.bind {α β γ δ : Type} {c : Ct} {W : WX} {R : Gh → Hp → α → β → Prop} {R' : Gh → Hp → γ → δ → Prop} {f : VSt → VH → Res α} {k : α → VSt → VH → Res γ} {σ : St} {H : Hp} {Q : δ → Hp → Prop}
    (h : tG c W R' (fun ρ h => (f ρ h).bind fun v h1 => k v ρ h1) σ H Q) :
    tG c W R f σ H (fun u H1 => ∃ g1 ρ v h1, RH c g1 h1 H1 ∧ RS c g1 H1 ρ σ ∧ R g1 H1 v u ∧ Pst c W σ R' g1 H1 Q (k v ρ h1)) := by
  obtain ⟨g, ρ, h0, rh, rs, p⟩ := h
  refine ⟨g, ρ, h0, rh, rs, (Pst.bind (R := R) p).imp fun u H1 ⟨g1, v, h1, st, r1, rv, p1⟩ => ⟨g1, ρ, v, h1, r1, rs.stp st, rv, p1⟩⟩
end J
namespace J
open PySem L2
/-! semantic functions -/
abbrev SZ : Nat := 16777216
theorem SZ_le {n : Nat} (h : n ≤ SZ) : n ≤ sizeLine := by rw [sizeLine_eq]; exact h
theorem SZ_lt {n : Nat} (h : n < SZ) : n < sizeLine := by rw [sizeLine_eq]; exact h
def eVar (i : Nat) : EF := fun ρ h => match ρ[i]? with
  | some (some v) => .ok v h
  | _ => .no
def eC (v : VV) : EF := fun _ h => .ok v h
/-- an operation on values that makes no root and changes none -/
abbrev Op2 := VH → VV → VV → Option VV
abbrev Op1 := VH → VV → Option VV
abbrev OpN := VH → List VV → Option VV
def lift (o : Option VV) (h : VH) : Res VV := match o with
  | some v => .ok v h
  | none => .no
def eBin (op : Op2) (a b : EF) : EF := fun ρ h => (a ρ h).bind fun v h1 => (b ρ h1).bind fun w h2 => lift (op h2 v w) h2
def eUn (op : Op1) (a : EF) : EF := fun ρ h => (a ρ h).bind fun v h1 => lift (op h1 v) h1
def eCall (op : OpN) (a : AF) : EF := fun ρ h => (a ρ h).bind fun v h1 => lift (op h1 v) h1
def aNil : AF := fun _ h => .ok [] h
def aCons (a : EF) (b : AF) : AF := fun ρ h => (a ρ h).bind fun v h1 => (b ρ h1).bind fun w h2 => .ok (v :: w) h2
/-- what a rule on values must take: the operation's answer, new or old data -/
def Rd2 (c : Ct) (op : Op2) : R2 := fun x y H Q => ∃ g h v w r, RH c g h H ∧ RT c g H v x ∧ RT c g H w y ∧ op h v w = some r ∧ ∀ g' H' u, Stp g H g' H' → RH c g' h H' → RT c g' H' r u → Q u H'
def Rd1 (c : Ct) (op : Op1) : V → Hp → VK → Prop := fun x H Q => ∃ g h v r, RH c g h H ∧ RT c g H v x ∧ op h v = some r ∧ ∀ g' H' u, Stp g H g' H' → RH c g' h H' → RT c g' H' r u → Q u H'
def RdN (c : Ct) (op : OpN) : List V → Hp → VK → Prop := fun xs H Q => ∃ g h vs r, RH c g h H ∧ RTs c g H vs xs ∧ op h vs = some r ∧ ∀ g' H' u, Stp g H g' H' → RH c g' h H' → RT c g' H' r u → Q u H'
theorem OpR.imp {X : Cx} {f : Value → Value → Sem Value} {r r' : R2} (h : OpR X f r) (m : ∀ x y H Q, r' x y H Q → r x y H Q) : OpR X f r' :=
  fun pins s σ H x y v u Q I a b q => h pins s σ H x y v u Q I a b (m x y H Q q)
theorem IxR.imp {X : Cx} {r r' : R2} (h : IxR X r) (m : ∀ x y H Q, r' x y H Q → r x y H Q) : IxR X r' := by
  unfold IxR at h ⊢
  intros
  apply h <;> first | assumption | (apply m; assumption)
theorem UnR.imp {X : Cx} {f : Value → Sem Value} {r r' : V → Hp → VK → Prop} (h : UnR X f r) (m : ∀ x H Q, r' x H Q → r x H Q) : UnR X f r' :=
  fun pins s σ H x v Q I a q => h pins s σ H x v Q I a (m x H Q q)
theorem CallR.imp {X : Cx} {f : Value} {r r' : List V → Hp → VK → Prop} (h : CallR X f r) (m : ∀ x H Q, r' x H Q → r x H Q) : CallR X f r' :=
  fun pins s σ H x v Q I a q => h pins s σ H x v Q I a (m x H Q q)
section
variable {X : Cx} {W : WX}
theorem j_var (i : Nat) {x : Str} {pos : Pos} (h : PE X (.Name x pos) (tVar i)) : PE X (.Name x pos) (tE (ct X) W (eVar i)) :=
  PE.mono h fun σ H Q ⟨g, ρ, hh, rh, rs, p⟩ => by
    unfold eVar at p
    split at p
    · rename_i v e
      obtain ⟨u, a, b⟩ := rs.get i v e
      exact ⟨u, a, p g H u .refl rh b⟩
    · exact p.elim
theorem j_c {e : Expr} {v : VV} {u : V} (h : PE X e (tC u)) (r : ∀ g H, RT (ct X) g H v u) : PE X e (tE (ct X) W (eC v)) :=
  PE.mono h fun σ H Q ⟨g, ρ, hh, rh, rs, p⟩ => p g H u .refl rh (r g H)
theorem rt_int {c : Ct} {g : Gh} {H : Hp} {i : Int} : RT c g H (.int i) (.int i) := by show RV _ _ _ _ _; rw [RV]
theorem rt_bl {c : Ct} {g : Gh} {H : Hp} {i : Bool} : RT c g H (.bl i) (.bl i) := by show RV _ _ _ _ _; rw [RV]
theorem rt_str {c : Ct} {g : Gh} {H : Hp} {i : Str} : RT c g H (.str i) (.str i) := by show RV _ _ _ _ _; rw [RV]
theorem rt_non {c : Ct} {g : Gh} {H : Hp} : RT c g H .non .non := by show RV _ _ _ _ _; rw [RV]
theorem j_int {i j pos} : PE X (.Constant (.int i) j pos) (tE (ct X) W (eC (.int i))) := j_c pe_int fun _ _ => rt_int
theorem j_bl {i j pos} : PE X (.Constant (.bool i) j pos) (tE (ct X) W (eC (.bl i))) := j_c pe_bl fun _ _ => rt_bl
theorem j_str {i j pos} : PE X (.Constant (.str i) j pos) (tE (ct X) W (eC (.str i))) := j_c pe_str fun _ _ => rt_str
/-- from a bind to a continuation -/
theorem tOp_of {r : R2} {op : Op2} {fa fb : EF} (m : ∀ x y H Q, Rd2 (ct X) op x y H Q → r x y H Q) {σ : St} {H : Hp} {Q : VK} (h : tE (ct X) W (eBin op fa fb) σ H Q) :
    tOp r (tE (ct X) W fa) (tE (ct X) W fb) σ H Q := by
  have h1 := tG.bind (R := RT (ct X)) (f := fa) (k := fun v ρ h1 => (fb ρ h1).bind fun w h2 => lift (op h2 v w) h2) h
  obtain ⟨g, ρ, h0, rh, rs, p⟩ := h1
  refine ⟨g, ρ, h0, rh, rs, p.imp fun u H1 ⟨g1, ρ1, v, h1, rh1, rs1, rv1, p1⟩ => ?_⟩
  refine ⟨g1, ρ1, h1, rh1, rs1, (Pst.bind (R := RT (ct X)) p1).imp fun u2 H2 ⟨g2, w, h2, st, rh2, rv2, p2⟩ => ?_⟩
  refine m _ _ _ _ ?_
  unfold lift at p2
  split at p2
  · rename_i r e
    exact ⟨g2, h2, v, w, r, rh2, rv1.stp st, rv2, e, p2⟩
  · exact p2.elim
theorem j_bin {op : Op2} {o : Operator} {a b : Expr} {fa fb : EF} {pos : Pos} (ho : OpR X (binaryOp o) (Rd2 (ct X) op)) (ha : PE X a (tE (ct X) W fa)) (hb : PE X b (tE (ct X) W fb)) : PE X (.BinOp a o b pos) (tE (ct X) W (eBin op fa fb)) :=
  PE.mono (pe_op ho ha hb) fun σ H Q h => tOp_of (fun _ _ _ _ q => q) h
theorem j_ix {op : Op2} {a b : Expr} {fa fb : EF} {pos : Pos} (ho : IxR X (Rd2 (ct X) op)) (ha : PE X a (tE (ct X) W fa)) (hb : PE X b (tE (ct X) W fb)) (hs : PlainIx b) : PE X (.Subscript a b pos) (tE (ct X) W (eBin op fa fb)) :=
  PE.mono (pe_ix ho ha hb hs) fun σ H Q h => tOp_of (fun _ _ _ _ q => q) h
theorem j_cmp {op : Op2} {o : CmpOp} {a b : Expr} {fa fb : EF} {pos : Pos} (ho : OpR X (compareOp o) (Rd2 (ct X) op)) (ha : PE X a (tE (ct X) W fa)) (hb : PE X b (tE (ct X) W fb)) (hm : behindInMarks o b = false) : PE X (.Compare a [o] [b] pos) (tE (ct X) W (eBin op fa fb)) :=
  PE.mono (pe_cmpR ho ha hb hm) fun σ H Q h => tOp_of (fun _ _ _ _ q => q) h
theorem j_un {op : Op1} {o : UnaryOp} {a : Expr} {fa : EF} {pos : Pos} (ho : UnR X (unaryOp o) (Rd1 (ct X) op)) (ha : PE X a (tE (ct X) W fa)) : PE X (.UnaryOp o a pos) (tE (ct X) W (eUn op fa)) :=
  PE.mono (pe_un ho ha) fun σ H Q h => by
    obtain ⟨g, ρ, h0, rh, rs, p⟩ := tG.bind (R := RT (ct X)) (f := fa) (k := fun v ρ h1 => lift (op h1 v) h1) h
    refine ⟨g, ρ, h0, rh, rs, p.imp fun u H1 ⟨g1, ρ1, v, h1, rh1, rs1, rv1, p1⟩ => ?_⟩
    unfold lift at p1
    split at p1
    · rename_i r e
      exact ⟨g1, h1, v, r, rh1, rv1, e, p1⟩
    · exact p1.elim
/-! arguments -/
theorem ja_nil : PA X [] (tA (ct X) W aNil) := PA.mono pa_nil fun σ H Q ⟨g, ρ, h0, rh, rs, p⟩ => p g H [] .refl rh rfl
theorem ja_cons {e : Expr} {es : List Expr} {fa : EF} {fb : AF} (ha : PE X e (tE (ct X) W fa)) (hr : PA X es (tA (ct X) W fb)) (hs : starEach (e :: es) X.env = (false, eval e X.env) :: starEach es X.env := by rfl) : PA X (e :: es) (tA (ct X) W (aCons fa fb)) :=
  PA.mono (pa_cons ha hr hs) fun σ H Q h => by
    obtain ⟨g, ρ, h0, rh, rs, p⟩ := tG.bind (R := RT (ct X)) (f := fa) (k := fun v ρ h1 => (fb ρ h1).bind fun w h2 => .ok (v :: w) h2) h
    refine ⟨g, ρ, h0, rh, rs, p.imp fun u H1 ⟨g1, ρ1, v, h1, rh1, rs1, rv1, p1⟩ => ?_⟩
    refine ⟨g1, ρ1, h1, rh1, rs1, (Pst.bind (R := RTs (ct X)) p1).imp fun u2 H2 ⟨g2, w, h2, st, rh2, rv2, p2⟩ => ?_⟩
    exact p2 g2 H2 (u :: u2) .refl rh2 ⟨u, u2, rfl, rv1.stp st, rv2⟩
theorem tCB_of {r : List V → Hp → VK → Prop} {op : OpN} {fa : AF} (m : ∀ x H Q, RdN (ct X) op x H Q → r x H Q) {σ : St} {H : Hp} {Q : VK} (h : tE (ct X) W (eCall op fa) σ H Q) : tCB r (tA (ct X) W fa) σ H Q := by
  obtain ⟨g, ρ, h0, rh, rs, p⟩ := tG.bind (R := RTs (ct X)) (f := fa) (k := fun v ρ h1 => lift (op h1 v) h1) h
  refine ⟨g, ρ, h0, rh, rs, p.imp fun u H1 ⟨g1, ρ1, v, h1, rh1, rs1, rv1, p1⟩ => ?_⟩
  unfold lift at p1
  split at p1
  · rename_i r e
    exact m _ _ _ ⟨g1, h1, v, r, rh1, rv1, e, p1⟩
  · exact p1.elim
theorem j_callB {x : Str} {p pos : Pos} {id : String} {op : OpN} {e : Expr} {es : List Expr} {fa : AF} (hc : CallR X (.builtin id) (RdN (ct X) op)) (hg : Gl X x) (hm : X.mg x = none) (hv : bootBuiltins x = some (.builtin id)) (ha : PA X (e :: es) (tA (ct X) W fa)) (hn : x ≠ "__name__" := by decide) (hdb : (x == ("__debug__" : Str)) = false := by decide)
    (he : starEach (e :: es) X.env = (false, eval e X.env) :: starEach es X.env := by rfl) (hpl : (backTo pos (starEach es X.env)).any (·.1) = false := by rfl) : PE X (.Call (.Name x p) (e :: es) [] pos) (tE (ct X) W (eCall op fa)) :=
  PE.mono (pe_callB hc hg hm hv ha hn hdb he hpl) fun σ H Q h => tCB_of (fun _ _ _ q => q) h
theorem j_callTy {x : Str} {p pos : Pos} {T : String} {op : OpN} {e : Expr} {es : List Expr} {fa : AF} (hc : CallR X (.type T) (RdN (ct X) op)) (hg : Gl X x) (hm : X.mg x = none) (hv : bootBuiltins x = some (.type T)) (ha : PA X (e :: es) (tA (ct X) W fa)) (hn : x ≠ "__name__" := by decide) (hdb : (x == ("__debug__" : Str)) = false := by decide)
    (he : starEach (e :: es) X.env = (false, eval e X.env) :: starEach es X.env := by rfl) (hpl : (backTo pos (starEach es X.env)).any (·.1) = false := by rfl) : PE X (.Call (.Name x p) (e :: es) [] pos) (tE (ct X) W (eCall op fa)) :=
  PE.mono (pe_callTy hc hg hm hv ha hn hdb he hpl) fun σ H Q h => tCB_of (fun _ _ _ q => q) h
/-! displays -/
def eTup (a : AF) : EF := fun ρ h => (a ρ h).bind fun vs h1 => if vs.any VV.isObj = true ∨ vs.length > SZ then .no else .ok (.tup vs) h1
def eLst (a : AF) : EF := fun ρ h => (a ρ h).bind fun vs h1 => if vs.any VV.isObj = true ∨ vs.length > SZ then .no else .ok (.lst vs) h1
/-- a display whose list is a root -/
def eLstO (a : AF) : EF := fun ρ h => (a ρ h).bind fun vs h1 => if vs.any VV.isObj = true ∨ vs.length > SZ then .no else .ok (.obj h1.length) (h1 ++ [.fl vs])
theorem j_tup {es : List Expr} {fa : AF} {x1} {pos : Pos} (ha : PA X es (tA (ct X) W fa)) : PE X (.Tuple es x1 pos) (tE (ct X) W (eTup fa)) :=
  PE.mono (pe_tup ha) fun σ H Q h => by
    obtain ⟨g, ρ, h0, rh, rs, p⟩ := tG.bind (R := RTs (ct X)) (f := fa) (k := fun (vs : List VV) ρ h1 => if vs.any VV.isObj = true ∨ vs.length > SZ then .no else .ok (VV.tup vs) h1) h
    refine ⟨g, ρ, h0, rh, rs, p.imp fun u H1 ⟨g1, ρ1, v, h1, rh1, rs1, rv1, p1⟩ => ?_⟩
    by_cases c : v.any VV.isObj = true ∨ v.length > SZ
    · rw [if_pos c] at p1; exact p1.elim
    · rw [if_neg c] at p1
      rw [not_or, Bool.not_eq_true] at c
      refine ⟨by rw [← rv1.len]; exact SZ_le (by omega), fun p hp => p1 (g1.frz p) (upd H1 p (.tup u)) (.ref p) (.new rh1 hp) (rh1.new hp) ?_⟩
      show RV _ _ _ _ _
      rw [RV]
      exact ⟨p, u, rfl, upd_same, (Stp.new rh1 hp).rvs (rv1.rvs c.1)⟩
theorem j_lst {es : List Expr} {fa : AF} {pos : Pos} (ha : PA X es (tA (ct X) W fa)) : PE X (.List es pos) (tE (ct X) W (eLst fa)) :=
  PE.mono (pe_lst ha) fun σ H Q h => by
    obtain ⟨g, ρ, h0, rh, rs, p⟩ := tG.bind (R := RTs (ct X)) (f := fa) (k := fun (vs : List VV) ρ h1 => if vs.any VV.isObj = true ∨ vs.length > SZ then .no else .ok (VV.lst vs) h1) h
    refine ⟨g, ρ, h0, rh, rs, p.imp fun u H1 ⟨g1, ρ1, v, h1, rh1, rs1, rv1, p1⟩ => ?_⟩
    by_cases c : v.any VV.isObj = true ∨ v.length > SZ
    · rw [if_pos c] at p1; exact p1.elim
    · rw [if_neg c] at p1
      rw [not_or, Bool.not_eq_true] at c
      refine ⟨by rw [← rv1.len]; exact SZ_le (by omega), fun p hp => p1 (g1.frz p) (upd H1 p (.lst u)) (.ref p) (.new rh1 hp) (rh1.new hp) ?_⟩
      show RV _ _ _ _ _
      rw [RV]
      exact ⟨p, u, rfl, .inr rfl, upd_same, (Stp.new rh1 hp).rvs (rv1.rvs c.1)⟩
/-- a new list of data that nobody holds becomes a root -/
theorem root_new {c : Ct} {g : Gh} {h : VH} {H : Hp} {p : Addr} {vs : List VV} {us : List V} (rh : RH c g h H) (hp : H p = none) (rv : RVs c g.fz H vs us) :
    Stp g H (g.add p) (upd H p (.lst us)) ∧ RH c (g.add p) (h ++ [.fl vs]) (upd H p (.lst us)) ∧ RT c (g.add p) (upd H p (.lst us)) (.obj h.length) (.ref p) := by
  have st : Stp g H g (upd H p (.lst us)) := .junk rh hp
  have rh1 : RH c g h (upd H p (.lst us)) := rh.junk hp
  have np : p ∉ g.io := fun z => by
    obtain ⟨o, e⟩ := rh.root z
    rw [hp] at e; cases e
  refine ⟨st.trans .add, rh1.add np (fun z => ?_) ⟨fun z => ?_, us, upd_same, st.rvs rv⟩, p, ?_, rfl⟩
  · obtain ⟨o, e⟩ := rh.kp p z
    rw [hp] at e; cases e
  · obtain ⟨o, e⟩ := rh.fz p z
    rw [hp] at e; cases e
  · show (g.io ++ [p])[h.length]? = some p
    rw [← rh.len, List.getElem?_append_right (Nat.le_refl _), Nat.sub_self]; rfl
theorem j_lstO {es : List Expr} {fa : AF} {pos : Pos} (ha : PA X es (tA (ct X) W fa)) : PE X (.List es pos) (tE (ct X) W (eLstO fa)) :=
  PE.mono (pe_lst ha) fun σ H Q h => by
    obtain ⟨g, ρ, h0, rh, rs, p⟩ := tG.bind (R := RTs (ct X)) (f := fa) (k := fun (vs : List VV) ρ h1 => if vs.any VV.isObj = true ∨ vs.length > SZ then .no else .ok (VV.obj h1.length) (h1 ++ [.fl vs])) h
    refine ⟨g, ρ, h0, rh, rs, p.imp fun u H1 ⟨g1, ρ1, v, h1, rh1, rs1, rv1, p1⟩ => ?_⟩
    by_cases c : v.any VV.isObj = true ∨ v.length > SZ
    · rw [if_pos c] at p1; exact p1.elim
    · rw [if_neg c] at p1
      rw [not_or, Bool.not_eq_true] at c
      refine ⟨by rw [← rv1.len]; exact SZ_le (by omega), fun p hp => ?_⟩
      obtain ⟨a, b, d⟩ := root_new rh1 hp (rv1.rvs c.1)
      exact p1 _ _ _ a b d
/-! tests -/
def tVal (a : EF) : TF := fun ρ h => (a ρ h).bind fun v h1 => match v with
  | .bl b => .ok b h1
  | _ => .no
def tAnd (a b : TF) : TF := fun ρ h => (a ρ h).bind fun v h1 => if v = true then b ρ h1 else .ok false h1
def tOr (a b : TF) : TF := fun ρ h => (a ρ h).bind fun v h1 => if v = true then .ok true h1 else b ρ h1
def tNot (a : TF) : TF := fun ρ h => (a ρ h).bind fun v h1 => .ok (!v) h1
theorem tVal_of {a : EF} {σ : St} {H : Hp} {Q : Bool → Hp → Prop} (h : tT (ct X) W (tVal a) σ H Q) : tE (ct X) W a σ H (fun x H1 => ∃ k, x = .bl k ∧ Q k H1) := by
  obtain ⟨g, ρ, h0, rh, rs, p⟩ := tG.bind (R := RT (ct X)) (f := a) (k := fun v ρ h1 => match v with
    | .bl b => .ok b h1
    | _ => .no) h
  refine ⟨g, ρ, h0, rh, rs, p.imp fun u H1 ⟨g1, ρ1, v, h1, rh1, rs1, rv1, p1⟩ => ?_⟩
  cases v with
  | bl b =>
    have e : u = .bl b := by have := rv1.rv rfl; rw [RV] at this; exact this
    exact ⟨b, e, p1 g1 H1 b .refl rh1 rfl⟩
  | _ => exact p1.elim
theorem jt_val {e : Expr} {fa : EF} (h : PE X e (tE (ct X) W fa)) (he : ∀ whole, isTrue e X.env whole = (do let v ← whole; standAt e.pos; holding [v] (truthy v)) := by intro _; rfl) : PT X e (tT (ct X) W (tVal fa)) :=
  PT.mono (pt_val h he) fun σ H Q q => tVal_of q
theorem jt_cmp {op : Op2} {o : CmpOp} {a b : Expr} {fa fb : EF} {pos : Pos} (ho : OpR X (compareOp o) (Rd2 (ct X) op)) (ha : PE X a (tE (ct X) W fa)) (hb : PE X b (tE (ct X) W fb)) (hm : behindInMarks o b = false) : PT X (.Compare a [o] [b] pos) (tT (ct X) W (tVal (eBin op fa fb))) :=
  PT.mono (pt_cmpR ho ha hb hm) fun σ H Q q => tOp_of (fun _ _ _ _ q => q) (tVal_of q)
theorem jw_or1 {a : Expr} {fa : TF} {pos : Pos} (ha : PT X a (tT (ct X) W fa)) : PW X (.BoolOp .Or [a] pos) (tT (ct X) W fa) := pw_or1 ha
theorem jw_or {a b : Expr} {rest : List Expr} {fa fb : TF} {pos : Pos} (ha : PT X a (tT (ct X) W fa)) (hb : PW X (.BoolOp .Or (b :: rest) pos) (tT (ct X) W fb)) : PW X (.BoolOp .Or (a :: b :: rest) pos) (tT (ct X) W (tOr fa fb)) :=
  PW.mono (pw_or ha hb) fun σ H Q h => by
    obtain ⟨g, ρ, h0, rh, rs, p⟩ := tG.bind (R := RB) (f := fa) (k := fun v ρ h1 => if v = true then .ok true h1 else fb ρ h1) h
    refine ⟨g, ρ, h0, rh, rs, p.imp fun u H1 ⟨g1, ρ1, v, h1, rh1, rs1, rv1, p1⟩ => ?_⟩
    cases rv1
    cases u with
    | true => rw [if_pos rfl] at p1 ⊢; exact p1 g1 H1 true .refl rh1 rfl
    | false => rw [if_neg Bool.false_ne_true] at p1 ⊢; exact ⟨g1, ρ1, h1, rh1, rs1, p1⟩
theorem jt_not {a : Expr} {fa : TF} {pos : Pos} (ha : PT X a (tT (ct X) W fa)) : PT X (.UnaryOp .Not a pos) (tT (ct X) W (tNot fa)) :=
  PT.mono (pt_not ha) fun σ H Q h => by
    obtain ⟨g, ρ, h0, rh, rs, p⟩ := tG.bind (R := RB) (f := fa) (k := fun v ρ h1 => .ok (!v) h1) h
    refine ⟨g, ρ, h0, rh, rs, p.imp fun u H1 ⟨g1, ρ1, v, h1, rh1, rs1, rv1, p1⟩ => ?_⟩
    cases rv1
    exact p1 g1 H1 _ .refl rh1 rfl
def eIf (c : TF) (a b : EF) : EF := fun ρ h => (c ρ h).bind fun v h1 => if v = true then a ρ h1 else b ρ h1
/-- and, or, not of truth values -/
def eAnd (a b : EF) : EF := fun ρ h => (a ρ h).bind fun v h1 => match v with
  | .bl true => b ρ h1
  | .bl false => .ok (.bl false) h1
  | _ => .no
def eOr (a b : EF) : EF := fun ρ h => (a ρ h).bind fun v h1 => match v with
  | .bl true => .ok (.bl true) h1
  | .bl false => b ρ h1
  | _ => .no
def eNot (a : EF) : EF := fun ρ h => (a ρ h).bind fun v h1 => match v with
  | .bl b => .ok (.bl (!b)) h1
  | _ => .no
theorem j_one {op} {a : Expr} {f : EF} {pos : Pos} (h : PE X a (tE (ct X) W f)) : PE X (.BoolOp op [a] pos) (tE (ct X) W f) := pe_one h
theorem j_and {a b : Expr} {rest : List Expr} {fa fb : EF} {pos : Pos} (ha : PE X a (tE (ct X) W fa)) (hb : PE X (.BoolOp .And (b :: rest) pos) (tE (ct X) W fb)) : PE X (.BoolOp .And (a :: b :: rest) pos) (tE (ct X) W (eAnd fa fb)) :=
  PE.mono (pe_and ha hb) fun σ H Q h => by
    obtain ⟨g, ρ, h0, rh, rs, p⟩ := tG.bind (R := RT (ct X)) (f := fa) (k := fun v ρ h1 => match v with
      | .bl true => fb ρ h1
      | .bl false => .ok (.bl false) h1
      | _ => .no) h
    refine ⟨g, ρ, h0, rh, rs, p.imp fun u H1 ⟨g1, ρ1, v, h1, rh1, rs1, rv1, p1⟩ => ?_⟩
    cases v with
    | bl b =>
      have e : u = .bl b := by have := rv1.rv rfl; rw [RV] at this; exact this
      refine ⟨b, e, ?_⟩
      cases b with
      | true => rw [if_pos rfl]; exact ⟨g1, ρ1, h1, rh1, rs1, p1⟩
      | false => rw [if_neg Bool.false_ne_true]; exact p1 g1 H1 _ .refl rh1 rt_bl
    | _ => exact p1.elim
/-- a op b op' c -/
def eChain (o o' : Op2) (a b c : EF) : EF := fun ρ h => (a ρ h).bind fun v h1 => (b ρ h1).bind fun w h2 => (lift (o h2 v w) h2).bind fun k h3 => match k with
  | .bl true => (c ρ h3).bind fun z h4 => lift (o' h4 w z) h4
  | .bl false => .ok (.bl false) h3
  | _ => .no
theorem tChain_of {o o' : Op2} {a b c : EF} {σ : St} {H : Hp} {Q : VK} (h : tE (ct X) W (eChain o o' a b c) σ H Q) :
    tChain (Rd2 (ct X) o) (Rd2 (ct X) o') (tE (ct X) W a) (tE (ct X) W b) (tE (ct X) W c) σ H Q := by
  obtain ⟨g, ρ, h0, rh, rs, p⟩ := tG.bind (R := RT (ct X)) (f := a) (k := fun v ρ h1 => (b ρ h1).bind fun w h2 => (lift (o h2 v w) h2).bind fun k h3 => match k with
    | .bl true => (c ρ h3).bind fun z h4 => lift (o' h4 w z) h4
    | .bl false => .ok (.bl false) h3
    | _ => .no) h
  refine ⟨g, ρ, h0, rh, rs, p.imp fun u H1 ⟨g1, ρ1, v, h1, rh1, rs1, rv1, p1⟩ => ?_⟩
  refine ⟨g1, ρ1, h1, rh1, rs1, (Pst.bind (R := RT (ct X)) p1).imp fun u2 H2 ⟨g2, w, h2, st, rh2, rv2, p2⟩ => ?_⟩
  unfold lift at p2
  cases e : o h2 v w with
  | none => rw [e] at p2; exact p2.elim
  | some k =>
    rw [e] at p2
    refine ⟨g2, h2, v, w, k, rh2, rv1.stp st, rv2, e, fun g3 H3 u3 st3 rh3 rv3 => ?_⟩
    cases k with
    | bl bb =>
      have e3 : u3 = .bl bb := by have := rv3.rv rfl; rw [RV] at this; exact this
      refine ⟨bb, e3, ?_⟩
      cases bb with
      | true =>
        rw [if_pos rfl]
        have p3 : Pst (ct X) W σ (RT (ct X)) g2 H2 Q ((c ρ1 h2).bind fun z h4 => lift (o' h4 w z) h4) := p2
        refine ⟨g3, ρ1, h2, rh3, (rs1.stp st).stp st3, (Pst.bind (R := RT (ct X)) (Pst.step st3 p3)).imp fun u4 H4 ⟨g4, z, h4, st4, rh4, rv4, p4⟩ => ?_⟩
        cases e4 : o' h4 w z with
        | none => rw [e4] at p4; exact p4.elim
        | some r =>
          rw [e4] at p4
          exact ⟨g4, h4, w, z, r, rh4, (rv2.stp st3).stp st4, rv4, e4, p4⟩
      | false => rw [if_neg Bool.false_ne_true]; exact p2 g3 H3 _ st3 rh3 rt_bl
    | _ => exact p2.elim
theorem j_chain {o o' : Op2} {op op' : CmpOp} {a b c : Expr} {fa fb fc : EF} {pos : Pos} (ho : OpR X (compareOp op) (Rd2 (ct X) o)) (ho' : OpR X (compareOp op') (Rd2 (ct X) o')) (ha : PE X a (tE (ct X) W fa)) (hb : PE X b (tE (ct X) W fb)) (hc : PE X c (tE (ct X) W fc))
    (hm : lastMarks [op, op'] [b, c] = false := by with_unfolding_all rfl) : PE X (.Compare a [op, op'] [b, c] pos) (tE (ct X) W (eChain o o' fa fb fc)) :=
  PE.mono (pe_chain ho ho' ha hb hc hm) fun σ H Q h => tChain_of h
end
end J
namespace J
open PySem L2
open PyProof.Rows (envOfC)
/-! what is walked -/
/-- what is frozen stands -/
structure Fst (g : Gh) (H : Hp) (g' : Gh) (H' : Hp) : Prop where
  fz : ∀ p, g.fz p → g'.fz p
  fH : ∀ p, g.fz p → Ke (H p) (H' p)
  tp : ∀ p us, H p = some (.tup us) → H' p = some (.tup us)
theorem Stp.f {g g' : Gh} {H H' : Hp} (s : Stp g H g' H') : Fst g H g' H' := ⟨s.fz, s.fH, s.tp⟩
theorem Fst.rv {c : Ct} {g g' : Gh} {H H' : Hp} (s : Fst g H g' H') {v : VV} {u : V} (h : RV c g.fz H v u) : RV c g'.fz H' v u := RV.stp s.fz s.fH s.tp _ _ h
theorem Fst.trans {g g1 g2 : Gh} {H H1 H2 : Hp} (a : Fst g H g1 H1) (b : Fst g1 H1 g2 H2) : Fst g H g2 H2 := ⟨fun p h => b.fz p (a.fz p h), fun p h => (a.fH p h).trans (b.fH p (a.fz p h)), fun p us h => b.tp p us (a.tp p us h)⟩
structure Deliv (c : Ct) (g0 : Gh) (H0 : Hp) (items : List VV) (J : It) : Prop where
  go : ∀ g H, Fst g0 H0 g H → ∀ (i : Nat), i < items.length → J.go i H
  stop : ∀ g H, Fst g0 H0 g H → ∀ (i : Nat), items.length ≤ i → J.stop i H
  yld : ∀ g H, Fst g0 H0 g H → ∀ (i : Nat) (x : VV) (h : VH), items[i]? = some x → RH c g h H → ∀ u H', J.yld i H u H' → ∃ g', Stp g H g' H' ∧ RH c g' h H' ∧ RT c g' H' x u
abbrev tI (c : Ct) (W : WX) (f : AF) : TI := tG c W (fun g H xs J => Deliv c g H xs J) f
theorem PI.or {X : Cx} {tg e : Expr} {t t' : TI} (a : PI X tg e t) (b : PI X tg e t') : PI X tg e (fun σ H R => t σ H R ∨ t' σ H R) := ⟨fun pins s σ H R I q => q.elim (a.run pins s σ H R I) (b.run pins s σ H R I)⟩
/-! targets -/
structure PatOk (K : PySem.W.Frag) (t : TG) (b : VV → VSt → Option VSt) (own : List Nat) : Prop where
  run : ∀ (c : Ct) (g : Gh) (h : VH) (H : Hp) (ρ : VSt) (σ : St) (v : VV) (u : V) (ρ' : VSt), c.K = K → RH c g h H → RS c g H ρ σ → RT c g H v u → b v ρ = some ρ' →
    ∀ Q : St → Hp → Prop, (∀ σ', RS c g H ρ' σ' → (∀ i, i ∉ own → σ'[i]? = σ[i]?) → σ'.length = σ.length → Q σ' H) → t u σ H Q
structure PatsOk (K : PySem.W.Frag) (t : TGs) (b : List VV → VSt → Option VSt) (own : List Nat) : Prop where
  run : ∀ (c : Ct) (g : Gh) (h : VH) (H : Hp) (ρ : VSt) (σ : St) (v : List VV) (u : List V) (ρ' : VSt), c.K = K → RH c g h H → RS c g H ρ σ → RTs c g H v u → b v ρ = some ρ' →
    ∀ Q : St → Hp → Prop, (∀ σ', RS c g H ρ' σ' → (∀ i, i ∉ own → σ'[i]? = σ[i]?) → σ'.length = σ.length → Q σ' H) → t u σ H Q
def bNm (i : Nat) : VV → VSt → Option VSt := fun v ρ => some (ρ.set i (some v))
def bNil : List VV → VSt → Option VSt := fun vs ρ => match vs with
  | [] => some ρ
  | _ => none
def bCons (a : VV → VSt → Option VSt) (r : List VV → VSt → Option VSt) : List VV → VSt → Option VSt := fun vs ρ => match vs with
  | v :: vs => (a v ρ).bind fun ρ' => r vs ρ'
  | [] => none
def bTup (n : Nat) (r : List VV → VSt → Option VSt) : VV → VSt → Option VSt := fun v ρ => match v with
  | .tup xs => if xs.length = n then r xs ρ else none
  | _ => none
theorem RS.set {c : Ct} {g : Gh} {H : Hp} {ρ : VSt} {σ : St} {v : VV} {u : V} (rs : RS c g H ρ σ) (rv : RT c g H v u) (i : Nat) : RS c g H (ρ.set i (some v)) (σ.set i (some u)) := by
  refine ⟨by rw [List.length_set, List.length_set]; exact rs.len, fun j w e => ?_⟩
  by_cases ij : i = j
  · subst ij
    have hl : i < ρ.length := by have := (List.getElem?_eq_some_iff.mp e).1; simpa using this
    rw [List.getElem?_set_self hl] at e
    cases e
    exact ⟨u, List.getElem?_set_self (by rw [← rs.len]; exact hl), rv⟩
  · rw [List.getElem?_set_ne ij] at e
    rw [List.getElem?_set_ne ij]
    exact rs.get j w e
theorem pat_nm {K : PySem.W.Frag} (i : Nat) : PatOk K (gName i) (bNm i) [i] := ⟨fun c g h H ρ σ v u ρ' ek rh rs rv e Q k => by
  cases e
  refine k _ (rs.set rv i) (fun j hj => ?_) (by rw [List.length_set])
  exact List.getElem?_set_ne (fun z => hj (by rw [z]; exact List.mem_cons_self))⟩
theorem pats_nil {K : PySem.W.Frag} : PatsOk K gNil bNil [] := ⟨fun c g h H ρ σ v u ρ' ek rh rs rv e Q k => by
  cases v with
  | nil => cases e; exact ⟨rv, k _ rs (fun _ _ => rfl) rfl⟩
  | cons => cases e⟩
theorem pats_cons {K : PySem.W.Frag} {t : TG} {u : TGs} {a r l1 l2} (h1 : PatOk K t a l1) (h2 : PatsOk K u r l2) : PatsOk K (gCons t u) (bCons a r) (l1 ++ l2) := ⟨fun c g h H ρ σ v u ρ' ek rh rs rv e Q k => by
  cases v with
  | nil => cases e
  | cons x xs =>
    obtain ⟨y, ys, rfl, ra, rb⟩ := rv
    unfold bCons at e
    obtain ⟨ρ1, e1, e2⟩ := Option.bind_eq_some_iff.mp e
    refine ⟨y, ys, rfl, h1.run c g h H ρ σ x y ρ1 ek rh rs ra e1 _ fun σ1 rs1 o1 len1 => ?_⟩
    refine h2.run c g h H ρ1 σ1 xs ys ρ' ek rh rs1 rb e2 _ fun σ2 rs2 o2 len2 => ?_
    exact k σ2 rs2 (fun i hi => (o2 i (fun z => hi (List.mem_append_right _ z))).trans (o1 i (fun z => hi (List.mem_append_left _ z)))) (len2.trans len1)⟩
theorem pat_tup {K : PySem.W.Frag} {n : Nat} {u : TGs} {r l} (h : PatsOk K u r l) : PatOk K (gTup K n u) (bTup n r) l := ⟨fun c g hh H ρ σ v uu ρ' ek rh rs rv e Q k => by
  cases v with
  | tup xs =>
    unfold bTup at e
    have rv' := rv.rv rfl
    rw [RV] at rv'
    obtain ⟨p, us, eu, sq, rr⟩ := rv'
    simp only at e
    by_cases hn : xs.length = n
    · rw [if_pos hn] at e
      have sq' := sq.sq
      rw [ek] at sq'
      exact ⟨p, us, eu, sq', by rw [← rr.len]; exact hn, h.run c g hh H ρ σ xs us ρ' ek rh rs (RTs.of_rvs rr) e Q k⟩
    · rw [if_neg hn] at e; cases e
  | _ => cases e⟩
/-! comprehensions -/
def wp (ρ : VSt) : List Nat → VSt
  | [] => ρ
  | v :: vs => (wp ρ vs).set v none
theorem wp_length (ρ : VSt) : ∀ vs : List Nat, (wp ρ vs).length = ρ.length
  | [] => rfl
  | v :: vs => by unfold wp; rw [List.length_set, wp_length ρ vs]
theorem wp_some {ρ : VSt} {i : Nat} {x : VV} : ∀ {vs : List Nat}, (wp ρ vs)[i]? = some (some x) → ρ[i]? = some (some x) ∧ i ∉ vs
  | [], h => ⟨h, by simp⟩
  | v :: vs, h => by
    unfold wp at h
    by_cases hi : v = i
    · subst hi
      by_cases hv : v < (wp ρ vs).length
      · rw [List.getElem?_set_self hv] at h; cases h
      · rw [List.getElem?_eq_none (by simpa using hv)] at h; cases h
    · rw [List.getElem?_set_ne hi] at h
      obtain ⟨h1, h2⟩ := wp_some h
      exact ⟨h1, by simp only [List.mem_cons, not_or]; exact ⟨fun e => hi e.symm, h2⟩⟩
theorem RS.wipe {c : Ct} {g : Gh} {H : Hp} {ρ : VSt} {σ : St} (rs : RS c g H ρ σ) (vs : List Nat) : RS c g H (wp ρ vs) (wipe σ vs) := by
  refine ⟨by rw [wp_length, wipe_length]; exact rs.len, fun i v e => ?_⟩
  obtain ⟨a, b⟩ := wp_some e
  rw [wipe_out b]
  exact rs.get i v a
theorem wipe_at (σ : St) : ∀ (vs : List Nat) (i : Nat), i ∈ vs → (wipe σ vs)[i]? = if i < σ.length then some none else none
  | [], i, h => by simp at h
  | v :: vs, i, h => by
    unfold wipe
    by_cases e : v = i
    · subst e
      by_cases hl : v < σ.length
      · rw [List.getElem?_set_self (by rw [wipe_length]; exact hl), if_pos hl]
      · rw [List.getElem?_eq_none (by rw [List.length_set, wipe_length]; omega), if_neg hl]
    · rw [List.getElem?_set_ne e]
      exact wipe_at σ vs i (by rcases List.mem_cons.mp h with h | h; exact absurd h.symm e; exact h)
theorem wipe_same {σ σ2 : St} {vs : List Nat} (hl : σ2.length = σ.length) (h : ∀ i, i ∉ vs → σ2[i]? = σ[i]?) : wipe σ2 vs = wipe σ vs := by
  apply List.ext_getElem?
  intro i
  by_cases hi : i ∈ vs
  · rw [wipe_at σ2 vs i hi, wipe_at σ vs i hi, hl]
  · rw [wipe_out hi, wipe_out hi, h i hi]
def lcGo (b : VV → VSt → Option VSt) (t : TF) (e : EF) (ρ : VSt) : List VV → VH → Res (List VV)
  | [], h => .ok [] h
  | x :: xs, h => match b x ρ with
    | none => .no
    | some ρ' => (t ρ' h).bind fun k h1 => if k = true then (e ρ' h1).bind fun v h2 => if v.isObj = true then .no else (lcGo b t e ρ xs h2).bind fun vs h3 => .ok (v :: vs) h3 else lcGo b t e ρ xs h1
/-- [e for .. in .. if ..] as data -/
def eLc (own : List Nat) (it : AF) (b : VV → VSt → Option VSt) (t : TF) (e : EF) : EF := fun ρ h => (it ρ h).bind fun xs h1 => if xs.length > SZ then .no else match lcGo b t e (wp ρ own) xs h1 with
  | .ok vs h2 => .ok (.lst vs) h2
  | _ => .no
def eLcO (own : List Nat) (it : AF) (b : VV → VSt → Option VSt) (t : TF) (e : EF) : EF := fun ρ h => (it ρ h).bind fun xs h1 => if xs.length > SZ then .no else match lcGo b t e (wp ρ own) xs h1 with
  | .ok vs h2 => .ok (.obj h2.length) (h2 ++ [.fl vs])
  | _ => .no
def tTrue : TF := fun _ h => .ok true h
theorem Stp.back {g g' : Gh} {H H' : Hp} {D : Addr} (s : Stp (g.keep D) H g' H') : Stp g H (g'.back g.kp) H' := ⟨s.io, s.fz, fun _ h => h, s.fH, fun p h => s.kH p (.inl h), s.tp⟩
theorem RVs.gback {c : Ct} {g : Gh} {H : Hp} {k : Addr → Prop} {vs : List VV} {us : List V} (h : RVs c g.fz H vs us) : RVs c (g.back k).fz H vs us := h
/-- the loop of a comprehension, whatever is made of the new list -/
theorem lc_run {c : Ct} {W0 : WX} {Wx : WX} {own : List Nat} {b : VV → VSt → Option VSt} {ft : TF} {fe : EF} {tg : TG} {J : It} {xs : List VV} {ρ : VSt} {σ : St} {g : Gh} {h : VH} {H1 : Hp} {D : Addr} {Q : VK} {K : PySem.W.Frag}
    (hW : ∀ a d s h, W0 a d s h → False) (ek : c.K = K) (pat : PatOk K tg b own) (dl : Deliv c g H1 xs J) (hsz : xs.length ≤ SZ) (rh : RH c g h H1) (rs : RS c g H1 ρ σ) (hD : H1 D = none)
    (fin : match lcGo b ft fe (wp ρ own) xs h with
      | .ok vs h' => ∀ g' H' us, Stp g H1 g' H' → RH c g' h' H' → H' D = some (.lst us) → ¬ g'.fz D → D ∉ g'.io → ¬ g'.kp D → RVs c g'.fz H' vs us → Q (.ref D) H'
      | _ => False) :
    ∃ Wv : Nat → Nat → Hp → Prop, (∃ m, Wv 0 m (upd H1 D (.lst []))) ∧ ∀ i m H, Wv i m H →
      (J.stop i H ∧ Q (.ref D) H) ∨ (J.go i H ∧ ∃ Nx : Hp → Prop, (∀ H', Nx H' → ∃ m', m' < m ∧ Wv (i + 1) m' H') ∧ ∀ x H', J.yld i H x H' → tg x (wipe σ own) H' fun σ2 H2 => wipe σ2 own = wipe σ own ∧ tT c W0 ft σ2 H2 fun bb H3 =>
        if bb = true then tE c W0 fe σ2 H3 fun y H4 => ∃ acc, H4 D = some (.lst acc) ∧ acc.length < sizeLine ∧ Nx (upd H4 D (.lst (acc ++ [y]))) else Nx H3) := by
  -- the invariant
  let P : Nat → Hp → Prop := fun i H => ∃ (gi : Gh) (hi : VH) (acc : List VV) (us : List V), acc.length ≤ i ∧ Stp g H1 gi H ∧ RH c gi hi H ∧ H D = some (.lst us) ∧ ¬ gi.fz D ∧ D ∉ gi.io ∧ ¬ gi.kp D ∧ RVs c gi.fz H acc us ∧
    (match lcGo b ft fe (wp ρ own) (xs.drop i) hi with
      | .ok vs h' => ∀ g' H' us, Stp gi H g' H' → RH c g' h' H' → H' D = some (.lst us) → ¬ g'.fz D → D ∉ g'.io → ¬ g'.kp D → RVs c g'.fz H' (acc ++ vs) us → Q (.ref D) H'
      | _ => False)
  refine ⟨fun i m H => m = xs.length - i ∧ i ≤ xs.length ∧ P i H, ⟨xs.length, by simp, Nat.zero_le _, ?_⟩, ?_⟩
  · refine ⟨g, h, [], [], Nat.le_refl _, .junk rh hD, rh.junk hD, upd_same, fun z => ?_, fun z => ?_, fun z => ?_, RVs.nil, ?_⟩
    · obtain ⟨o, e⟩ := rh.fz D z; rw [hD] at e; cases e
    · obtain ⟨o, e⟩ := rh.root z; rw [hD] at e; cases e
    · obtain ⟨o, e⟩ := rh.kp D z; rw [hD] at e; cases e
    · rw [List.drop_zero]
      generalize lcGo b ft fe (wp ρ own) xs h = r at fin ⊢
      cases r with
      | ok vs h' =>
        intro g' H' us st
        rw [List.nil_append]
        exact fin g' H' us ((Stp.junk rh hD).trans st)
      | no => exact fin
      | exc _ _ _ _ => exact fin
  · rintro i m H ⟨rfl, hi, gi, hh, acc, us, hacc, st, rhi, hDl, nf, ni, nk, rvs, fin⟩
    by_cases hlt : i < xs.length
    · refine .inr ⟨dl.go gi H st.f i hlt, P (i + 1), fun H' p' => ⟨xs.length - (i + 1), by omega, rfl, hlt, p'⟩, fun x H' y => ?_⟩
      have ed : xs.drop i = xs[i] :: xs.drop (i + 1) := List.drop_eq_getElem_cons hlt
      have rhk : RH c (gi.keep D) hh H := rhi.keep hDl nf ni
      have stk : Stp g H1 (gi.keep D) H := st.trans .keep
      obtain ⟨g1, st1, rh1, rt1⟩ := dl.yld (gi.keep D) H stk.f i xs[i] hh (List.getElem?_eq_getElem hlt) rhk x H' y
      rw [ed] at fin
      unfold lcGo at fin
      cases e : b xs[i] (wp ρ own) with
      | none => rw [e] at fin; exact fin.elim
      | some ρ' =>
        rw [e] at fin
        simp only at fin
        have rs1 : RS c g1 H' (wp ρ own) (wipe σ own) := ((rs.wipe own).stp stk).stp st1
        refine pat.run c g1 hh H' _ _ _ _ ρ' ek rh1 rs1 rt1 e _ fun σ2 rs2 o2 l2 => ⟨?_, ?_⟩
        · refine wipe_same (l2.trans (wipe_length _ _)) fun j hj => (o2 j hj).trans (wipe_out hj)
        · refine ⟨g1, ρ', hh, rh1, rs2, ?_⟩
          cases et : ft ρ' hh with
          | no => rw [et] at fin; exact fin.elim
          | exc _ _ _ _ => rw [et] at fin; exact fin.elim
          | ok k h1 =>
            rw [et] at fin
            intro g2 H2 bb st2 rh2 eb
            cases (show bb = k from eb)
            -- D is kept
            have hD2 : H2 D = some (.lst us) := by rw [st2.kH D (st1.kp D (.inr rfl)), st1.kH D (.inr rfl)]; exact hDl
            have kD2 : g2.kp D := st2.kp D (st1.kp D (.inr rfl))
            have s12 : Stp (gi.keep D) H g2 H2 := st1.trans st2
            cases k with
            | false =>
              rw [if_neg Bool.false_ne_true]
              have fin' : match lcGo b ft fe (wp ρ own) (xs.drop (i + 1)) h1 with
                | .ok vs h' => ∀ g' H' us, Stp gi H g' H' → RH c g' h' H' → H' D = some (.lst us) → ¬ g'.fz D → D ∉ g'.io → ¬ g'.kp D → RVs c g'.fz H' (acc ++ vs) us → Q (.ref D) H'
                | _ => False := by
                simp only [Res.bind, if_neg Bool.false_ne_true] at fin; exact fin
              refine ⟨g2.back gi.kp, h1, acc, us, Nat.le_succ_of_le hacc, st.trans s12.back, rh2.back (fun p z => s12.kp p (.inl z)), hD2, (rh2.kd D kD2).1, (rh2.kd D kD2).2, nk, RVs.gback (s12.rvs (show RVs c (gi.keep D).fz H acc us from rvs)), ?_⟩
              generalize lcGo b ft fe (wp ρ own) (xs.drop (i + 1)) h1 = r at fin' ⊢
              cases r with
              | ok vs h' => exact fun g' H' us' st' => fin' g' H' us' (s12.back.trans st')
              | no => exact fin'
              | exc _ _ _ _ => exact fin'
            | true =>
              rw [if_pos rfl]
              refine ⟨g2, ρ', h1, rh2, rs2.stp st2, ?_⟩
              simp only [Res.bind, if_pos rfl] at fin
              cases ee : fe ρ' h1 with
              | no => rw [ee] at fin; exact fin.elim
              | exc _ _ _ _ => rw [ee] at fin; exact fin.elim
              | ok v h2 =>
                rw [ee] at fin
                simp only at fin
                intro g3 H3 yv st3 rh3 rv3
                have s13 : Stp (gi.keep D) H g3 H3 := s12.trans st3
                have kD3 : g3.kp D := st3.kp D kD2
                have hD3 : H3 D = some (.lst us) := by rw [st3.kH D kD2]; exact hD2
                have rvs3 : RVs c g3.fz H3 acc us := s13.rvs (show RVs c (gi.keep D).fz H acc us from rvs)
                have nf3 := (rh3.kd D kD3).1
                have ni3 := (rh3.kd D kD3).2
                refine ⟨us, hD3, by rw [← rvs.len]; exact SZ_lt (by omega), ?_⟩
                cases ov : v.isObj with
                | true => rw [ov] at fin; simp at fin
                | false =>
                  simp only [ov, if_neg Bool.false_ne_true] at fin
                  -- write D
                  have sw : Stp (g3.back gi.kp) H3 (g3.back gi.kp) (upd H3 D (.lst (us ++ [yv]))) := Stp.wr (c := c) (g := g3.back gi.kp) nf3 nk (fun ys z => by rw [hD3] at z; cases z)
                  have rhb : RH c (g3.back gi.kp) h2 H3 := rh3.back (fun p z => s13.kp p (.inl z))
                  have rhw : RH c (g3.back gi.kp) h2 (upd H3 D (.lst (us ++ [yv]))) := by
                    refine ⟨rhb.len, rhb.nd, fun n o a q1 q2 => ?_, fun q z => ?_, fun q z => ?_, rhb.kd, rhb.tb.upd (by rw [hD3]; exact noTab_of (fun _ z => by cases z) (fun _ z => by cases z)), fun q z ps y => rhb.nt q z ps (by rw [upd_ne (show q ≠ D from fun e => z.elim (fun z => nf3 (e ▸ z)) (fun z => nk (e ▸ z)))] at y; exact y)⟩
                    · have na : a ≠ D := fun z => ni3 (z ▸ List.mem_of_getElem? q2)
                      exact RO.stp sw (fun h => h) (upd_ne na) (rhb.at' n o a q1 q2)
                    · rw [upd_ne (show q ≠ D from fun e => nf3 (e ▸ z))]; exact rhb.fz q z
                    · rw [upd_ne (show q ≠ D from fun e => nk (e ▸ z))]; exact rhb.kp q z
                  refine ⟨g3.back gi.kp, h2, acc ++ [v], us ++ [yv], by rw [List.length_append]; simp; omega, (st.trans s13.back).trans sw, rhw, upd_same, nf3, ni3, nk, ?_, ?_⟩
                  · exact sw.rvs (RVs.app (RVs.gback rvs3) (RVs.one (rv3.rv ov)))
                  · generalize lcGo b ft fe (wp ρ own) (xs.drop (i + 1)) h2 = r at fin ⊢
                    cases r with
                    | ok vs h' =>
                      intro g' H' us' st' rh' d1 d2 d3 d4 rv'
                      rw [List.append_assoc] at rv'
                      exact fin g' H' us' ((s13.back.trans sw).trans st') rh' d1 d2 d3 d4 rv'
                    | no => exact fin
                    | exc _ _ _ _ => exact fin
    · have e : i = xs.length := by omega
      subst e
      refine .inl ⟨dl.stop gi H st.f _ (Nat.le_refl _), ?_⟩
      rw [List.drop_length] at fin
      unfold lcGo at fin
      refine fin gi H us .refl rhi hDl nf ni nk ?_
      rw [List.append_nil]; exact rvs
section
variable {X : Cx} {W : WX}
abbrev W0 : WX := fun _ _ _ _ => False
theorem jts_nil : PTs X [] (tT (ct X) W tTrue) := ⟨fun pins s σ H Q I h => by
  obtain ⟨g, ρ, h0, rh, rs, p⟩ := h
  exact pts_nil.run pins s σ H Q I (show tYes σ H Q from p g H true .refl rh rfl)⟩
theorem jts_one {c : Expr} {f : TF} (h : PT X c (tT (ct X) W f)) : PTs X [c] (tT (ct X) W f) := pts_one h
theorem tLc_of {own : List Nat} {it : AF} {b : VV → VSt → Option VSt} {ft : TF} {fe : EF} {tg : TG} {mk : List VV → VH → Res VV} (pat : PatOk X.K tg b own)
    (hmk : ∀ (g : Gh) (h : VH) (H : Hp) (D : Addr) (vs : List VV) (us : List V) (σ : St) (Q : VK), RH (ct X) g h H → H D = some (.lst us) → ¬ g.fz D → D ∉ g.io → ¬ g.kp D → RVs (ct X) g.fz H vs us → Pst (ct X) W σ (RT (ct X)) g H Q (mk vs h) → Q (.ref D) H)
    {σ : St} {H : Hp} {Q : VK} (h : tE (ct X) W (fun ρ h => (it ρ h).bind fun xs h1 => if xs.length > SZ then .no else (match lcGo b ft fe (wp ρ own) xs h1 with
      | .ok vs h2 => mk vs h2
      | _ => .no)) σ H Q) :
    tLc (tI (ct X) W it) tg (tT (ct X) W0 ft) (tE (ct X) W0 fe) own σ H Q := by
  obtain ⟨g, ρ, h0, rh, rs, p⟩ := tG.bind (R := fun g H xs J => Deliv (ct X) g H xs J) (f := it) (k := fun (xs : List VV) ρ h1 => if xs.length > SZ then .no else (match lcGo b ft fe (wp ρ own) xs h1 with
      | .ok vs h2 => mk vs h2
      | _ => .no)) h
  refine ⟨g, ρ, h0, rh, rs, p.imp fun J H1 ⟨g1, ρ1, xs, h1, rh1, rs1, dl, p1⟩ D hD => ?_⟩
  by_cases hz : xs.length > SZ
  · rw [if_pos hz] at p1; exact p1.elim
  · rw [if_neg hz] at p1
    refine lc_run (Wx := W) (fun _ _ _ _ z => z) rfl pat dl (by omega) rh1 rs1 hD ?_
    generalize lcGo b ft fe (wp ρ1 own) xs h1 = r at p1 ⊢
    cases r with
    | ok vs h' => exact fun g' H' us st rh' d1 d2 d3 d4 rv' => hmk g' h' H' D vs us σ Q rh' d1 d2 d3 d4 rv' (Pst.step st p1)
    | no => exact p1
    | exc _ _ _ _ => exact p1
theorem mk_lst (g : Gh) (h : VH) (H : Hp) (D : Addr) (vs : List VV) (us : List V) (σ : St) (Q : VK) (rh : RH (ct X) g h H) (e : H D = some (.lst us)) (nf : ¬ g.fz D) (ni : D ∉ g.io) (nk : ¬ g.kp D) (rv : RVs (ct X) g.fz H vs us)
    (p : Pst (ct X) W σ (RT (ct X)) g H Q (.ok (.lst vs) h)) : Q (.ref D) H := by
  have st : Stp g H (g.frz D) H := .kill
  refine p (g.frz D) H (.ref D) st ⟨rh.len, rh.nd, fun n o a h1 h2 => ?_, fun q z => ?_, rh.kp, fun q z => ⟨fun y => y.elim (rh.kd q z).1 (fun e => nk (e ▸ z)), (rh.kd q z).2⟩, rh.tb, fun q z ps y => z.elim (fun z => z.elim (fun z => rh.nt q (.inl z) ps y) (fun z => by rw [z, e] at y; cases y)) (fun z => rh.nt q (.inr z) ps y)⟩ ?_
  · exact RO.stp st (fun x z => z.elim x (fun e => ni (e ▸ List.mem_of_getElem? h2))) rfl (rh.at' n o a h1 h2)
  · rcases z with z | z
    · exact rh.fz q z
    · rw [z]; exact ⟨_, e⟩
  · show RV _ _ _ _ _
    rw [RV]
    exact ⟨D, us, rfl, .inr rfl, e, st.rvs rv⟩
theorem mk_root (g : Gh) (h : VH) (H : Hp) (D : Addr) (vs : List VV) (us : List V) (σ : St) (Q : VK) (rh : RH (ct X) g h H) (e : H D = some (.lst us)) (nf : ¬ g.fz D) (ni : D ∉ g.io) (nk : ¬ g.kp D) (rv : RVs (ct X) g.fz H vs us)
    (p : Pst (ct X) W σ (RT (ct X)) g H Q (.ok (.obj h.length) (h ++ [.fl vs]))) : Q (.ref D) H := by
  refine p (g.add D) H (.ref D) .add (rh.add ni nk ⟨nf, us, e, rv⟩) ⟨D, ?_, rfl⟩
  show (g.io ++ [D])[h.length]? = some D
  rw [← rh.len, List.getElem?_append_right (Nat.le_refl _), Nat.sub_self]; rfl
theorem j_lc {elt tg iter : Expr} {ifs : List Expr} {scope : Scope} {own : List (Str × Nat)} {pos : Pos} {it : AF} {g : TG} {b : VV → VSt → Option VSt} {ft : TF} {fe : EF} (hc : X.calm = true) (hN : X.N.Nodup) (hi : PI X tg iter (tI (ct X) W it)) (ok : BlkOk X.N X.env.scope scope own)
    (hg : ∀ (s : Shared) (H : Hp) (C : Addr) (cl : List (Str × Addr)) (fp : List Addr), PG (X.blk s H scope (compEnvC scope cl C X.env) fp) tg g) (pat : PatOk X.K g b (own.map (·.2)))
    (ht : ∀ (s : Shared) (H : Hp) (C : Addr) (cl : List (Str × Addr)) (fp : List Addr), PTs (X.blk s H scope (compEnvC scope cl C X.env) fp) ifs (tT (ct X) W0 ft))
    (he : ∀ (s : Shared) (H : Hp) (C : Addr) (cl : List (Str × Addr)) (fp : List Addr), PE (X.blk s H scope (compEnvC scope cl C X.env) fp) elt (tE (ct X) W0 fe)) (hs : ∀ x, foldedSetIterable iter X.env x = pure x := by intro _; rfl) :
    PE X (.ListComp elt [⟨tg, iter, ifs, 0⟩] scope pos) (tE (ct X) W (eLc (own.map (·.2)) it b ft fe)) :=
  PE.mono (pe_lc hc hN hi ok hg ht he hs) fun σ H Q h => by
    exact tLc_of (mk := fun vs h => .ok (.lst vs) h) pat mk_lst h
theorem j_lcO {elt tg iter : Expr} {ifs : List Expr} {scope : Scope} {own : List (Str × Nat)} {pos : Pos} {it : AF} {g : TG} {b : VV → VSt → Option VSt} {ft : TF} {fe : EF} (hc : X.calm = true) (hN : X.N.Nodup) (hi : PI X tg iter (tI (ct X) W it)) (ok : BlkOk X.N X.env.scope scope own)
    (hg : ∀ (s : Shared) (H : Hp) (C : Addr) (cl : List (Str × Addr)) (fp : List Addr), PG (X.blk s H scope (compEnvC scope cl C X.env) fp) tg g) (pat : PatOk X.K g b (own.map (·.2)))
    (ht : ∀ (s : Shared) (H : Hp) (C : Addr) (cl : List (Str × Addr)) (fp : List Addr), PTs (X.blk s H scope (compEnvC scope cl C X.env) fp) ifs (tT (ct X) W0 ft))
    (he : ∀ (s : Shared) (H : Hp) (C : Addr) (cl : List (Str × Addr)) (fp : List Addr), PE (X.blk s H scope (compEnvC scope cl C X.env) fp) elt (tE (ct X) W0 fe)) (hs : ∀ x, foldedSetIterable iter X.env x = pure x := by intro _; rfl) :
    PE X (.ListComp elt [⟨tg, iter, ifs, 0⟩] scope pos) (tE (ct X) W (eLcO (own.map (·.2)) it b ft fe)) :=
  PE.mono (pe_lc hc hN hi ok hg ht he hs) fun σ H Q h => by
    exact tLc_of (mk := fun vs (h : VH) => .ok (.obj h.length) (h ++ [VO.fl vs])) pat mk_root h
/-! statements -/
inductive SR where
  | no
  | nx (ρ : VSt) (h : VH)
  | ret (v : VV) (h : VH)
  | brk (ρ : VSt) (h : VH)
  | cnt (ρ : VSt) (h : VH)
  | exc (x : Str) (ns : List Str) (vs : List VV) (ρ : VSt) (h : VH)
abbrev SF := VSt → VH → SR
def PS1 (c : Ct) (W : WX) (g : Gh) (H : Hp) (D : Ends) : SR → Prop
  | .no => False
  | .nx ρ h => ∀ g' H' σ', Stp g H g' H' → RH c g' h H' → RS c g' H' ρ σ' → D.nx σ' H'
  | .ret v h => ∀ g' H' u, Stp g H g' H' → RH c g' h H' → RT c g' H' v u → D.rt u H'
  | .brk ρ h => ∀ g' H' σ', Stp g H g' H' → RH c g' h H' → RS c g' H' ρ σ' → D.bk σ' H'
  | .cnt ρ h => ∀ g' H' σ', Stp g H g' H' → RH c g' h H' → RS c g' H' ρ σ' → D.ct σ' H'
  | .exc x ns vs ρ h => ∀ g' H' σ' C d us, Stp g H g' H' → RH c g' h H' → RS c g' H' ρ σ' → c.mg x = some (.ref C) → (H' d = some (.xd (ns.zip us)) ∧ ¬ g'.fz d ∧ d ∉ g'.io) → ns.length = us.length → RVs c g'.fz H' vs us → W (.ref C) (some d) σ' H'
theorem PS1.step {c : Ct} {W : WX} {g g1 : Gh} {H H1 : Hp} {D : Ends} {r : SR} (s : Stp g H g1 H1) (h : PS1 c W g H D r) : PS1 c W g1 H1 D r := by
  cases r with
  | no => exact h
  | nx => exact fun g' H' σ' st => h g' H' σ' (s.trans st)
  | ret => exact fun g' H' σ' st => h g' H' σ' (s.trans st)
  | brk => exact fun g' H' σ' st => h g' H' σ' (s.trans st)
  | cnt => exact fun g' H' σ' st => h g' H' σ' (s.trans st)
  | exc => exact fun g' H' σ' C d us st => h g' H' σ' C d us (s.trans st)
def tS (c : Ct) (W : WX) (F : SF) : TS := fun D σ H => ∃ g ρ h, RH c g h H ∧ RS c g H ρ σ ∧ PS1 c W g H D (F ρ h)
/-- from an expression's result to a statement's -/
def Res.st {α : Type} (r : Res α) (ρ : VSt) (k : α → VH → SR) : SR := match r with
  | .no => .no
  | .ok a h => k a h
  | .exc x ns vs h => .exc x ns vs ρ h
theorem Pst.st {α β : Type} {R : Gh → Hp → α → β → Prop} {c : Ct} {W : WX} {σ : St} {g : Gh} {H : Hp} {D : Ends} {r : Res α} {ρ : VSt} {k : α → VH → SR} (rs : RS c g H ρ σ) (h : PS1 c W g H D (r.st ρ k)) :
    Pst c W σ R g H (fun u H1 => ∃ g1 v h1, Stp g H g1 H1 ∧ RH c g1 h1 H1 ∧ RS c g1 H1 ρ σ ∧ R g1 H1 v u ∧ PS1 c W g1 H1 D (k v h1)) r := by
  cases r with
  | no => exact h
  | ok v h' => exact fun g' H' u st rh rv => ⟨g', v, h', st, rh, rs.stp st, rv, PS1.step st h⟩
  | exc x ns vs h' => exact fun g' H' C d us st rh m e l rv => h g' H' σ C d us st rh (rs.stp st) m e l rv
def sSkip : SF := fun ρ h => .nx ρ h
def sSeq (a b : SF) : SF := fun ρ h => match a ρ h with
  | .nx ρ' h' => b ρ' h'
  | r => r
def sAsg (e : EF) (b : VV → VSt → Option VSt) : SF := fun ρ h => (e ρ h).st ρ fun v h1 => match b v ρ with
  | some ρ' => .nx ρ' h1
  | none => .no
def sSet (i : Nat) (e : EF) : SF := fun ρ h => (e ρ h).st ρ fun v h1 => .nx (ρ.set i (some v)) h1
def sIf (c : TF) (a b : SF) : SF := fun ρ h => (c ρ h).st ρ fun k h1 => if k = true then a ρ h1 else b ρ h1
def sRet (e : EF) : SF := fun ρ h => (e ρ h).st ρ fun v h1 => .ret v h1
def sExpr (e : EF) : SF := fun ρ h => (e ρ h).st ρ fun v h1 => .nx ρ h1
def forGo (b : VV → VSt → Option VSt) (body : SF) : List VV → VSt → VH → SR
  | [], ρ, h => .nx ρ h
  | x :: xs, ρ, h => match b x ρ with
    | none => .no
    | some ρ' => match body ρ' h with
      | .nx ρ2 h2 => forGo b body xs ρ2 h2
      | .cnt ρ2 h2 => forGo b body xs ρ2 h2
      | .brk ρ2 h2 => .nx ρ2 h2
      | r => r
def sFor (it : AF) (b : VV → VSt → Option VSt) (body : SF) : SF := fun ρ h => (it ρ h).st ρ fun xs h1 => forGo b body xs ρ h1
theorem js_nil : PSs X [] (tS (ct X) W sSkip) := PSs.mono pss_nil fun D σ H ⟨g, ρ, h, rh, rs, p⟩ => p g H σ .refl rh rs
theorem js_cons {st : Stmt} {rest : List Stmt} {fa fb : SF} (h1 : PS X st (tS (ct X) W fa)) (h2 : PSs X rest (tS (ct X) W fb)) : PSs X (st :: rest) (tS (ct X) W (sSeq fa fb)) :=
  PSs.mono (pss_cons h1 h2) fun D σ H ⟨g, ρ, h, rh, rs, p⟩ => by
    refine ⟨g, ρ, h, rh, rs, ?_⟩
    unfold sSeq at p
    cases e : fa ρ h with
    | nx ρ' h' =>
      rw [e] at p
      exact fun g' H' σ' st rh' rs' => ⟨g', ρ', h', rh', rs', PS1.step st p⟩
    | no => rw [e] at p; exact p
    | ret => rw [e] at p; exact p
    | brk => rw [e] at p; exact p
    | cnt => rw [e] at p; exact p
    | exc => rw [e] at p; exact p
theorem js_one {st : Stmt} {fa : SF} (h1 : PS X st (tS (ct X) W fa)) : PSs X [st] (tS (ct X) W fa) := pss_one h1
theorem js_set {i : Nat} {x : Str} {e : Expr} {f : EF} {pos pos' : Pos} (hN : X.N.Nodup) (hi : X.N[i]? = some x) (hx : Loc X.env.scope x) (he : PE X e (tE (ct X) W f)) (hs : swapsWith e (some (.Name x pos')) pos.line X.env = pure false := by rfl)
    (hf : X.fn x = true ∨ X.env.scope.names.lookup x = some .local := by first | exact .inl rfl | exact .inr rfl | assumption) :
    PS X (.Assign [.Name x pos'] e pos) (tS (ct X) W (sSet i f)) :=
  PS.mono (ps_set (i := i) hN hi hx he hs hf) fun D σ H ⟨g, ρ, h, rh, rs, p⟩ => by
    refine ⟨g, ρ, h, rh, rs, (Pst.st (R := RT (ct X)) rs p).imp fun u H1 ⟨g1, v, h1, st, rh1, rs1, rv1, p1⟩ => ?_⟩
    exact p1 g1 H1 _ .refl rh1 (rs1.set rv1 i)
theorem js_if {c : Expr} {a b : List Stmt} {fc : TF} {fa fb : SF} {pos : Pos} (hc : PT X c (tT (ct X) W fc)) (ha : PSs X a (tS (ct X) W fa)) (hb : PSs X b (tS (ct X) W fb)) : PS X (.If c a b pos) (tS (ct X) W (sIf fc fa fb)) :=
  PS.mono (ps_if hc ha hb) fun D σ H ⟨g, ρ, h, rh, rs, p⟩ => by
    refine ⟨g, ρ, h, rh, rs, (Pst.st (R := RB) rs p).imp fun u H1 ⟨g1, v, h1, st, rh1, rs1, rv1, p1⟩ => ?_⟩
    cases rv1
    cases u with
    | true => rw [if_pos rfl] at p1 ⊢; exact ⟨g1, ρ, h1, rh1, rs1, p1⟩
    | false => rw [if_neg Bool.false_ne_true] at p1 ⊢; exact ⟨g1, ρ, h1, rh1, rs1, p1⟩
theorem js_ret {e : Expr} {f : EF} {pos : Pos} (he : PE X e (tE (ct X) W f)) : PS X (.Return (some e) pos) (tS (ct X) W (sRet f)) :=
  PS.mono (ps_ret he) fun D σ H ⟨g, ρ, h, rh, rs, p⟩ => by
    refine ⟨g, ρ, h, rh, rs, (Pst.st (R := RT (ct X)) rs p).imp fun u H1 ⟨g1, v, h1, st, rh1, rs1, rv1, p1⟩ => ?_⟩
    exact p1 g1 H1 u .refl rh1 rv1
theorem js_expr {e : Expr} {f : EF} {pos : Pos} (he : PE X e (tE (ct X) W f)) (hs : swapsWith e none pos.line X.env = pure false := by rfl) : PS X (.Expr e pos) (tS (ct X) W (sExpr f)) :=
  PS.mono (ps_expr he hs) fun D σ H ⟨g, ρ, h, rh, rs, p⟩ => by
    refine ⟨g, ρ, h, rh, rs, (Pst.st (R := RT (ct X)) rs p).imp fun u H1 ⟨g1, v, h1, st, rh1, rs1, rv1, p1⟩ => ?_⟩
    exact p1 g1 H1 σ .refl rh1 rs1
theorem js_for {tg iter : Expr} {body : List Stmt} {it : AF} {g : TG} {b : VV → VSt → Option VSt} {own : List Nat} {fb : SF} {pos : Pos} (hp : PassesOwn (model X.prog X.w) X.A X.env X.xe) (hc : X.calm = true) (hi : PI X tg iter (tI (ct X) W it)) (hg : PG X tg g) (pat : PatOk X.K g b own) (hb : PSs X body (tS (ct X) W fb))
    (hs : ∀ x, foldedSetIterable iter X.env x = pure x := by intro _; rfl) : PS X (.For tg iter body [] pos) (tS (ct X) W (sFor it b fb)) :=
  PS.mono (ps_for hp hc hi hg hb hs) fun D σ H ⟨g, ρ, h, rh, rs, p⟩ => by
    refine ⟨g, ρ, h, rh, rs, (Pst.st (R := fun g H xs J => Deliv (ct X) g H xs J) rs p).imp fun J H1 ⟨g1, xs, h1, st, rh1, rs1, dl, p1⟩ => ?_⟩
    let P : Nat → St → Hp → Prop := fun i σ' H' => ∃ (gi : Gh) (ρi : VSt) (hi : VH), Stp g1 H1 gi H' ∧ RH (ct X) gi hi H' ∧ RS (ct X) gi H' ρi σ' ∧ PS1 (ct X) W gi H' D (forGo b fb (xs.drop i) ρi hi)
    refine ⟨fun i m σ' H' => m = xs.length - i ∧ i ≤ xs.length ∧ P i σ' H', ⟨xs.length, by simp, Nat.zero_le _, g1, ρ, h1, .refl, rh1, rs1, by rw [List.drop_zero]; exact p1⟩, ?_⟩
    rintro i m σ' H' ⟨rfl, hi, gi, ρi, hh, sti, rhi, rsi, pi⟩
    by_cases hlt : i < xs.length
    · have ed : xs.drop i = xs[i] :: xs.drop (i + 1) := List.drop_eq_getElem_cons hlt
      refine .inr ⟨dl.go gi H' sti.f i hlt, P (i + 1), fun σ2 H2 p2 => ⟨xs.length - (i + 1), by omega, rfl, hlt, p2⟩, fun x H2 y => ?_⟩
      obtain ⟨g2, st2, rh2, rt2⟩ := dl.yld gi H' sti.f i xs[i] hh (List.getElem?_eq_getElem hlt) rhi x H2 y
      rw [ed] at pi
      unfold forGo at pi
      cases e : b xs[i] ρi with
      | none => rw [e] at pi; exact pi.elim
      | some ρ' =>
        rw [e] at pi
        simp only at pi
        refine pat.run (ct X) g2 hh H2 ρi σ' xs[i] x ρ' rfl rh2 (rsi.stp st2) rt2 e _ fun σ3 rs3 _ _ => ⟨g2, ρ', hh, rh2, rs3, ?_⟩
        cases eb : fb ρ' hh with
        | no => rw [eb] at pi; exact pi
        | nx ρ2 h2 => rw [eb] at pi; exact fun g' H' σ' st rh' rs' => ⟨g', ρ2, h2, (sti.trans st2).trans st, rh', rs', PS1.step (st2.trans st) pi⟩
        | cnt ρ2 h2 => rw [eb] at pi; exact fun g' H' σ' st rh' rs' => ⟨g', ρ2, h2, (sti.trans st2).trans st, rh', rs', PS1.step (st2.trans st) pi⟩
        | brk ρ2 h2 => rw [eb] at pi; exact PS1.step (r := .nx ρ2 h2) st2 pi
        | ret v h2 => rw [eb] at pi; exact PS1.step (r := .ret v h2) st2 pi
        | exc x ns vs ρ2 h2 => rw [eb] at pi; exact PS1.step (r := .exc x ns vs ρ2 h2) st2 pi
    · have e : i = xs.length := by omega
      subst e
      rw [List.drop_length] at pi
      unfold forGo at pi
      exact .inl ⟨dl.stop gi H' sti.f _ (Nat.le_refl _), pi gi H' σ' .refl rhi rsi⟩
end
end J
namespace J
open PySem L2
open PyProof.Rows (envOfC)
/-! lists by value -/
def lstOf (h : VH) : VV → Option (List VV)
  | .lst xs => some xs
  | .scr xs => some xs
  | .obj n => match h[n]? with
    | some (.fl xs) => some xs
    | some (.fzn (.lst xs)) => some xs
    | _ => none
  | _ => none
/-- .. exact (not the script) -/
def lstOf' (h : VH) : VV → Option (List VV)
  | .lst xs => some xs
  | .obj n => match h[n]? with
    | some (.fl xs) => some xs
    | some (.fzn (.lst xs)) => some xs
    | _ => none
  | _ => none
theorem lstOf'_get {c : Ct} {g : Gh} {h : VH} {H : Hp} {v : VV} {u : V} {xs : List VV} (rh : RH c g h H) (rv : RT c g H v u) (e : lstOf' h v = some xs) : ∃ p us, u = .ref p ∧ H p = some (.lst us) ∧ RVs c g.fz H xs us := by
  cases v with
  | lst ys =>
    cases e
    have q := rv.rv rfl
    rw [RV] at q
    obtain ⟨p, us, a, b, d, r⟩ := q
    exact ⟨p, us, a, d, r⟩
  | obj n =>
    obtain ⟨a, ea, eu⟩ := rv
    unfold lstOf' at e
    simp only at e
    split at e
    · rename_i ys en
      cases e
      obtain ⟨_, us, d, r⟩ := rh.at' n _ a en ea
      exact ⟨a, us, eu, d, r⟩
    · rename_i ys en
      cases e
      obtain ⟨_, q⟩ := rh.at' n _ a en ea
      rw [RV] at q
      obtain ⟨p, us, z, b, d, r⟩ := q
      cases z
      exact ⟨a, us, eu, d, r⟩
    · cases e
  | _ => cases e
theorem lstOf_get {c : Ct} {g : Gh} {h : VH} {H : Hp} {v : VV} {u : V} {xs : List VV} (rh : RH c g h H) (rv : RT c g H v u) (e : lstOf h v = some xs) : ∃ p us, u = .ref p ∧ SqL c.K H p us ∧ RVs c g.fz H xs us := by
  cases v with
  | scr ys =>
    cases e
    have q := rv.rv rfl
    rw [RV] at q
    obtain ⟨p, us, a, d, r⟩ := q
    exact ⟨p, us, a, d.sq, r⟩
  | lst ys =>
    obtain ⟨p, us, a, b, r⟩ := lstOf'_get (xs := xs) rh rv e
    exact ⟨p, us, a, SqL.of b, r⟩
  | obj n =>
    obtain ⟨p, us, a, b, r⟩ := lstOf'_get (xs := xs) rh rv e
    exact ⟨p, us, a, SqL.of b, r⟩
  | _ => cases e
theorem tup_get {c : Ct} {g : Gh} {H : Hp} {u : V} {xs : List VV} (rv : RT c g H (.tup xs) u) : ∃ p us, u = .ref p ∧ TupAt c g.fz H p us ∧ RVs c g.fz H xs us := by
  have q := rv.rv rfl
  rw [RV] at q
  exact q
theorem int_get {c : Ct} {g : Gh} {H : Hp} {u : V} {i : Int} (rv : RT c g H (.int i) u) : u = .int i := by have q := rv.rv rfl; rw [RV] at q; exact q
theorem bl_get {c : Ct} {g : Gh} {H : Hp} {u : V} {i : Bool} (rv : RT c g H (.bl i) u) : u = .bl i := by have q := rv.rv rfl; rw [RV] at q; exact q
theorem str_get {c : Ct} {g : Gh} {H : Hp} {u : V} {i : Str} (rv : RT c g H (.str i) u) : u = .str i := by have q := rv.rv rfl; rw [RV] at q; exact q
theorem non_get {c : Ct} {g : Gh} {H : Hp} {u : V} (rv : RT c g H .non u) : u = .non := by have q := rv.rv rfl; rw [RV] at q; exact q
def lstF : VV → Option (List VV)
  | .lst xs => some xs
  | .scr xs => some xs
  | _ => none
theorem lstF_get {c : Ct} {g : Gh} {H : Hp} {v : VV} {u : V} {xs : List VV} (rv : RT c g H v u) (e : lstF v = some xs) : ∃ p us, u = .ref p ∧ LstAt c g.fz H p us ∧ RVs c g.fz H xs us := by
  cases v with
  | scr ys =>
    cases e
    have q := rv.rv rfl
    rw [RV] at q
    exact q
  | lst ys =>
    cases e
    have q := rv.rv rfl
    rw [RV] at q
    obtain ⟨p, us, a, b, d, r⟩ := q
    exact ⟨p, us, a, .inl ⟨b, .inl d⟩, r⟩
  | _ => cases e
/-- .. whose items may be roots -/
def lstR (h : VH) : VV → Option (List VV)
  | .obj n => match h[n]? with
    | some (.lo xs) => some xs
    | _ => lstOf h (.obj n)
  | v => lstOf h v
theorem lstR_get {c : Ct} {g : Gh} {h : VH} {H : Hp} {v : VV} {u : V} {xs : List VV} (rh : RH c g h H) (rv : RT c g H v u) (e : lstR h v = some xs) : ∃ p us, u = .ref p ∧ SqL c.K H p us ∧ RTs c g H xs us := by
  have old : lstOf h v = some xs → ∃ p us, u = .ref p ∧ SqL c.K H p us ∧ RTs c g H xs us := fun e => by
    obtain ⟨p, us, a, b, r⟩ := lstOf_get rh rv e
    exact ⟨p, us, a, b, RTs.of_rvs r⟩
  cases v with
  | obj n =>
    unfold lstR at e
    simp only at e
    split at e
    · rename_i ys en
      cases e
      obtain ⟨a, ea, eu⟩ := rv
      obtain ⟨_, us, d, r⟩ := rh.at' n _ a en ea
      exact ⟨a, us, eu, SqL.of d, r⟩
    · exact old e
  | _ => exact old e
/-! iterables -/
theorem deliv_list {c : Ct} {g : Gh} {h : VH} {H : Hp} {p : Addr} {us : List V} {xs : List VV} (rd : LstAt c g.fz H p us) (rv : RVs c g.fz H xs us) : Deliv c g H xs (Itl c.K p) where
  go := fun g1 H1 st i hi => by
    obtain ⟨u, e, _⟩ := rv.get (List.getElem?_eq_getElem hi)
    exact ⟨us, u, (rd.stp st.fz st.fH).sq, e⟩
  stop := fun g1 H1 st i hi => ⟨us, (rd.stp st.fz st.fH).sq, by rw [← rv.len]; exact hi⟩
  yld := fun g1 H1 st i x h1 e rh u H' y => by
    obtain ⟨eH, hy⟩ := y
    subst eH
    obtain ⟨u', e', r⟩ := rv.get e
    have q := hy us ((rd.stp st.fz st.fH).sq)
    rw [e'] at q
    cases q
    exact ⟨g1, .refl, rh, RT.of_rv (st.rv r)⟩
theorem deliv_tup {c : Ct} {g : Gh} {h : VH} {H : Hp} {p : Addr} {us : List V} {xs : List VV} (rd : TupAt c g.fz H p us) (rv : RVs c g.fz H xs us) : Deliv c g H xs (Itt c.K p) where
  go := fun g1 H1 st i hi => by
    obtain ⟨u, e, _⟩ := rv.get (List.getElem?_eq_getElem hi)
    exact ⟨us, u, (TupAt.stp (z' := g.fz) st.tp rd).sq, e⟩
  stop := fun g1 H1 st i hi => ⟨us, (TupAt.stp (z' := g.fz) st.tp rd).sq, by rw [← rv.len]; exact hi⟩
  yld := fun g1 H1 st i x h1 e rh u H' y => by
    obtain ⟨eH, hy⟩ := y
    subst eH
    obtain ⟨u', e', r⟩ := rv.get e
    have q := hy us (TupAt.stp (z' := g.fz) st.tp rd).sq
    rw [e'] at q
    cases q
    exact ⟨g1, .refl, rh, RT.of_rv (st.rv r)⟩
def signs (s : Str) : List VV := s.cps.toList.map fun c => .str ⟨#[c]⟩
theorem deliv_str {c : Ct} {g : Gh} {H : Hp} {s : Str} : Deliv c g H (signs s) (Its s) where
  go := fun g1 H1 st i hi => by unfold signs at hi; simp at hi; exact hi
  stop := fun g1 H1 st i hi => by unfold signs at hi; simp at hi; exact hi
  yld := fun g1 H1 st i x h1 e rh u H' y => by
    obtain ⟨eH, k, hk, hu⟩ := y
    subst eH
    refine ⟨g1, .refl, rh, ?_⟩
    unfold signs at e
    rw [List.getElem?_map, Array.getElem?_toList, hk] at e
    cases e
    rw [hu]
    exact rt_str
def rngV (lo : Int) (n : Nat) : List VV := (List.range n).map fun (i : Nat) => .int (lo + (i : Int))
theorem deliv_rng {c : Ct} {g : Gh} {H : Hp} {lo : Int} {n : Nat} : Deliv c g H (rngV lo n) (Itr lo n) where
  go := fun g1 H1 st i hi => by unfold rngV at hi; simp at hi; exact hi
  stop := fun g1 H1 st i hi => by unfold rngV at hi; simp at hi; exact hi
  yld := fun g1 H1 st i x h1 e rh u H' y => by
    obtain ⟨eH, hu⟩ := y
    subst eH
    refine ⟨g1, .refl, rh, ?_⟩
    unfold rngV at e
    rw [List.getElem?_map] at e
    cases q : (List.range n)[i]? with
    | none => rw [q] at e; cases e
    | some j =>
      rw [q] at e
      cases e
      obtain ⟨hh, e2⟩ := List.getElem?_eq_some_iff.mp q
      rw [List.getElem_range] at e2
      subst e2
      rw [hu]
      exact rt_int
/-- items of a list, a tuple, a text -/
def iSeq (f : EF) : AF := fun ρ h => (f ρ h).bind fun v h1 => match v with
  | .lst xs => .ok xs h1
  | .scr xs => .ok xs h1
  | .tup xs => .ok xs h1
  | .str s => .ok (signs s) h1
  | _ => .no
def iRange1 (f : EF) : AF := fun ρ h => (f ρ h).bind fun v h1 => match v with
  | .int n => if -(2 ^ 62) ≤ n ∧ n < 2 ^ 62 then .ok (rngV 0 n.toNat) h1 else .no
  | _ => .no
def iRange2 (a : AF) : AF := fun ρ h => (a ρ h).bind fun v h1 => match v with
  | [.int m, .int n] => if -(2 ^ 62) ≤ m ∧ m < 2 ^ 62 ∧ -(2 ^ 62) ≤ n ∧ n < 2 ^ 62 then .ok (rngV m (n - m).toNat) h1 else .no
  | _ => .no
def prs : List VV → List VV → List VV
  | x :: xs, y :: ys => .tup [x, y] :: prs xs ys
  | _, _ => []
def iZip (a : AF) : AF := fun ρ h => (a ρ h).bind fun v h1 => match v with
  | [.lst xs, .lst ys] => .ok (prs xs ys) h1
  | [.tup xs, .tup ys] => .ok (prs xs ys) h1
  | _ => .no
def enum : Nat → List VV → List VV
  | _, [] => []
  | n, x :: xs => .tup [.int n, x] :: enum (n + 1) xs
def iEnum (a : AF) : AF := fun ρ h => (a ρ h).bind fun v h1 => match v with
  | [.lst xs] => .ok (enum 0 xs) h1
  | [.scr xs] => .ok (enum 0 xs) h1
  | _ => .no
theorem prs_get : ∀ (xs ys : List VV) (i : Nat), (prs xs ys)[i]? = (match xs[i]?, ys[i]? with
    | some x, some y => some (.tup [x, y])
    | _, _ => none)
  | [], ys, i => by simp [prs]
  | x :: xs, [], i => by simp [prs]
  | x :: xs, y :: ys, 0 => by simp [prs]
  | x :: xs, y :: ys, i + 1 => by simp [prs, prs_get xs ys i]
theorem prs_len : ∀ (xs ys : List VV), (prs xs ys).length = min xs.length ys.length
  | [], ys => by simp [prs]
  | x :: xs, [] => by simp [prs]
  | x :: xs, y :: ys => by simp [prs, prs_len xs ys]
theorem enum_get : ∀ (n : Nat) (xs : List VV) (i : Nat), (enum n xs)[i]? = xs[i]?.map fun x => .tup [.int ((n + i : Nat) : Int), x]
  | n, [], i => by simp [enum]
  | n, x :: xs, 0 => by simp [enum]
  | n, x :: xs, i + 1 => by simp [enum, enum_get (n + 1) xs i]; congr 1; funext y; congr 3; omega
theorem enum_len : ∀ (n : Nat) (xs : List VV), (enum n xs).length = xs.length
  | _, [] => rfl
  | n, x :: xs => by simp [enum, enum_len (n + 1) xs]
theorem pair_new {c : Ct} {g : Gh} {h : VH} {H : Hp} {T : Addr} {xs : List VV} {us : List V} (rh : RH c g h H) (hT : H T = none) (rv : RVs c g.fz H xs us) :
    Stp g H (g.frz T) (upd H T (.tup us)) ∧ RH c (g.frz T) h (upd H T (.tup us)) ∧ RT c (g.frz T) (upd H T (.tup us)) (.tup xs) (.ref T) := by
  refine ⟨.new rh hT, rh.new hT, ?_⟩
  show RV _ _ _ _ _
  rw [RV]
  exact ⟨T, us, rfl, upd_same, (Stp.new rh hT).rvs rv⟩
theorem deliv_zip {c : Ct} {g : Gh} {H : Hp} {p q : Addr} {us ws : List V} {xs ys : List VV} (rd : LstAt c g.fz H p us) (rd' : LstAt c g.fz H q ws) (rv : RVs c g.fz H xs us) (rv' : RVs c g.fz H ys ws) : Deliv c g H (prs xs ys) (Itz c.K p q) where
  go := fun g1 H1 st i hi => by
    rw [prs_len] at hi
    obtain ⟨u, e, _⟩ := rv.get (List.getElem?_eq_getElem (show i < xs.length by omega))
    obtain ⟨w, e', _⟩ := rv'.get (List.getElem?_eq_getElem (show i < ys.length by omega))
    exact ⟨us, ws, u, w, (rd.stp st.fz st.fH).sq, (rd'.stp st.fz st.fH).sq, e, e'⟩
  stop := fun g1 H1 st i hi => by
    rw [prs_len, rv.len, rv'.len] at hi
    exact ⟨us, ws, (rd.stp st.fz st.fH).sq, (rd'.stp st.fz st.fH).sq, by omega⟩
  yld := fun g1 H1 st i x h1 e rh u H' y => by
    obtain ⟨T, a, b, eu, hT, eH, ha, hb⟩ := y
    subst eH eu
    rw [prs_get] at e
    cases ex : xs[i]? with
    | none => rw [ex] at e; cases e
    | some x1 =>
      cases ey : ys[i]? with
      | none => rw [ex, ey] at e; cases e
      | some y1 =>
        rw [ex, ey] at e
        cases e
        obtain ⟨u1, e1, r1⟩ := rv.get ex
        obtain ⟨w1, e2, r2⟩ := rv'.get ey
        have qa := ha us ((rd.stp st.fz st.fH).sq)
        have qb := hb ws ((rd'.stp st.fz st.fH).sq)
        rw [e1] at qa; cases qa
        rw [e2] at qb; cases qb
        obtain ⟨s1, s2, s3⟩ := pair_new (xs := [x1, y1]) rh hT (RVs.cons (st.rv r1) (RVs.one (st.rv r2)))
        exact ⟨_, s1, s2, s3⟩
theorem deliv_zipT {c : Ct} {g : Gh} {H : Hp} {p q : Addr} {us ws : List V} {xs ys : List VV} (rd : TupAt c g.fz H p us) (rd' : TupAt c g.fz H q ws) (rv : RVs c g.fz H xs us) (rv' : RVs c g.fz H ys ws) : Deliv c g H (prs xs ys) (RZ.ItzT c.K p q) where
  go := fun g1 H1 st i hi => by
    rw [prs_len] at hi
    obtain ⟨u, e, _⟩ := rv.get (List.getElem?_eq_getElem (show i < xs.length by omega))
    obtain ⟨w, e', _⟩ := rv'.get (List.getElem?_eq_getElem (show i < ys.length by omega))
    exact ⟨us, ws, u, w, (TupAt.stp (z' := g.fz) st.tp rd).sq, (TupAt.stp (z' := g.fz) st.tp rd').sq, e, e'⟩
  stop := fun g1 H1 st i hi => by
    rw [prs_len, rv.len, rv'.len] at hi
    exact ⟨us, ws, (TupAt.stp (z' := g.fz) st.tp rd).sq, (TupAt.stp (z' := g.fz) st.tp rd').sq, by omega⟩
  yld := fun g1 H1 st i x h1 e rh u H' y => by
    obtain ⟨T, a, b, eu, hT, eH, ha, hb⟩ := y
    subst eH eu
    rw [prs_get] at e
    cases ex : xs[i]? with
    | none => rw [ex] at e; cases e
    | some x1 =>
      cases ey : ys[i]? with
      | none => rw [ex, ey] at e; cases e
      | some y1 =>
        rw [ex, ey] at e
        cases e
        obtain ⟨u1, e1, r1⟩ := rv.get ex
        obtain ⟨w1, e2, r2⟩ := rv'.get ey
        have qa := ha us (TupAt.stp (z' := g.fz) st.tp rd).sq
        have qb := hb ws (TupAt.stp (z' := g.fz) st.tp rd').sq
        rw [e1] at qa; cases qa
        rw [e2] at qb; cases qb
        obtain ⟨s1, s2, s3⟩ := pair_new (xs := [x1, y1]) rh hT (RVs.cons (st.rv r1) (RVs.one (st.rv r2)))
        exact ⟨_, s1, s2, s3⟩
theorem deliv_enum {c : Ct} {g : Gh} {H : Hp} {p : Addr} {us : List V} {xs : List VV} (rd : LstAt c g.fz H p us) (rv : RVs c g.fz H xs us) : Deliv c g H (enum 0 xs) (Ite c.K p) where
  go := fun g1 H1 st i hi => by
    rw [enum_len] at hi
    obtain ⟨u, e, _⟩ := rv.get (List.getElem?_eq_getElem hi)
    exact ⟨us, u, (rd.stp st.fz st.fH).sq, e⟩
  stop := fun g1 H1 st i hi => by
    rw [enum_len, rv.len] at hi
    exact ⟨us, (rd.stp st.fz st.fH).sq, hi⟩
  yld := fun g1 H1 st i x h1 e rh u H' y => by
    obtain ⟨T, a, eu, hT, eH, ha⟩ := y
    subst eH eu
    rw [enum_get] at e
    cases ex : xs[i]? with
    | none => rw [ex] at e; cases e
    | some x1 =>
      rw [ex] at e
      cases e
      obtain ⟨u1, e1, r1⟩ := rv.get ex
      have qa := ha us ((rd.stp st.fz st.fH).sq)
      rw [e1] at qa; cases qa
      have ri : RV c g1.fz H1 (.int ((0 + i : Nat) : Int)) (.int (i : Nat)) := by rw [RV, Nat.zero_add]
      obtain ⟨s1, s2, s3⟩ := pair_new (xs := [.int ((0 + i : Nat) : Int), x1]) rh hT (RVs.cons ri (RVs.one (st.rv r1)))
      exact ⟨_, s1, s2, s3⟩
section
variable {X : Cx} {W : WX}
theorem ji_seq {tg l : Expr} {f : EF} (hl : PE X l (tE (ct X) W f)) : PI X tg l (tI (ct X) W (iSeq f)) :=
  PI.mono ((PI.or (pi_list hl) (PI.or (pi_tup hl) (pi_str hl)))) fun σ H R h => by
    obtain ⟨g, ρ, h0, rh, rs, p⟩ := h
    unfold iSeq at p
    cases e : f ρ h0 with
    | no => rw [e] at p; exact p.elim
    | exc x ns vs h' => exact .inl ⟨g, ρ, h0, rh, rs, by rw [e] at p ⊢; exact p⟩
    | ok v h1 =>
      rw [e] at p
      cases v with
      | lst xs =>
        refine .inl ⟨g, ρ, h0, rh, rs, ?_⟩
        rw [e]
        intro g' H' u st rh' rv
        obtain ⟨a, us, eu, ra, rvs⟩ := lstF_get (xs := xs) rv rfl
        exact ⟨a, eu, ⟨us, ra.sq⟩, p g' H' _ st rh' (deliv_list (h := h1) ra rvs)⟩
      | scr xs =>
        refine .inl ⟨g, ρ, h0, rh, rs, ?_⟩
        rw [e]
        intro g' H' u st rh' rv
        obtain ⟨a, us, eu, ra, rvs⟩ := lstF_get (xs := xs) rv rfl
        exact ⟨a, eu, ⟨us, ra.sq⟩, p g' H' _ st rh' (deliv_list (h := h1) ra rvs)⟩
      | tup xs =>
        refine .inr (.inl ⟨g, ρ, h0, rh, rs, ?_⟩)
        rw [e]
        intro g' H' u st rh' rv
        obtain ⟨a, us, eu, ra, rvs⟩ := tup_get rv
        exact ⟨a, eu, ⟨us, ra.sq⟩, p g' H' _ st rh' (deliv_tup (h := h1) ra rvs)⟩
      | str s =>
        refine .inr (.inr ⟨g, ρ, h0, rh, rs, ?_⟩)
        rw [e]
        intro g' H' u st rh' rv
        exact ⟨s, str_get rv, p g' H' _ st rh' deliv_str⟩
      | _ => exact p.elim
theorem ji_range1 {tg a : Expr} {f : EF} {p pos : Pos} (hg : Gl X "range") (hm : X.mg "range" = none) (ha : PE X a (tE (ct X) W f)) (hs : starEach [a] X.env = [(false, eval a X.env)] := by rfl) : PI X tg (.Call (.Name "range" p) [a] [] pos) (tI (ct X) W (iRange1 f)) :=
  PI.mono (pi_range1 hg hm (pa_cons ha pa_nil hs) hs) fun σ H R h => by
    obtain ⟨g, ρ, h0, rh, rs, p⟩ := h
    unfold iRange1 at p
    refine ⟨g, ρ, h0, rh, rs, ?_⟩
    cases e : f ρ h0 with
    | no => rw [e] at p; exact p.elim
    | exc x ns vs h' => rw [e] at p; exact p
    | ok v h1 =>
      rw [e] at p
      cases v with
      | int n =>
        simp only [Res.bind] at p
        by_cases hn : -(2 ^ 62) ≤ n ∧ n < 2 ^ 62
        · rw [if_pos hn] at p
          intro g' H' u st rh' rv
          exact ⟨n, by rw [int_get rv], hn.1, hn.2, p g' H' _ st rh' deliv_rng⟩
        · rw [if_neg hn] at p; exact p.elim
      | _ => exact p.elim
theorem ji_range2 {tg a b : Expr} {f : AF} {p pos : Pos} (hg : Gl X "range") (hm : X.mg "range" = none) (ha : PA X [a, b] (tA (ct X) W f)) (hs : starEach [a, b] X.env = [(false, eval a X.env), (false, eval b X.env)] := by rfl) (hs2 : starEach [b] X.env = [(false, eval b X.env)] := by rfl) :
    PI X tg (.Call (.Name "range" p) [a, b] [] pos) (tI (ct X) W (iRange2 f)) :=
  PI.mono (pi_range2 hg hm ha hs hs2) fun σ H R h => by
    obtain ⟨g, ρ, h0, rh, rs, p⟩ := h
    unfold iRange2 at p
    refine ⟨g, ρ, h0, rh, rs, ?_⟩
    cases e : f ρ h0 with
    | no => rw [e] at p; exact p.elim
    | exc x ns vs h' => rw [e] at p; exact p
    | ok v h1 =>
      rw [e] at p
      simp only [Res.bind] at p
      split at p
      · rename_i m n
        by_cases hn : -(2 ^ 62) ≤ m ∧ m < 2 ^ 62 ∧ -(2 ^ 62) ≤ n ∧ n < 2 ^ 62
        · rw [if_pos hn] at p
          intro g' H' u st rh' rv
          obtain ⟨u1, r1, rfl, a1, u2, r2, rfl, a2, rfl⟩ := rv
          exact ⟨m, n, by rw [int_get a1, int_get a2], hn, p g' H' _ st rh' deliv_rng⟩
        · rw [if_neg hn] at p; exact p.elim
      · exact p.elim
theorem ji_enum {a : Expr} {f : AF} {p pos tpos : Pos} {elts : List Expr} {kk : Nat} (hg : Gl X "enumerate") (hm : X.mg "enumerate" = none) (ha : PA X [a] (tA (ct X) W f)) (hs : starEach [a] X.env = [(false, eval a X.env)] := by rfl) :
    PI X (.Tuple elts kk tpos) (.Call (.Name "enumerate" p) [a] [] pos) (tI (ct X) W (iEnum f)) :=
  PI.mono (pi_enum hg hm ha hs) fun σ H R h => by
    obtain ⟨g, ρ, h0, rh, rs, p⟩ := h
    unfold iEnum at p
    refine ⟨g, ρ, h0, rh, rs, ?_⟩
    cases e : f ρ h0 with
    | no => rw [e] at p; exact p.elim
    | exc x ns vs h' => rw [e] at p; exact p
    | ok v h1 =>
      rw [e] at p
      simp only [Res.bind] at p
      split at p
      · intro g' H' u st rh' rv
        obtain ⟨u1, r1, rfl, a1, rfl⟩ := rv
        obtain ⟨a, us, eu, ra, rvs⟩ := lstF_get a1 rfl
        exact ⟨a, us, by rw [eu], ra.sq, p g' H' _ st rh' (deliv_enum ra rvs)⟩
      · intro g' H' u st rh' rv
        obtain ⟨u1, r1, rfl, a1, rfl⟩ := rv
        obtain ⟨a, us, eu, ra, rvs⟩ := lstF_get a1 rfl
        exact ⟨a, us, by rw [eu], ra.sq, p g' H' _ st rh' (deliv_enum ra rvs)⟩
      · exact p.elim
theorem ji_zip {a b : Expr} {f : AF} {p pos tpos : Pos} {elts : List Expr} {kk : Nat} (hg : Gl X "zip") (hm : X.mg "zip" = none) (ha : PA X [a, b] (tA (ct X) W f)) (hs : starEach [a, b] X.env = (false, eval a X.env) :: starEach [b] X.env := by rfl) (hpl : (backTo pos (starEach [b] X.env)).any (·.1) = false := by rfl) :
    PI X (.Tuple elts kk tpos) (.Call (.Name "zip" p) [a, b] [] pos) (tI (ct X) W (iZip f)) :=
  PI.mono (RZ.pi_zipA hg hm ha hs hpl) fun σ H R h => by
    obtain ⟨g, ρ, h0, rh, rs, p⟩ := h
    unfold iZip at p
    refine ⟨g, ρ, h0, rh, rs, ?_⟩
    cases e : f ρ h0 with
    | no => rw [e] at p; exact p.elim
    | exc x ns vs h' => rw [e] at p; exact p
    | ok v h1 =>
      rw [e] at p
      simp only [Res.bind] at p
      split at p
      · intro g' H' u st rh' rv
        obtain ⟨u1, r1, rfl, a1, u2, r2, rfl, a2, rfl⟩ := rv
        obtain ⟨a, us, eu, ra, rvs⟩ := lstF_get a1 rfl
        obtain ⟨b, ws, ew, rb, rws⟩ := lstF_get a2 rfl
        exact ⟨a, b, us, ws, by rw [eu, ew], .inl ⟨ra.sq, rb.sq, p g' H' _ st rh' (deliv_zip ra rb rvs rws)⟩⟩
      · intro g' H' u st rh' rv
        obtain ⟨u1, r1, rfl, a1, u2, r2, rfl, a2, rfl⟩ := rv
        obtain ⟨a, us, eu, ra, rvs⟩ := tup_get a1
        obtain ⟨b, ws, ew, rb, rws⟩ := tup_get a2
        exact ⟨a, b, us, ws, by rw [eu, ew], .inr ⟨ra.sq, rb.sq, p g' H' _ st rh' (deliv_zipT ra rb rvs rws)⟩⟩
      · exact p.elim
/-! defs and calls -/
abbrev FF := List VV → VH → Res VV
def spF (c : Ct) (n : Nat) (F : FF) : Sp := fun vs H Q E => ∃ g ws h, RH c g h H ∧ RTs c g H ws vs ∧ ws.length = n ∧ Pst c (fun a d _ H' => E a d H') [] (RT c) g H Q (F ws h)
/-- the roots that a def made and let go are forgotten -/
def lowV (n : Nat) : VV → Bool
  | .obj m => decide (m < n)
  | _ => true
def lowO (n : Nat) : VO → Bool
  | .ins _ _ vs => vs.all (lowV n)
  | .lo vs => vs.all (lowV n)
  | _ => true
def trim (n : Nat) (v : VV) (h : VH) : VH := if h.length = n then h else if lowV n v = true ∧ (h.take n).all (lowO n) = true then h.take n else h
def fnF (k : Nat) (B : SF) : FF := fun vs h => match B (vs.map some ++ List.replicate (k - vs.length) none) h with
  | .nx _ h' => .ok .non (trim h.length .non h')
  | .ret v h' => .ok v (trim h.length v h')
  | .exc x ns vs _ h' => .exc x ns vs h'
  | _ => .no
theorem RTs.start {c : Ct} {g : Gh} {H : Hp} {ws : List VV} {vs : List V} (r : RTs c g H ws vs) (k : Nat) : RS c g H (ws.map some ++ List.replicate (k - ws.length) none) (vs.map some ++ List.replicate (k - vs.length) none) := by
  have hl := r.len
  refine ⟨by simp [hl], fun i v e => ?_⟩
  by_cases hi : i < ws.length
  · rw [List.getElem?_append_left (by simpa using hi), List.getElem?_map] at e
    cases q : ws[i]? with
    | none => rw [q] at e; cases e
    | some w =>
      rw [q] at e
      cases e
      have : ∀ {ws : List VV} {vs : List V} {i : Nat} {v : VV}, RTs c g H ws vs → ws[i]? = some v → ∃ u, vs[i]? = some u ∧ RT c g H v u := by
        intro ws
        induction ws with
        | nil => intro vs i v _ e; simp at e
        | cons x xs ih =>
          intro vs i v r e
          obtain ⟨u, r', rfl, a, b⟩ := r
          cases i with
          | zero => simp at e; subst e; exact ⟨u, rfl, a⟩
          | succ i => exact ih (i := i) b (by simpa using e)
      obtain ⟨u, e2, ru⟩ := this r q
      refine ⟨u, ?_, ru⟩
      rw [List.getElem?_append_left (by rw [List.length_map, ← hl]; exact hi), List.getElem?_map, e2]; rfl
  · rw [List.getElem?_append_right (by simpa using hi), List.getElem?_replicate] at e
    split at e <;> cases e
theorem RT.low {c : Ct} {g g' : Gh} {H : Hp} {n : Nat} (hio : g'.io = g.io.take n) (hfz : g'.fz = g.fz) {v : VV} {u : V} (l : lowV n v = true) (r : RT c g H v u) : RT c g' H v u := by
  cases v with
  | obj m =>
    obtain ⟨a, e, eu⟩ := r
    refine ⟨a, ?_, eu⟩
    rw [hio, List.getElem?_take_of_lt (of_decide_eq_true l)]
    exact e
  | _ => exact RT.of_rv (by rw [hfz]; exact RT.rv r rfl)
theorem RTs.low {c : Ct} {g g' : Gh} {H : Hp} {n : Nat} (hio : g'.io = g.io.take n) (hfz : g'.fz = g.fz) : ∀ {vs : List VV} {us : List V}, vs.all (lowV n) = true → RTs c g H vs us → RTs c g' H vs us
  | [], us, _, r => r
  | x :: xs, us, l, r => by
    rw [List.all_cons, Bool.and_eq_true] at l
    obtain ⟨u, q, e, a, b⟩ := r
    exact ⟨u, q, e, a.low hio hfz l.1, RTs.low hio hfz l.2 b⟩
theorem trim_ok {c : Ct} {g g' : Gh} {h h' : VH} {H H' : Hp} {v : VV} {u : V} (rh : RH c g h H) (st : Stp g H g' H') (rh' : RH c g' h' H') (rv : RT c g' H' v u) :
    ∃ g2, Stp g H g2 H' ∧ RH c g2 (trim h.length v h') H' ∧ RT c g2 H' v u := by
  unfold trim
  by_cases e : h'.length = h.length
  · rw [if_pos e]; exact ⟨g', st, rh', rv⟩
  · rw [if_neg e]
    by_cases cc : lowV h.length v = true ∧ (h'.take h.length).all (lowO h.length) = true
    · rw [if_pos cc]
      have eio : g'.io.take h.length = g.io := by
        obtain ⟨l, hl⟩ := st.io
        rw [← hl, ← rh.len, List.take_left]
      refine ⟨{ io := g.io, fz := g'.fz, kp := g'.kp }, ⟨List.prefix_rfl, st.fz, st.kp, st.fH, st.kH, st.tp⟩, ?_, RT.low (g' := { io := g.io, fz := g'.fz, kp := g'.kp }) (n := h.length) eio.symm rfl cc.1 rv⟩
      have hle : h.length ≤ h'.length := by
        obtain ⟨l, hl⟩ := st.io
        have := congrArg List.length hl
        rw [List.length_append, rh.len, rh'.len] at this
        omega
      refine ⟨by show g.io.length = _; rw [List.length_take, rh.len]; omega, rh.nd, fun n o a h1 h2 => ?_, rh'.fz, rh'.kp, fun q z => ⟨(rh'.kd q z).1, fun y => (rh'.kd q z).2 ?_⟩, rh'.tb, rh'.nt⟩
      · have hn : n < h.length := by
          have := (List.getElem?_eq_some_iff.mp h1).1
          rw [List.length_take] at this; omega
        have h1' : h'[n]? = some o := by rw [List.getElem?_take_of_lt hn] at h1; exact h1
        have h2' : g'.io[n]? = some a := by
          have : g.io[n]? = some a := h2
          rw [← eio, List.getElem?_take_of_lt hn] at this
          exact this
        have ro := rh'.at' n o a h1' h2'
        have lo : lowO h.length o = true := List.all_eq_true.mp cc.2 o (List.mem_of_getElem? h1)
        cases o with
        | fzn v => exact ro
        | fl xs => exact ro
        | lo xs =>
          obtain ⟨q1, us, q3, q4⟩ := ro
          exact ⟨q1, us, q3, RTs.low (g' := { io := g.io, fz := g'.fz, kp := g'.kp }) (n := h.length) eio.symm rfl lo q4⟩
        | dT ks vs => exact ro
        | dK ks vs => exact ro
        | ins x ns vs =>
          obtain ⟨q1, C, dx, us, q3, q4, q5, q6⟩ := ro
          exact ⟨q1, C, dx, us, q3, q4, q5, RTs.low (g' := { io := g.io, fz := g'.fz, kp := g'.kp }) (n := h.length) eio.symm rfl lo q6⟩
      · have : q ∈ g.io := y
        rw [← eio] at this
        exact List.mem_of_mem_take this
    · rw [if_neg cc]; exact ⟨g', st, rh', rv⟩
end
section
variable {P : Program} {w : World} {K : PySem.W.Frag} {mg : Str → Option Value} {base : Heap}
/-- THE RULE for a def -/
theorem fn_ok {x qual : Str} {params : Arguments} {body : List Stmt} {scope : Scope} {dvs : List V} {kws : List (Str × V)} {f : Addr} {fd : FuncData} {N ps : List Str} {k n : Nat} {B : SF} (F : FunD K x qual params body scope dvs kws f fd) (S : FnScope N ps scope) (hn : n = N.length) (hp : ps.length ≤ n)
    (hbody : ∀ (cdv : Value) (A : Around) (outer : List Env) (s : Shared) (H : Hp) (E : XK), Room k (A.deeper (envOfC qual scope s.heap.objs.size f cdv)) →
      PSs (cxOf (L2N.CX P w) P w K mg base N qual scope f cdv A outer s H E) body (tS ⟨K, mg⟩ (fun a d _ H' => E a d H') B)) :
    FnOk P w K mg base (L2N.CX P w) (k + 1) f fd ps (spF ⟨K, mg⟩ ps.length (fnF n B)) := by
  refine F.ok S (fun vs H Q E h => ?_) (fun cdv A outer s H vs Q E hr h => ?_)
  · obtain ⟨g, ws, hh, rh, rt, l, _⟩ := h
    rw [← rt.len]; exact l
  · refine ⟨_, hbody cdv A outer s H E hr, ?_⟩
    obtain ⟨g, ws, hh, rh, rt, l, p⟩ := h
    have rs := rt.start n
    refine ⟨g, ws.map some ++ List.replicate (n - ws.length) none, hh, rh, ?_, ?_⟩
    · rw [hn] at rs ⊢; exact rs
    · unfold fnF at p
      generalize B (ws.map some ++ List.replicate (n - ws.length) none) hh = r at p ⊢
      cases r with
      | no => exact p
      | brk => exact p.elim
      | cnt => exact p.elim
      | nx ρ h' =>
        intro g' H' σ' st rh' rs'
        obtain ⟨g2, s2, rh2, rv2⟩ := trim_ok rh st rh' (rt_non (c := ⟨K, mg⟩))
        exact p g2 H' .non s2 rh2 rv2
      | ret v h' =>
        intro g' H' u st rh' rv
        obtain ⟨g2, s2, rh2, rv2⟩ := trim_ok rh st rh' rv
        exact p g2 H' u s2 rh2 rv2
      | exc x ns vs ρ h' => exact fun g' H' σ' C d us st rh' rs' m e l rv => p g' H' C d us st rh' m e l rv
end
section
variable {X : Cx} {W : WX}
def eFn (n : Nat) (F : FF) (dws : List VV) (a : AF) : EF := fun ρ h => (a ρ h).bind fun vs h1 => if (vs ++ dws).length = n then F (vs ++ dws) h1 else .no
theorem RTs.append {c : Ct} {g : Gh} {H : Hp} : ∀ {vs ws : List VV} {us ys : List V}, RTs c g H vs us → RTs c g H ws ys → RTs c g H (vs ++ ws) (us ++ ys)
  | [], ws, us, ys, r, q => by rw [show us = [] from r]; exact q
  | x :: xs, ws, us, ys, r, q => by
    obtain ⟨u, r', rfl, a, b⟩ := r
    exact ⟨u, _, rfl, a, RTs.append b q⟩
theorem pst_call {σ : St} {g : Gh} {H : Hp} {Q : VK} {r : Res VV} (h : Pst (ct X) W σ (RT (ct X)) g H Q r) : Pst (ct X) (fun a d _ H' => WE W σ a d H') [] (RT (ct X)) g H Q r := by
  cases r with
  | no => exact h
  | ok => exact h
  | exc => exact h
/-- from arguments to a def's promise -/
theorem tCall_of {n : Nat} {F : FF} {fa : AF} {dws : List VV} {dvs : List V} (hd : ∀ g H, RTs (ct X) g H dws dvs) {σ : St} {H : Hp} {Q : VK} (h : tE (ct X) W (eFn n F dws fa) σ H Q) :
    tCallSD (spF (ct X) n F) dvs (WE W) (tA (ct X) W fa) σ H Q := by
  obtain ⟨g, ρ, h0, rh, rs, p⟩ := h
  refine ⟨g, ρ, h0, rh, rs, ?_⟩
  unfold eFn at p
  cases e : fa ρ h0 with
  | no => rw [e] at p; exact p
  | exc => rw [e] at p; exact p
  | ok vs h1 =>
    rw [e] at p
    simp only [Res.bind] at p
    by_cases hl : (vs ++ dws).length = n
    · rw [if_pos hl] at p
      intro g' H' us st rh' rts
      exact ⟨g', vs ++ dws, h1, rh', RTs.append rts (hd g' H'), hl, pst_call (Pst.step st p)⟩
    · rw [if_neg hl] at p; exact p.elim
theorem j_call {k n : Nat} {f : Addr} {fd : FuncData} {ps : List Str} {Fm : FF} {dvs : List V} {dws : List VV} {ds : List Value} {x : Str} {p pos : Pos} {e : Expr} {es : List Expr} {fa : AF}
    (F : FnOk X.prog X.w X.K X.mg X.base (L2N.CX X.prog X.w) k f fd ps (spF (ct X) n Fm)) (hr : Room k X.A) (hg : Gl X x) (hm : X.mg x = some (.ref f)) (hk : PySem.W.keepIn X.K (.ref f) = true) (hb : Binds X.K fd ps ds) (hd : Vals dvs ds) (rd : ∀ g H, RTs (ct X) g H dws dvs) (tk : L2N.Takes X W)
    (ha : PA X (e :: es) (tA (ct X) W fa)) (hdb : (x == ("__debug__" : Str)) = false := by decide) (he : starEach (e :: es) X.env = (false, eval e X.env) :: starEach es X.env := by rfl) (hpl : (backTo pos (starEach es X.env)).any (·.1) = false := by rfl) :
    PE X (.Call (.Name x p) (e :: es) [] pos) (tE (ct X) W (eFn n Fm dws fa)) :=
  PE.mono (pe_callSD (E := WE W) F hr hg hm hk hb hd (fun σ => L2N.passAt tk σ) ha hdb he hpl) fun σ H Q h => tCall_of rd h
/-! more statements -/
theorem js_setLc {i : Nat} {y : Str} {py : Pos} {elt tg iter : Expr} {ifs : List Expr} {scope : Scope} {own : List (Str × Nat)} {pos spos : Pos} {it : AF} {g : TG} {b : VV → VSt → Option VSt} {ft : TF} {fe : EF} (hc : X.calm = true) (hN : X.N.Nodup) (hy : X.N[i]? = some y) (hyl : X.env.scope.names.lookup y = some .local)
    (hsw : swapsWith (.ListComp elt [⟨tg, iter, ifs, 0⟩] scope pos) (some (.Name y py)) spos.line X.env = pure true) (hi : PI X tg iter (tI (ct X) W it)) (ok : BlkOk X.N X.env.scope scope own)
    (hg : ∀ (s : Shared) (H : Hp) (C : Addr) (cl : List (Str × Addr)) (fp : List Addr), PG (X.blk s H scope (compEnvC scope cl C X.env) fp) tg g) (pat : PatOk X.K g b (own.map (·.2)))
    (ht : ∀ (s : Shared) (H : Hp) (C : Addr) (cl : List (Str × Addr)) (fp : List Addr), PTs (X.blk s H scope (compEnvC scope cl C X.env) fp) ifs (tT (ct X) W0 ft))
    (he : ∀ (s : Shared) (H : Hp) (C : Addr) (cl : List (Str × Addr)) (fp : List Addr), PE (X.blk s H scope (compEnvC scope cl C X.env) fp) elt (tE (ct X) W0 fe)) (hs : ∀ x, foldedSetIterable iter X.env x = pure x := by intro _; rfl) :
    PS X (.Assign [.Name y py] (.ListComp elt [⟨tg, iter, ifs, 0⟩] scope pos) spos) (tS (ct X) W (sSet i (eLc (own.map (·.2)) it b ft fe))) :=
  PS.mono (ps_setLc hc hN hy hyl hsw hi ok hg ht he hs) fun D σ H ⟨g, ρ, h, rh, rs, p⟩ => by
    refine tLc_of (mk := fun vs h => .ok (.lst vs) h) pat mk_lst (show tE (ct X) W (eLc (own.map (·.2)) it b ft fe) σ H _ from ⟨g, ρ, h, rh, rs, (Pst.st (R := RT (ct X)) rs p).imp fun u H1 ⟨g1, v, h1, st, rh1, rs1, rv1, p1⟩ => ?_⟩)
    exact p1 g1 H1 _ .refl rh1 (rs1.set rv1 i)
def sPar (i j : Nat) (a : AF) : SF := fun ρ h => (a ρ h).st ρ fun vs h1 => match vs with
  | [v, w] => .nx ((ρ.set i (some v)).set j (some w)) h1
  | _ => .no
def sPar3 (i j l : Nat) (a : AF) : SF := fun ρ h => (a ρ h).st ρ fun vs h1 => match vs with
  | [u, v, w] => .nx (((ρ.set i (some u)).set j (some v)).set l (some w)) h1
  | _ => .no
/-! a root that is a list: written, read as data -/
def setI (h : VH) (o i v : VV) : Option VH := match o, i with
  | .obj n, .int k => match h[n]? with
    | some (.fl xs) => match ixN xs.length k with
      | some j => if v.isObj = true then none else some (h.set n (.fl (xs.set j v)))
      | none => none
    | _ => none
  | _, _ => none
theorem setI_ok {c : Ct} {g : Gh} {h h' : VH} {H : Hp} {o i v : VV} {uo ui uv : V} (rh : RH c g h H) (ro : RT c g H o uo) (ri : RT c g H i ui) (rv : RT c g H v uv) (e : setI h o i v = some h') (Q : Hp → Prop) (k : ∀ H', Stp g H g H' → RH c g h' H' → Q H') : rSetL uo ui uv H Q := by
  unfold setI at e
  split at e
  · rename_i n kk
    split at e
    · rename_i xs en
      split at e
      · rename_i j ej
        split at e
        · cases e
        · rename_i ov
          cases e
          obtain ⟨a, ea, eo⟩ := ro
          have hro := rh.at' n _ a en ea
          obtain ⟨nz, us, hl, rvs⟩ := hro
          have nk : ¬ g.kp a := fun z => (rh.kd a z).2 (List.mem_of_getElem? ea)
          have st : Stp g H g (upd H a (.lst (us.set j uv))) := Stp.wr (c := c) nz nk (fun ys z => by rw [hl] at z; cases z)
          refine ⟨a, us, kk, j, eo, int_get ri, hl, by rw [← rvs.len]; exact ej, k _ st (rh.wr ea nz (fun ys z => by rw [hl] at z; cases z) ?_)⟩
          exact ⟨nz, _, upd_same, st.rvs (RVs.set (rv.rv (by simpa using ov)) rvs)⟩
      · cases e
    · cases e
  · cases e
def sSetI (o i e : EF) : SF := fun ρ h => (e ρ h).st ρ fun v h1 => (o ρ h1).st ρ fun ov h2 => (i ρ h2).st ρ fun iv h3 => match setI h3 ov iv v with
  | some h4 => .nx ρ h4
  | none => .no
theorem js_setI {o i e : Expr} {fo fi fe : EF} {pos pos' : Pos} (he : PE X e (tE (ct X) W fe)) (ho : PE X o (tE (ct X) W fo)) (hi : PE X i (tE (ct X) W fi))
    (ha : ∀ v, assign (.Subscript o i pos') X.env v = (do
      let ov ← holding [v] (eval o X.env)
      let iv ← holding [v, ov] (eval i X.env)
      standAt pos'
      holding [v, ov, iv] (setItem ov iv v)
      release [v, ov, iv] []) := by intro _; rfl)
    (hs : swapsWithSole [.Subscript o i pos'] e pos.line X.env = pure false := by rfl) (hw : swappedStores [.Subscript o i pos'] e X.env = pure none := by rfl) (h1 : (assignEach [.Subscript o i pos'] X.env).map (·.2) = [assign (.Subscript o i pos') X.env] := by rfl) :
    PS X (.Assign [.Subscript o i pos'] e pos) (tS (ct X) W (sSetI fo fi fe)) :=
  PS.mono (ps_asg he (pg_sub ho hi set_list ha) hs hw h1) fun D σ H ⟨g, ρ, h, rh, rs, p⟩ => by
    refine ⟨g, ρ, h, rh, rs, (Pst.st (R := RT (ct X)) rs p).imp fun u H1 ⟨g1, v, h1, st, rh1, rs1, rv1, p1⟩ => ?_⟩
    refine ⟨g1, ρ, h1, rh1, rs1, (Pst.st (R := RT (ct X)) rs1 p1).imp fun u2 H2 ⟨g2, ov, h2, st2, rh2, rs2, rv2, p2⟩ => ?_⟩
    refine ⟨g2, ρ, h2, rh2, rs2, (Pst.st (R := RT (ct X)) rs2 p2).imp fun u3 H3 ⟨g3, iv, h3, st3, rh3, rs3, rv3, p3⟩ => ?_⟩
    cases e : setI h3 ov iv v with
    | none => rw [e] at p3; exact p3.elim
    | some h4 =>
      rw [e] at p3
      exact setI_ok rh3 (rv2.stp st3) rv3 ((rv1.stp st2).stp st3) e _ fun H' st' rh' => p3 g3 H' σ st' rh' (rs3.stp st')
def appV (h2 : VH) (ov v : VV) : Res VV := match ov with
    | .obj n => match h2[n]? with
      | some (.fl xs) => if xs.length ≥ SZ then .no else if v.isObj = true then .ok .non (h2.set n (.lo (xs ++ [v]))) else .ok .non (h2.set n (.fl (xs ++ [v])))
      | some (.lo xs) => if xs.length ≥ SZ then .no else .ok .non (h2.set n (.lo (xs ++ [v])))
      | _ => .no
    | _ => .no
theorem RTs.app {c : Ct} {g : Gh} {H : Hp} : ∀ {vs ws : List VV} {us ys : List V}, RTs c g H vs us → RTs c g H ws ys → RTs c g H (vs ++ ws) (us ++ ys)
  | [], ws, us, ys, h, k => by rw [show us = [] from h]; exact k
  | x :: xs, ws, us, ys, h, k => by
    obtain ⟨u, r, rfl, a, b⟩ := h
    exact ⟨u, _, rfl, a, RTs.app b k⟩
theorem RTs.one {c : Ct} {g : Gh} {H : Hp} {v : VV} {u : V} (q : RT c g H v u) : RTs c g H [v] [u] := ⟨u, [], rfl, q, rfl⟩
def eApp (o e : EF) : EF := fun ρ h => (o ρ h).bind fun ov h1 => match lstR h1 ov with
  | none => .no
  | some _ => (e ρ h1).bind fun v h2 => appV h2 ov v
theorem j_app {o e : Expr} {fo fe : EF} {apos cpos : Pos} (ho : PE X o (tE (ct X) W fo)) (ha : PE X e (tE (ct X) W fe)) (hs1 : starEach (e :: []) X.env = (false, eval e X.env) :: starEach [] X.env := by rfl)
    (hbase : attributeBase o "append" X.env (eval o X.env) = eval o X.env := by rfl)
    (hfew : ((backTo cpos (starEach [e] X.env)).all (fun x => !x.1) && (backToKw cpos (keywordEach [] X.env)).all (fun x => x.1.isSome)
      && decide ([e].length + ([] : List Keyword).length + (if ([] : List Keyword).isEmpty then 0 else 1) < 30)) = true := by rfl)
    (hline : (apos.endLine == cpos.line) = true := by rfl) (hplain : (backTo cpos (starEach [] X.env)).any (·.1) = false := by rfl) :
    PE X (.Call (.Attribute o "append" apos) [e] [] cpos) (tE (ct X) W (eApp fo fe)) :=
  PE.mono (pe_bm PySem.F.plainAttrs_list PySem.F.slot_list_append PySem.F.type_list_append mt_append ho (pa_cons ha pa_nil hs1) hbase hfew hline hs1 hplain) fun σ H Q ⟨g, ρ, h0, rh, rs, p⟩ => by
    refine ⟨g, ρ, h0, rh, rs, (Pst.bind (R := RT (ct X)) p).imp fun u H1 ⟨g1, ov, h1, st, rh1, rv1, p1⟩ => ?_⟩
    cases e : lstR h1 ov with
    | none => rw [e] at p1; exact p1.elim
    | some ys =>
      rw [e] at p1
      obtain ⟨a, us, eu, sq, rvs⟩ := lstR_get rh1 rv1 e
      refine ⟨by rw [eu]; exact .inl ⟨rfl, us, sq⟩, g1, ρ, h1, rh1, rs.stp st, (Pst.bind (R := RT (ct X)) p1).imp fun u2 H2 ⟨g2, v, h2, st2, rh2, rv2, p2⟩ => ?_⟩
      cases ov with
      | obj n =>
        unfold appV at p2
        simp only at p2
        obtain ⟨b, eb, eu'⟩ := rv1.stp st2
        split at p2
        · rename_i xs en
          obtain ⟨nz, ws, hl, rws⟩ := rh2.at' n _ b en eb
          split at p2
          · exact p2.elim
          · rename_i cc
            have nk : ¬ g2.kp b := fun z => (rh2.kd b z).2 (List.mem_of_getElem? eb)
            have nt : ∀ ys, H2 b ≠ some (.tup ys) := fun ys z => by rw [hl] at z; cases z
            have stw : Stp g2 H2 g2 (upd H2 b (.lst (ws ++ [u2]))) := Stp.wr (c := ct X) nz nk nt
            refine ⟨b, ws, u2, eu', rfl, hl, by rw [← rws.len]; exact SZ_lt (by omega), ?_⟩
            split at p2
            · exact p2 g2 _ .non stw (rh2.wr eb nz nt ⟨nz, _, upd_same, (RTs.app (RTs.of_rvs rws) (RTs.one rv2)).stp stw⟩) rt_non
            · rename_i cv
              exact p2 g2 _ .non stw (rh2.wr eb nz nt ⟨nz, _, upd_same, stw.rvs (RVs.app rws (RVs.one (rv2.rv (by simpa using cv))))⟩) rt_non
        · rename_i xs en
          obtain ⟨nz, ws, hl, rws⟩ := rh2.at' n _ b en eb
          split at p2
          · exact p2.elim
          · rename_i cc
            have nk : ¬ g2.kp b := fun z => (rh2.kd b z).2 (List.mem_of_getElem? eb)
            have nt : ∀ ys, H2 b ≠ some (.tup ys) := fun ys z => by rw [hl] at z; cases z
            have stw : Stp g2 H2 g2 (upd H2 b (.lst (ws ++ [u2]))) := Stp.wr (c := ct X) nz nk nt
            refine ⟨b, ws, u2, eu', rfl, hl, by rw [← rws.len]; exact SZ_lt (by omega), ?_⟩
            exact p2 g2 _ .non stw (rh2.wr eb nz nt ⟨nz, _, upd_same, (RTs.app rws (RTs.one rv2)).stp stw⟩) rt_non
        · exact p2.elim
      | _ => exact p2.elim
end
end J
namespace J
open PySem L2
/-! numbers -/
def isInt2 (f : Int → Int → Option VV) : Op2 := fun _ v w => match v, w with
  | .int i, .int j => f i j
  | _, _ => none
def opSub : Op2 := isInt2 fun i j => some (.int (i - j))
def opLt : Op2 := isInt2 fun i j => some (.bl (decide (i < j)))
def opLe : Op2 := isInt2 fun i j => some (.bl (decide (i ≤ j)))
def opGt : Op2 := isInt2 fun i j => some (.bl (decide (j < i)))
def opGe : Op2 := isInt2 fun i j => some (.bl (decide (j ≤ i)))
def opFdiv : Op2 := isInt2 fun i j => if j ≠ 0 ∧ j.natAbs.log2 < 9000 then some (.int (i.fdiv j)) else none
def opMod : Op2 := isInt2 fun i j => if j ≠ 0 then some (.int (i.fmod j)) else none
def mulOk (i j : Int) : Bool := decide (i.natAbs < 2 ^ 64) || decide (j.natAbs < 2 ^ 64) || decide (i.natAbs.log2 + j.natAbs.log2 < 1000000)
def opPow : Op2 := isInt2 fun i j => if 0 ≤ j ∧ j ≤ 1000000 ∧ i.natAbs < 2 ^ 64 then some (.int (i ^ j.toNat)) else none
def opNeg : Op1 := fun _ v => match v with
  | .int i => some (.int (-i))
  | _ => none
def opAdd : Op2 := fun h v w => match v, w with
  | .int i, .int j => some (.int (i + j))
  | .str x, .str y => if x.length + y.length ≤ SZ then some (.str (x ++ y)) else none
  | .tup xs, .tup ys => if xs.length + ys.length ≤ SZ then some (.tup (xs ++ ys)) else none
  | .lst xs, .lst ys => if xs.length + ys.length ≤ SZ then some (.lst (xs ++ ys)) else none
  | _, _ => none
def opMul : Op2 := fun h v w => match v, w with
  | .int i, .int j => if mulOk i j = true then some (.int (i * j)) else none
  | .lst xs, .int k => if -(2 ^ 63) ≤ k ∧ k < 2 ^ 63 ∧ xs.length * k.toNat ≤ SZ then some (.lst (List.replicate k.toNat xs).flatten) else none
  | _, _ => none
section
variable {X : Cx} {W : WX}
theorem opR_int {f : Value → Value → Sem Value} {C : Int → Int → Prop} {g : Int → Int → V} {o : Int → Int → Option VV} (h : OpR X f (rI C g)) (ho : ∀ i j r, o i j = some r → C i j ∧ ∀ c z H, RV c z H r (g i j)) : OpR X f (Rd2 (ct X) (isInt2 o)) :=
  OpR.imp h fun x y H Q ⟨g0, hh, v, w, r, rh, rv, rw', e, k⟩ => by
    unfold isInt2 at e
    split at e
    · rename_i i j
      obtain ⟨c, rr⟩ := ho i j r e
      exact ⟨i, j, int_get rv, int_get rw', c, k g0 H _ .refl rh (RT.of_rv (rr _ _ _))⟩
    · cases e
theorem opR_int0 {f : Value → Value → Sem Value} {g : Int → Int → V} {o : Int → Int → Option VV} (h : OpR X f (rI0 g)) (ho : ∀ i j r, o i j = some r → ∀ c z H, RV c z H r (g i j)) : OpR X f (Rd2 (ct X) (isInt2 o)) :=
  OpR.imp h fun x y H Q ⟨g0, hh, v, w, r, rh, rv, rw', e, k⟩ => by
    unfold isInt2 at e
    split at e
    · rename_i i j
      have rr := ho i j r e
      exact ⟨i, j, int_get rv, int_get rw', k g0 H _ .refl rh (RT.of_rv (rr _ _ _))⟩
    · cases e
theorem rv_int (c : Ct) (z : Addr → Prop) (H : Hp) (i : Int) : RV c z H (.int i) (.int i) := by rw [RV]
theorem rv_bl (c : Ct) (z : Addr → Prop) (H : Hp) (i : Bool) : RV c z H (.bl i) (.bl i) := by rw [RV]
theorem or_sub : OpR X (binaryOp .Sub) (Rd2 (ct X) opSub) := opR_int0 op_sub fun i j r e => by cases e; exact fun c z H => rv_int c z H _
theorem or_lt : OpR X (compareOp .Lt) (Rd2 (ct X) opLt) := opR_int0 op_lt fun i j r e => by cases e; exact fun c z H => rv_bl c z H _
theorem or_le : OpR X (compareOp .LtE) (Rd2 (ct X) opLe) := opR_int0 op_le fun i j r e => by cases e; exact fun c z H => rv_bl c z H _
theorem or_gt : OpR X (compareOp .Gt) (Rd2 (ct X) opGt) := opR_int0 op_gt fun i j r e => by cases e; exact fun c z H => rv_bl c z H _
theorem or_ge : OpR X (compareOp .GtE) (Rd2 (ct X) opGe) := opR_int0 op_ge fun i j r e => by cases e; exact fun c z H => rv_bl c z H _
theorem or_fdiv : OpR X (binaryOp .FloorDiv) (Rd2 (ct X) opFdiv) :=
  opR_int (C := fun _ j => j ≠ 0 ∧ j.natAbs.log2 < 9000) (g := fun i j => .int (i.fdiv j)) (opI fun _ _ _ _ _ _ _ hc q => PyProof.Rows.floordiv_int hc.1 q (.inl (PyProof.noPylong_of_log2 hc.2))) fun i j r e => by
    split at e
    · rename_i h; cases e; exact ⟨h, fun c z H => rv_int c z H _⟩
    · cases e
theorem or_mod : OpR X (binaryOp .Mod) (Rd2 (ct X) opMod) :=
  opR_int (C := fun _ j => j ≠ 0) (g := fun i j => .int (i.fmod j)) op_modN fun i j r e => by
    split at e
    · rename_i h; cases e; exact ⟨h, fun c z H => rv_int c z H _⟩
    · cases e
theorem or_pow : OpR X (binaryOp .Pow) (Rd2 (ct X) opPow) :=
  opR_int (C := CPow) (g := fun i j => .int (i ^ j.toNat)) op_pow fun i j r e => by
    split at e
    · rename_i h; cases e; exact ⟨h, fun c z H => rv_int c z H _⟩
    · cases e
theorem ur_neg : UnR X (unaryOp .USub) (Rd1 (ct X) opNeg) :=
  UnR.imp un_neg fun x H Q ⟨g0, hh, v, r, rh, rv, e, k⟩ => by
    cases v with
    | int i => cases e; exact ⟨i, int_get rv, k g0 H _ .refl rh rt_int⟩
    | _ => cases e
/-- new frozen data -/
theorem new_lst {c : Ct} {g : Gh} {h : VH} {H : Hp} {p : Addr} {xs : List VV} {us : List V} (rh : RH c g h H) (hp : H p = none) (rv : RVs c g.fz H xs us) :
    Stp g H (g.frz p) (upd H p (.lst us)) ∧ RH c (g.frz p) h (upd H p (.lst us)) ∧ RT c (g.frz p) (upd H p (.lst us)) (.lst xs) (.ref p) := by
  refine ⟨.new rh hp, rh.new hp, ?_⟩
  show RV _ _ _ _ _
  rw [RV]
  exact ⟨p, us, rfl, .inr rfl, upd_same, (Stp.new rh hp).rvs rv⟩
/-- () + t -/
theorem op_catT0 : OpR X (binaryOp .Add) (fun x y H Q => ∃ a b ys, x = .ref a ∧ y = .ref b ∧ SqT X.K H a [] ∧ SqT X.K H b ys ∧ Q (.ref b) H) := by
  intro pins s σ H x y v u Q I rx ry h
  obtain ⟨a, b, ys, e1, e2, ha, hb, q⟩ := h
  subst e1; subst e2
  cases rx
  cases ry
  obtain ⟨its, r, ht, hz⟩ := I.tuple ha
  obtain ⟨its2, r2, ht2, hz2⟩ := I.tuple hb
  have e0 : its = [] := by cases r; rfl
  subst e0
  obtain ⟨⟨cls, dd, data, sl⟩, ho, hc, n, hd⟩ := id ht
  obtain ⟨⟨cls2, dd2, data2, sl2⟩, ho2, hc2, n2, hd2⟩ := id ht2
  simp only at hc hd hc2 hd2
  subst hc hd hc2 hd2
  exact PySem.concat_meets ⟨_, ho, rfl⟩ ⟨_, ho2, rfl⟩ noFill_tuple_add seq_tuple_add PySem.F.slot_tuple_add PySem.F.entry_tuple_add (PySem.F.args_tuple_add_2 _ _)
      (PyProof.Rows.tuple_addW0 a b (([] : List Value).toArray) its2.toArray n n2 dd dd2 sl sl2 (by simp)) ⟨ho, ho2, ⟨.ref b, H, I, rfl, q⟩⟩
theorem or_add : OpR X (binaryOp .Add) (Rd2 (ct X) opAdd) :=
  OpR.imp (OpR.or op_add (OpR.or op_add_str (OpR.or op_catT (OpR.or op_cat op_catT0)))) fun x y H Q ⟨g, h, v, w, r, rh, rv, rw', e, k⟩ => by
    unfold opAdd at e
    split at e
    · cases e
      exact .inl ⟨_, _, int_get rv, int_get rw', k g H _ .refl rh rt_int⟩
    · split at e
      · rename_i hl
        cases e
        exact .inr (.inl ⟨_, _, str_get rv, str_get rw', SZ_le hl, k g H _ .refl rh rt_str⟩)
      · cases e
    · split at e
      · rename_i xs ys hl
        cases e
        obtain ⟨p, us, ep, sp, rp⟩ := tup_get rv
        obtain ⟨q, ws, eq, sq, rq⟩ := tup_get rw'
        by_cases hx : us = []
        · subst hx
          have hx' : xs = [] := List.length_eq_zero_iff.mp rp.len
          subst hx'
          exact .inr (.inr (.inr (.inr ⟨p, q, ws, ep, eq, sp.sq, sq.sq, by rw [← eq]; exact k g H y .refl rh (by rw [List.nil_append]; exact rw')⟩)))
        · refine .inr (.inr (.inl ⟨p, q, us, ws, ep, eq, sp.sq, sq.sq, hx, by rw [← rp.len, ← rq.len]; exact SZ_le hl, fun z => ?_, fun _ p hp => ?_⟩))
          · subst z
            have hy' : ys = [] := List.length_eq_zero_iff.mp rq.len
            subst hy'
            rw [← ep]
            exact k g H x .refl rh (by rw [List.append_nil]; exact rv)
          · obtain ⟨s1, s2, s3⟩ := pair_new rh hp (RVs.app rp rq)
            exact k _ _ _ s1 s2 s3
      · cases e
    · split at e
      · rename_i hl
        cases e
        obtain ⟨p, us, ep, sp, rp⟩ := lstOf'_get rh rv rfl
        obtain ⟨q, ws, eq, sq, rq⟩ := lstOf'_get rh rw' rfl
        refine .inr (.inr (.inr (.inl ⟨p, q, us, ws, ep, eq, sp, sq, by rw [← rp.len, ← rq.len]; exact SZ_le hl, fun p hp => ?_⟩)))
        obtain ⟨s1, s2, s3⟩ := new_lst rh hp (RVs.app rp rq)
        exact k _ _ _ s1 s2 s3
      · cases e
    · cases e
theorem RVs.rep {c : Ct} {z : Addr → Prop} {H : Hp} {xs : List VV} {us : List V} (r : RVs c z H xs us) : ∀ n : Nat, RVs c z H (List.replicate n xs).flatten (List.replicate n us).flatten
  | 0 => RVs.nil
  | n + 1 => by
    rw [List.replicate_succ, List.replicate_succ, List.flatten_cons, List.flatten_cons]
    exact RVs.app r (RVs.rep r n)
theorem mulOk_ok {i j : Int} (h : mulOk i j = true) : IntMulOk i j := by
  unfold mulOk at h
  rw [Bool.or_eq_true, Bool.or_eq_true] at h
  rcases h with (h | h) | h
  · have := of_decide_eq_true h
    exact IntMulOk.of_left (intBits_le_64 (by omega) (by omega))
  · have := of_decide_eq_true h
    exact IntMulOk.of_right (intBits_le_64 (by omega) (by omega))
  · exact CMulW.ok (show CMulW i j from of_decide_eq_true (p := i.natAbs.log2 + j.natAbs.log2 < 1000000) h)
theorem or_mul : OpR X (binaryOp .Mult) (Rd2 (ct X) opMul) :=
  OpR.imp (OpR.or (opI (C := fun i j => mulOk i j = true) (g := fun i j => i * j) fun _ _ _ _ _ _ _ hc q => PyProof.Rows.mul_int q (mulOk_ok hc)) op_rep) fun x y H Q ⟨g, h, v, w, r, rh, rv, rw', e, k⟩ => by
    unfold opMul at e
    split at e
    · split at e
      · rename_i hm
        cases e
        exact .inl ⟨_, _, int_get rv, int_get rw', hm, k g H _ .refl rh rt_int⟩
      · cases e
    · split at e
      · rename_i hl
        cases e
        obtain ⟨p, us, ep, sp, rp⟩ := lstOf'_get rh rv rfl
        refine .inr ⟨p, _, us, ep, int_get rw', sp, hl.1, hl.2.1, by rw [← rp.len]; exact SZ_le hl.2.2, fun p hp => ?_⟩
        obtain ⟨s1, s2, s3⟩ := new_lst rh hp (RVs.rep rp _)
        exact k _ _ _ s1 s2 s3
      · cases e
    · cases e
/-! places -/
def opIx : Op2 := fun h v w => match v, w with
  | .tup xs, .int i => atI xs i
  | .str z, .int i => if z.length ≤ SZ then (atI z.cps.toList i).map fun c => .str ⟨#[c]⟩ else none
  | v, .int i => (lstR h v).bind fun xs => atI xs i
  | _, _ => none
theorem atI_rv {c : Ct} {z : Addr → Prop} {H : Hp} {xs : List VV} {us : List V} {i : Int} {v : VV} (r : RVs c z H xs us) (e : atI xs i = some v) : ∃ u, atI us i = some u ∧ RV c z H v u := by
  unfold atI at e ⊢
  rw [← r.len]
  cases q : ixN xs.length i with
  | none => rw [q] at e; cases e
  | some j => rw [q] at e; exact r.get e
theorem RTs.get {c : Ct} {g : Gh} {H : Hp} : ∀ {vs : List VV} {us : List V} {i : Nat} {v : VV}, RTs c g H vs us → vs[i]? = some v → ∃ u, us[i]? = some u ∧ RT c g H v u
  | [], us, i, v, h, e => by simp at e
  | x :: xs, us, i, v, h, e => by
    obtain ⟨u, r, rfl, a, b⟩ := h
    cases i with
    | zero => simp at e; subst e; exact ⟨u, rfl, a⟩
    | succ i => exact RTs.get (i := i) b (by simpa using e)
theorem atI_rt {c : Ct} {g : Gh} {H : Hp} {xs : List VV} {us : List V} {i : Int} {v : VV} (r : RTs c g H xs us) (e : atI xs i = some v) : ∃ u, atI us i = some u ∧ RT c g H v u := by
  unfold atI at e ⊢
  rw [← r.len]
  cases q : ixN xs.length i with
  | none => rw [q] at e; cases e
  | some j => rw [q] at e; exact r.get e
theorem ir_ix : IxR X (Rd2 (ct X) opIx) :=
  IxR.imp ix_seq fun x y H Q ⟨g, h, v, w, r, rh, rv, rw', e, k⟩ => by
    unfold opIx at e
    split at e
    · rename_i xs i
      obtain ⟨p, us, ep, sp, rp⟩ := tup_get rv
      obtain ⟨u, eu, ru⟩ := atI_rv rp e
      exact .inr (.inl ⟨p, us, i, u, ep, int_get rw', sp.sq, eu, k g H u .refl rh (RT.of_rv ru)⟩)
    · rename_i z i
      split at e
      · rename_i hz
        cases q : atI z.cps.toList i with
        | none => rw [q] at e; cases e
        | some cc =>
          rw [q] at e
          cases e
          exact .inr (.inr ⟨z, i, cc, str_get rv, int_get rw', SZ_le hz, q, k g H _ .refl rh rt_str⟩)
      · cases e
    · rename_i v i _ _
      obtain ⟨xs, e1, e2⟩ := Option.bind_eq_some_iff.mp e
      obtain ⟨p, us, ep, sp, rp⟩ := lstR_get rh rv e1
      obtain ⟨u, eu, ru⟩ := atI_rt rp e2
      exact .inl ⟨p, us, i, u, ep, int_get rw', sp, eu, k g H u .refl rh ru⟩
    · cases e
/-! slices: data -/
abbrev POF := VSt → VH → Res (Option Int)
def RO_ (_ : Gh) (_ : Hp) (a b : Option Int) : Prop := b = a
abbrev tO (c : Ct) (W : WX) (f : POF) : TO := tG c W RO_ f
def oNone : POF := fun _ h => .ok none h
def oSome (a : EF) : POF := fun ρ h => (a ρ h).bind fun v h1 => match v with
  | .int i => .ok (some i) h1
  | _ => .no
theorem PO.mono {e : Option Expr} {t t' : TO} (h : PO X e t) (m : ∀ σ H Q, t' σ H Q → t σ H Q) : PO X e t' := ⟨fun pins s σ H Q I q => h.run pins s σ H Q I (m σ H Q q)⟩
theorem jo_none : PO X none (tO (ct X) W oNone) := PO.mono po_none fun σ H Q ⟨g, ρ, h, rh, rs, p⟩ => p g H none .refl rh rfl
theorem jo_some {e : Expr} {f : EF} (h : PE X e (tE (ct X) W f)) : PO X (some e) (tO (ct X) W (oSome f)) :=
  PO.mono (po_some h) fun σ H Q ⟨g, ρ, h0, rh, rs, p⟩ => by
    refine ⟨g, ρ, h0, rh, rs, (Pst.bind (R := RT (ct X)) p).imp fun u H1 ⟨g1, v, h1, st, rh1, rv1, p1⟩ => ?_⟩
    cases v with
    | int i => exact ⟨i, int_get rv1, p1 g1 H1 _ .refl rh1 rfl⟩
    | _ => exact p1.elim
def cut (xs : List VV) (lo hi : Option Int) : List VV := (xs.drop (HT.sIx xs.length 0 lo)).take (HT.sIx xs.length xs.length hi - HT.sIx xs.length 0 lo)
theorem RVs.cut {c : Ct} {z : Addr → Prop} {H : Hp} {xs : List VV} {us : List V} (r : RVs c z H xs us) (lo hi : Option Int) : RVs c z H (J.cut xs lo hi) (cutV us lo hi) := by
  unfold J.cut cutV
  rw [r.len]
  exact RVs.take _ (RVs.drop _ r)
abbrev OpS := VH → VV → Option Int → Option Int → Option VV
def opSl : OpS := fun h v lo hi => match v with
  | .tup xs => some (.tup (cut xs lo hi))
  | .str z => if z.length ≤ SZ then some (.str (cutS z lo hi)) else none
  | v => (lstOf h v).map fun xs => .lst (cut xs lo hi)
def eSl (op : OpS) (a : EF) (lo hi : POF) : EF := fun ρ h => (a ρ h).bind fun v h1 => (lo ρ h1).bind fun l h2 => (hi ρ h2).bind fun u h3 => lift (op h3 v l u) h3
theorem j_sl {e : Expr} {lo hi : Option Expr} {p2 pos : Pos} {fe : EF} {fl fh : POF} (he : PE X e (tE (ct X) W fe)) (hl : PO X lo (tO (ct X) W fl)) (hu : PO X hi (tO (ct X) W fh)) : PE X (.Subscript e (.Slice lo hi none p2) pos) (tE (ct X) W (eSl opSl fe fl fh)) :=
  PE.mono (pe_slice (SlR.or sl_list (SlR.or sl_tupA sl_str)) he hl hu) fun σ H Q ⟨g, ρ, h0, rh, rs, p⟩ => by
    refine ⟨g, ρ, h0, rh, rs, (Pst.bind (R := RT (ct X)) p).imp fun u H1 ⟨g1, v, h1, st, rh1, rv1, p1⟩ => ?_⟩
    refine ⟨g1, ρ, h1, rh1, rs.stp st, (Pst.bind (R := RO_) p1).imp fun l H2 ⟨g2, l', h2, st2, rh2, el, p2⟩ => ?_⟩
    cases el
    refine ⟨g2, ρ, h2, rh2, (rs.stp st).stp st2, (Pst.bind (R := RO_) p2).imp fun l2 H3 ⟨g3, l2', h3, st3, rh3, el2, p3⟩ => ?_⟩
    cases el2
    have rv3 := (rv1.stp st2).stp st3
    unfold lift at p3
    cases er : opSl h3 v l l2 with
    | none => rw [er] at p3; exact p3.elim
    | some r =>
      rw [er] at p3
      unfold opSl at er
      split at er
      · cases er
        obtain ⟨p, us, ep, sp, rp⟩ := tup_get rv3
        refine .inr (.inl ⟨p, us, ep, sp.sq, fun hw => ?_, fun hne p hp => ?_⟩)
        · rw [← rp.len] at hw
          unfold J.cut at p3
          rw [hw.1, hw.2, List.drop_zero, Nat.sub_zero, List.take_length] at p3
          rw [← ep]
          exact p3 g3 H3 _ .refl rh3 rv3
        · obtain ⟨s1, s2, s3⟩ := pair_new rh3 hp (RVs.cut rp l l2)
          exact p3 _ _ _ s1 s2 s3
      · split at er
        · rename_i hz
          cases er
          exact .inr (.inr ⟨_, str_get rv3, SZ_le hz, p3 g3 H3 _ .refl rh3 rt_str⟩)
        · cases er
      · obtain ⟨xs, e1, e2⟩ := Option.map_eq_some_iff.mp er
        cases e2
        obtain ⟨p, us, ep, sp, rp⟩ := lstOf_get rh3 rv3 e1
        refine .inl ⟨p, us, ep, sp, fun p hp => ?_⟩
        obtain ⟨s1, s2, s3⟩ := new_lst rh3 hp (RVs.cut rp l l2)
        exact p3 _ _ _ s1 s2 s3
/-! == of data -/
mutual
def toD : VV → PyData
  | .non => .none
  | .bl b => .bool b
  | .int i => .int i
  | .str x => .str x
  | .tup xs => .tuple (toDs xs)
  | .lst xs => .list (toDs xs)
  | _ => .none
def toDs : List VV → List PyData
  | [] => []
  | x :: xs => toD x :: toDs xs
end
mutual
def isD : VV → Bool
  | .non => true
  | .bl _ => true
  | .int _ => true
  | .str _ => true
  | .tup xs => isDs xs
  | .lst xs => isDs xs
  | _ => false
def isDs : List VV → Bool
  | [] => true
  | x :: xs => isD x && isDs xs
end
mutual
theorem dp_of {c : Ct} {z : Addr → Prop} {H : Hp} : ∀ (v : VV) (u : V), RV c z H v u → isD v = true → Dp c.K H u (toD v)
  | .non, u, r, _ => by rw [RV] at r; subst r; rw [toD]; exact .non
  | .bl b, u, r, _ => by rw [RV] at r; subst r; rw [toD]; exact .bl b
  | .int b, u, r, _ => by rw [RV] at r; subst r; rw [toD]; exact .int b
  | .str b, u, r, _ => by rw [RV] at r; subst r; rw [toD]; exact .str b
  | .tup xs, u, r, d => by
    rw [RV] at r
    obtain ⟨p, us, e, t, q⟩ := r
    subst e
    rw [toD]
    rw [isD] at d
    exact .tup t.sq (dps_of xs us q d)
  | .lst xs, u, r, d => by
    rw [RV] at r
    obtain ⟨p, us, e, _, t, q⟩ := r
    subst e
    rw [toD]
    rw [isD] at d
    exact .lst (SqL.of t) (dps_of xs us q d)
  | .scr _, _, _, d => by rw [isD] at d <;> first | exact (Bool.false_ne_true d).elim | simp
  | .dT _ _, _, _, d => by rw [isD] at d <;> first | exact (Bool.false_ne_true d).elim | simp
  | .dK _ _, _, _, d => by rw [isD] at d <;> first | exact (Bool.false_ne_true d).elim | simp
  | .ins _ _ _, _, _, d => by rw [isD] at d <;> first | exact (Bool.false_ne_true d).elim | simp
  | .obj _, _, _, d => by rw [isD] at d <;> first | exact (Bool.false_ne_true d).elim | simp
  | .glb _, _, _, d => by rw [isD] at d <;> first | exact (Bool.false_ne_true d).elim | simp
  | .ty _, _, _, d => by rw [isD] at d <;> first | exact (Bool.false_ne_true d).elim | simp
theorem dps_of {c : Ct} {z : Addr → Prop} {H : Hp} : ∀ (vs : List VV) (us : List V), RVs c z H vs us → isDs vs = true → DpAll c.K H us (toDs vs)
  | [], us, r, _ => by rw [RVs] at r; subst r; rw [toDs]; exact .nil
  | x :: xs, us, r, d => by
    rw [RVs] at r
    obtain ⟨u, q, e, a, b⟩ := r
    subst e
    rw [isDs, Bool.and_eq_true] at d
    rw [toDs]
    exact .cons (dp_of x u a d.1) (dps_of xs q b d.2)
end
theorem noObj {v : VV} (h : isD v = true) : v.isObj = false := by
  cases v with
  | obj n => simp [isD] at h
  | _ => rfl
/-- == : scalars of one kind, else data -/
def eqD (v w : VV) : Option Bool := match v, w with
  | .int i, .int j => some (decide (i = j))
  | .str i, .str j => some (decide (i = j))
  | .bl i, .bl j => some (decide (i = j))
  | v, w => if isD v = true ∧ isD w = true ∧ SeqAt.shaped (toD v) = true ∧ SeqAt.shaped (toD w) = true then some (PyData.eqv (toD v) (toD w)) else none
def opEq : Op2 := fun _ v w => (eqD v w).map .bl
def opNe : Op2 := fun _ v w => (eqD v w).map fun b => .bl (!b)
theorem eqD_cases {c : Ct} {g : Gh} {H : Hp} {v w : VV} {x y : V} {b : Bool} (rv : RT c g H v x) (rw' : RT c g H w y) (e : eqD v w = some b) :
    (scal x y = true ∧ decide (x = y) = b) ∨ ∃ d e, Dp c.K H x d ∧ Dp c.K H y e ∧ SeqAt.shaped d = true ∧ SeqAt.shaped e = true ∧ PyData.eqv d e = b := by
  unfold eqD at e
  split at e
  · cases e
    rw [int_get rv, int_get rw']
    exact .inl ⟨rfl, by rw [dec_int, Bool.beq_eq_decide_eq]⟩
  · cases e
    rw [str_get rv, str_get rw']
    exact .inl ⟨rfl, by rw [dec_str, Bool.beq_eq_decide_eq]⟩
  · cases e
    rw [bl_get rv, bl_get rw']
    exact .inl ⟨rfl, by rw [dec_bl, Bool.beq_eq_decide_eq]⟩
  · split at e
    · rename_i hd
      cases e
      have n1 : v.isObj = false := noObj hd.1
      have n2 : w.isObj = false := noObj hd.2.1
      exact .inr ⟨_, _, dp_of _ _ (rv.rv n1) hd.1, dp_of _ _ (rw'.rv n2) hd.2.1, hd.2.2.1, hd.2.2.2, rfl⟩
    · cases e
theorem or_eq {k : Nat} (hr : Room k X.A) : OpR X (compareOp .Eq) (Rd2 (ct X) opEq) :=
  OpR.imp (OpR.or op_eq (op_eqD hr.units)) fun x y H Q ⟨g, h, v, w, r, rh, rv, rw', e, kk⟩ => by
    obtain ⟨b, e1, e2⟩ := Option.map_eq_some_iff.mp e
    cases e2
    rcases eqD_cases rv rw' e1 with ⟨q1, q2⟩ | ⟨d, e, q1, q2, q3, q4, q5⟩
    · exact .inl ⟨q1, by rw [q2]; exact kk g H _ .refl rh rt_bl⟩
    · exact .inr ⟨d, e, q1, q2, q3, q4, by rw [q5]; exact kk g H _ .refl rh rt_bl⟩
theorem or_ne {k : Nat} (hr : Room k X.A) : OpR X (compareOp .NotEq) (Rd2 (ct X) opNe) :=
  OpR.imp (OpR.or op_ne (op_neD hr.units)) fun x y H Q ⟨g, h, v, w, r, rh, rv, rw', e, kk⟩ => by
    obtain ⟨b, e1, e2⟩ := Option.map_eq_some_iff.mp e
    cases e2
    rcases eqD_cases rv rw' e1 with ⟨q1, q2⟩ | ⟨d, e, q1, q2, q3, q4, q5⟩
    · exact .inl ⟨q1, by rw [q2]; exact kk g H _ .refl rh rt_bl⟩
    · exact .inr ⟨d, e, q1, q2, q3, q4, by rw [q5]; exact kk g H _ .refl rh rt_bl⟩
/-- is None -/
def opIsN : Op2 := fun _ v w => match v, w with
  | .non, .non => some (.bl true)
  | v, .non => if v.isObj = true then none else some (.bl false)
  | _, _ => none
def opNotN : Op2 := fun _ v w => match v, w with
  | .non, .non => some (.bl false)
  | v, .non => if v.isObj = true then none else some (.bl true)
  | _, _ => none
/-! calls of built-ins -/
def cLen : OpN := fun h vs => match vs with
  | [.tup xs] => some (.int xs.length)
  | [.str z] => if z.length ≤ SZ then some (.int z.length) else none
  | [v] => (lstR h v).map fun xs => .int xs.length
  | _ => none
theorem cr_len : CallR X (.builtin "len") (RdN (ct X) cLen) :=
  CallR.imp (CallR.or call_len_seq call_len_str) fun xs H Q ⟨g, h, vs, r, rh, rv, e, kk⟩ => by
    unfold cLen at e
    split at e
    · cases e
      obtain ⟨u, q, rfl, a, rfl⟩ := rv
      obtain ⟨p, us, ep, sp, rp⟩ := tup_get a
      exact .inl ⟨p, us, by rw [ep], .inr sp.sq, by rw [← rp.len]; exact kk g H _ .refl rh rt_int⟩
    · split at e
      · rename_i hz
        cases e
        obtain ⟨u, q, rfl, a, rfl⟩ := rv
        exact .inr ⟨_, by rw [str_get a], SZ_le hz, kk g H _ .refl rh rt_int⟩
      · cases e
    · obtain ⟨ys, e1, e2⟩ := Option.map_eq_some_iff.mp e
      cases e2
      obtain ⟨u, q, rfl, a, rfl⟩ := rv
      obtain ⟨p, us, ep, sp, rp⟩ := lstR_get rh a e1
      exact .inl ⟨p, us, by rw [ep], .inl sp, by rw [← rp.len]; exact kk g H _ .refl rh rt_int⟩
    · cases e
def intsOf : List VV → Option (List Int)
  | [] => some []
  | .int i :: xs => (intsOf xs).map fun l => i :: l
  | _ => none
def blsOf : List VV → Option (List Bool)
  | [] => some []
  | .bl i :: xs => (blsOf xs).map fun l => i :: l
  | _ => none
theorem blsOf_rv {c : Ct} {z : Addr → Prop} {H : Hp} : ∀ {vs : List VV} {us : List V} {ns : List Bool}, RVs c z H vs us → blsOf vs = some ns → us = ns.map V.bl
  | [], us, ns, r, e => by cases e; rw [RVs] at r; exact r
  | x :: xs, us, ns, r, e => by
    rw [RVs] at r
    obtain ⟨u, q, rfl, a, b⟩ := r
    cases x with
    | bl i =>
      rw [blsOf] at e
      obtain ⟨l, e1, rfl⟩ := Option.map_eq_some_iff.mp e
      rw [RV] at a
      rw [a, blsOf_rv b e1]; rfl
    | _ => simp [blsOf] at e
def cAll : OpN := fun h vs => match vs with
  | [v] => (lstOf h v).bind fun xs => (blsOf xs).map fun ns => .bl (ns.all id)
  | _ => none
theorem cr_allJ (hc : X.calm = true) : CallR X (.builtin "all") (RdN (ct X) cAll) :=
  CallR.imp (cr_all hc) fun xs H Q ⟨g, h, vs, r, rh, rv, e, kk⟩ => by
    unfold cAll at e
    split at e
    · obtain ⟨ys, e1, e2⟩ := Option.bind_eq_some_iff.mp e
      obtain ⟨ns, e3, e4⟩ := Option.map_eq_some_iff.mp e2
      cases e4
      obtain ⟨u, q, rfl, a, rfl⟩ := rv
      obtain ⟨p, us, ep, sp, rp⟩ := lstOf_get rh a e1
      exact ⟨p, ns, by rw [ep], by rw [← blsOf_rv rp e3]; exact sp, kk g H _ .refl rh rt_bl⟩
    · cases e
/-- list(..), tuple(..): data -/
def cList : OpN := fun h vs => match vs with
  | [.tup xs] => some (.lst xs)
  | [v] => (lstOf h v).map fun xs => .lst xs
  | _ => none
theorem cr_listJ : CallR X (.type "list") (RdN (ct X) cList) :=
  CallR.imp call_list_of fun xs H Q ⟨g, h, vs, r, rh, rv, e, kk⟩ => by
    unfold cList at e
    split at e
    · cases e
      obtain ⟨u, q, rfl, a, rfl⟩ := rv
      obtain ⟨p, us, ep, sp, rp⟩ := tup_get a
      refine ⟨p, us, by rw [ep], .inr sp.sq, fun l hl => ?_⟩
      obtain ⟨s1, s2, s3⟩ := new_lst rh hl rp
      exact kk _ _ _ s1 s2 s3
    · obtain ⟨ys, e1, e2⟩ := Option.map_eq_some_iff.mp e
      cases e2
      obtain ⟨u, q, rfl, a, rfl⟩ := rv
      obtain ⟨p, us, ep, sp, rp⟩ := lstOf_get rh a e1
      refine ⟨p, us, by rw [ep], .inl sp, fun l hl => ?_⟩
      obtain ⟨s1, s2, s3⟩ := new_lst rh hl rp
      exact kk _ _ _ s1 s2 s3
    · cases e
def cTuple : OpN := fun h vs => match vs with
  | [.tup xs] => some (.tup xs)
  | [v] => (lstOf h v).map fun xs => .tup xs
  | _ => none
theorem cr_tupleJ : CallR X (.type "tuple") (RdN (ct X) cTuple) :=
  CallR.imp call_tuple_of fun xs H Q ⟨g, h, vs, r, rh, rv, e, kk⟩ => by
    unfold cTuple at e
    split at e
    · cases e
      obtain ⟨u, q, rfl, a, rfl⟩ := rv
      obtain ⟨p, us, ep, sp, rp⟩ := tup_get a
      exact ⟨p, us, by rw [ep], .inr ⟨sp.sq, by rw [← ep]; exact kk g H u .refl rh a⟩⟩
    · obtain ⟨ys, e1, e2⟩ := Option.map_eq_some_iff.mp e
      cases e2
      obtain ⟨u, q, rfl, a, rfl⟩ := rv
      obtain ⟨p, us, ep, sp, rp⟩ := lstOf_get rh a e1
      refine ⟨p, us, by rw [ep], .inl ⟨sp, fun l hl => ?_⟩⟩
      obtain ⟨s1, s2, s3⟩ := pair_new rh hl rp
      exact kk _ _ _ s1 s2 s3
    · cases e
/-- isinstance(x, T), T a built-in type, x data -/
def tyN (h : VH) : VV → Option String
  | .non => some "NoneType"
  | .bl _ => some "bool"
  | .int _ => some "int"
  | .str _ => some "str"
  | .tup _ => some "tuple"
  | .lst _ => some "list"
  | .obj n => match h[n]? with
    | some (.fl _) => some "list"
    | some (.fzn (.lst _)) => some "list"
    | _ => none
  | _ => none
def cIsi : OpN := fun h vs => match vs with
  | [v, .ty b] => (tyN h v).bind fun a => (kitB a b).map .bl
  | _ => none
end
end J
namespace J
open PySem L2
/-- a law's end: its own function gives True at every script -/
theorem law_sp {K : PySem.W.Frag} {mg : Str → Option Value} {F : FF} {H : Hp} {a : Addr} {ns : List Int} (hT : LTab ⟨K, mg⟩ H) (hS : SqL K H a (ns.map V.int)) (hF : ∃ h', F [.scr (ns.map VV.int)] [] = .ok (.bl true) h') :
    spF ⟨K, mg⟩ 1 F [.ref a] H (fun v _ => v = .bl true) fun _ _ _ => False := by
  obtain ⟨h', e⟩ := hF
  have rvs : ∀ (z : Addr → Prop) (l : List Int), RVs ⟨K, mg⟩ z H (l.map VV.int) (l.map V.int) := by
    intro z l
    induction l with
    | nil => exact RVs.nil
    | cons x xs ih => exact RVs.cons (rv_int _ _ _ _) ih
  have fin : ∀ g : Gh, RH ⟨K, mg⟩ g [] H → RT ⟨K, mg⟩ g H (.scr (ns.map VV.int)) (.ref a) → spF ⟨K, mg⟩ 1 F [.ref a] H (fun v _ => v = .bl true) fun _ _ _ => False := by
    intro g rh rt
    refine ⟨g, [.scr (ns.map VV.int)], [], rh, ⟨.ref a, [], rfl, rt, rfl⟩, rfl, ?_⟩
    rw [e]
    exact fun g' H' u st rh' rv => bl_get rv
  rcases hS with hS | hS
  · refine fin ⟨[], fun q => q = a, fun _ => False⟩ ⟨rfl, List.nodup_nil, fun n o a h => by simp at h, fun q z => ?_, fun q z => z.elim, fun q z => z.elim, hT, fun q z ps y => ?_⟩ ?_
    · have z' : q = a := z
      subst z'
      rcases hS with hS | ⟨o, hS⟩
      · exact ⟨_, hS⟩
      · exact ⟨_, hS⟩
    · have z' : q = a := z.elim id (fun z => z.elim)
      subst z'
      rcases hS with hS | ⟨o, hS⟩ <;> (rw [hS] at y; cases y)
    · show RV _ _ _ _ _
      rw [RV]
      exact ⟨a, _, rfl, .inl ⟨rfl, hS⟩, rvs _ _⟩
  · refine fin ⟨[], fun _ => False, fun _ => False⟩ ⟨rfl, List.nodup_nil, fun n o a h => by simp at h, fun q z => z.elim, fun q z => z.elim, fun q z => z.elim, hT, fun q z => z.elim False.elim False.elim⟩ ?_
    show RV _ _ _ _ _
    rw [RV]
    exact ⟨a, _, rfl, .inr hS, rvs _ _⟩
theorem cx_no {P : Program} {w : World} {l : List Env} {H : Hp} {s : Shared} {e : Value} {s' : Shared} (h : L2N.CX P w l H s (fun _ _ _ => False) e s') : False := by
  obtain ⟨_, _, _, _, _, _, _, _, _, _, _, _, z⟩ := h
  exact z.elim
section
variable {X : Cx} {W : WX}
theorem j_globI {x : Str} {i : Int} {pos : Pos} (hg : Gl X x) (h : ∃ t, X.mg x = some (.int i t)) (hd : (x == ("__debug__" : Str)) = false := by decide) : PE X (.Name x pos) (tE (ct X) W (eC (.int i))) := by
  obtain ⟨t, h⟩ := h
  exact j_c (pe_glob (v := .int i) hg h ⟨t, rfl⟩ hd) fun _ _ => rt_int
theorem jt_chain {o o' : Op2} {op op' : CmpOp} {a b c : Expr} {fa fb fc : EF} {pos : Pos} (ho : OpR X (compareOp op) (Rd2 (ct X) o)) (ho' : OpR X (compareOp op') (Rd2 (ct X) o')) (ha : PE X a (tE (ct X) W fa)) (hb : PE X b (tE (ct X) W fb)) (hc : PE X c (tE (ct X) W fc))
    (hm : lastMarks [op, op'] [b, c] = false := by with_unfolding_all rfl) : PT X (.Compare a [op, op'] [b, c] pos) (tT (ct X) W (tVal (eChain o o' fa fb fc))) :=
  PT.mono (pt_chain ho ho' ha hb hc hm) fun σ H Q h => by
    have := tChain_of (tVal_of h)
    exact this
end
open PyProof.Rows (envOfC)
/-- a def of the text -/
structure Dn (K : PySem.W.Frag) (mg : Str → Option Value) (x : Str) (st : Stmt) (dvs : List V) (kws : List (Str × V)) (f : Addr) (fd : FuncData) : Prop where
  F : FunD K x x (defArgs st) (defBody st) (defScope st) dvs kws f fd
  m : mg x = some (.ref f)
/-- a def that may be called with the last arguments left out (dws in their place) -/
structure Ok1 (P : Program) (w : World) (K : PySem.W.Frag) (mg : Str → Option Value) (base : Heap) (k : Nat) (x : Str) (n : Nat) (dws : List VV) (Fm : FF) : Prop where
  ex : ∃ (f : Addr) (fd : FuncData) (ps : List Str) (dvs : List V) (ds : List Value), mg x = some (.ref f) ∧ PySem.W.keepIn K (.ref f) = true ∧ FnOk P w K mg base (L2N.CX P w) k f fd ps (spF ⟨K, mg⟩ n Fm) ∧ Binds K fd ps ds ∧ Vals dvs ds ∧ ∀ g H, RTs ⟨K, mg⟩ g H dws dvs
section
variable {X : Cx} {W : WX}
theorem j_callO {k n : Nat} {Fm : FF} {dws : List VV} {x : Str} {p pos : Pos} {e : Expr} {es : List Expr} {fa : AF} (O : Ok1 X.prog X.w X.K X.mg X.base k x n dws Fm) (hr : Room k X.A) (hg : Gl X x) (tk : L2N.Takes X W)
    (ha : PA X (e :: es) (tA (ct X) W fa)) (hdb : (x == ("__debug__" : Str)) = false := by decide) (he : starEach (e :: es) X.env = (false, eval e X.env) :: starEach es X.env := by rfl) (hpl : (backTo pos (starEach es X.env)).any (·.1) = false := by rfl) :
    PE X (.Call (.Name x p) (e :: es) [] pos) (tE (ct X) W (eFn n Fm dws fa)) := by
  obtain ⟨f, fd, ps, dvs, ds, h1, h2, h3, h4, h5, h6⟩ := O.ex
  exact j_call h3 hr hg h1 h2 h4 h5 h6 tk ha hdb he hpl
end
section
variable {P : Program} {w : World} {K : PySem.W.Frag} {mg : Str → Option Value} {base : Heap}
/-- every parameter is given -/
theorem ok_of {x : Str} {st : Stmt} {f : Addr} {fd : FuncData} {ps : List Str} {k m : Nat} {Fm : FF} (D : Dn K mg x st [] [] f fd) (hF : FnOk P w K mg base (L2N.CX P w) k f fd ps (spF ⟨K, mg⟩ m Fm))
    (hb : ∀ (kV doc pm : Value) (an : Option Addr) (cdv ct : Value) (us : List Value), us.length = ps.length → bindArgs (PySem.W.fnOf x x (defArgs st) (defBody st) (defScope st) .none kV doc pm an cdv ct) ⟨us, []⟩ = pure (ps.zip us)) :
    Ok1 P w K mg base k x m [] Fm := by
  refine ⟨f, fd, ps, [], [], D.m, D.F.kp, hF, ?_, .nil, fun _ _ => rfl⟩
  obtain ⟨oc, od, dV, kV, doc, pm, an, cdv, ct, osl, e, lk, hcd, hD, _⟩ := D.F.ex
  subst e
  rcases hD with ⟨_, rfl⟩ | ⟨h, _⟩
  · exact .all (hb kV doc pm an cdv ct)
  · exact absurd rfl h
end
end J
namespace J
open PySem L2
/-! evaluation -/
/-- a step that is told, not seen through -/
theorem nr {α : Sort _} {a b : α} (h : a = b) : a = b := h
/-- a mark by which simp leaves a continuation alone -/
def Tg {γ : Type} (_ : γ) : Type := Unit
def tg {γ : Type} (k : γ) : Tg k := ()
section
variable {α β : Type}
def bnd (r : Res α) (k : α → VH → Res β) (_ : Tg k) : Res β := r.bind k
def sbd (r : Res α) (ρ : VSt) (k : α → VH → SR) (_ : Tg k) : SR := r.st ρ k
theorem bind_ok {a : α} {h : VH} {k : α → VH → Res β} : (Res.ok a h).bind k = k a h := nr rfl
theorem bnd_ok {a : α} {h : VH} {k : α → VH → Res β} {u : Tg k} : bnd (Res.ok a h) k u = k a h := nr rfl
theorem bnd_no {k : α → VH → Res β} {u : Tg k} : bnd (Res.no : Res α) k u = .no := nr rfl
theorem bnd_exc {x ns vs h} {k : α → VH → Res β} {u : Tg k} : bnd (Res.exc x ns vs h : Res α) k u = .exc x ns vs h := nr rfl
theorem sbd_ok {a : α} {h : VH} {ρ : VSt} {k : α → VH → SR} {u : Tg k} : sbd (Res.ok a h) ρ k u = k a h := nr rfl
theorem sbd_no {ρ : VSt} {k : α → VH → SR} {u : Tg k} : sbd (Res.no : Res α) ρ k u = .no := nr rfl
theorem sbd_exc {x ns vs h} {ρ : VSt} {k : α → VH → SR} {u : Tg k} : sbd (Res.exc x ns vs h : Res α) ρ k u = .exc x ns vs ρ h := nr rfl
end
def getV (o : Option (Option VV)) (h : VH) : Res VV := match o with
  | some (some v) => .ok v h
  | _ => .no
theorem getV_some {v : VV} {h : VH} : getV (some (some v)) h = .ok v h := nr rfl
section
variable {ρ : VSt} {h : VH}
theorem a_var {i : Nat} : eVar i ρ h = getV (ρ[i]?) h := nr rfl
theorem a_c {v : VV} : eC v ρ h = .ok v h := nr rfl
theorem a_bin {op a b} : eBin op a b ρ h = bnd (a ρ h) (fun v h1 => bnd (b ρ h1) (fun w h2 => lift (op h2 v w) h2) (tg _)) (tg _) := nr rfl
theorem a_un {op a} : eUn op a ρ h = bnd (a ρ h) (fun v h1 => lift (op h1 v) h1) (tg _) := nr rfl
theorem a_call {op a} : eCall op a ρ h = bnd (a ρ h) (fun v h1 => lift (op h1 v) h1) (tg _) := nr rfl
theorem a_nil : aNil ρ h = .ok [] h := nr rfl
theorem a_cons {a b} : aCons a b ρ h = bnd (a ρ h) (fun v h1 => bnd (b ρ h1) (fun w h2 => .ok (v :: w) h2) (tg _)) (tg _) := nr rfl
theorem a_tup {a} : eTup a ρ h = bnd (a ρ h) (fun vs h1 => if vs.any VV.isObj = true ∨ vs.length > SZ then .no else .ok (.tup vs) h1) (tg _) := nr rfl
theorem a_lst {a} : eLst a ρ h = bnd (a ρ h) (fun vs h1 => if vs.any VV.isObj = true ∨ vs.length > SZ then .no else .ok (.lst vs) h1) (tg _) := nr rfl
theorem a_lstO {a} : eLstO a ρ h = bnd (a ρ h) (fun vs h1 => if vs.any VV.isObj = true ∨ vs.length > SZ then .no else .ok (.obj h1.length) (h1 ++ [.fl vs])) (tg _) := nr rfl
def toB (v : VV) (h : VH) : Res Bool := match v with
  | .bl b => .ok b h
  | _ => .no
theorem toB_bl {b : Bool} : toB (.bl b) h = .ok b h := nr rfl
theorem a_val {a} : tVal a ρ h = bnd (a ρ h) toB (tg _) := nr rfl
theorem a_tand {a b} : tAnd a b ρ h = bnd (a ρ h) (fun v h1 => if v = true then b ρ h1 else .ok false h1) (tg _) := nr rfl
theorem a_tor {a b} : tOr a b ρ h = bnd (a ρ h) (fun v h1 => if v = true then .ok true h1 else b ρ h1) (tg _) := nr rfl
theorem a_tnot {a} : tNot a ρ h = bnd (a ρ h) (fun v h1 => .ok (!v) h1) (tg _) := nr rfl
theorem a_if {c a b} : eIf c a b ρ h = bnd (c ρ h) (fun v h1 => if v = true then a ρ h1 else b ρ h1) (tg _) := nr rfl
theorem a_and {a b} : eAnd a b ρ h = bnd (bnd (a ρ h) toB (tg _)) (fun v h1 => if v = true then b ρ h1 else .ok (.bl false) h1) (tg _) := by
  unfold eAnd
  cases a ρ h with
  | no => rfl
  | exc => rfl
  | ok v h1 =>
    simp only [bind_ok]
    cases v with
    | bl b => cases b <;> rfl
    | _ => rfl
theorem a_or {a b} : eOr a b ρ h = bnd (bnd (a ρ h) toB (tg _)) (fun v h1 => if v = true then .ok (.bl true) h1 else b ρ h1) (tg _) := by
  unfold eOr
  cases a ρ h with
  | no => rfl
  | exc => rfl
  | ok v h1 =>
    simp only [bind_ok]
    cases v with
    | bl b => cases b <;> rfl
    | _ => rfl
theorem a_not {a} : eNot a ρ h = bnd (bnd (a ρ h) toB (tg _)) (fun v h1 => .ok (.bl (!v)) h1) (tg _) := by
  unfold eNot
  cases a ρ h with
  | no => rfl
  | exc => rfl
  | ok v h1 =>
    simp only [bind_ok]
    cases v <;> rfl
theorem a_chain {o o' a b c} : eChain o o' a b c ρ h = bnd (a ρ h) (fun v h1 => bnd (b ρ h1) (fun w h2 => bnd (bnd (lift (o h2 v w) h2) toB (tg _)) (fun k h3 => if k = true then bnd (c ρ h3) (fun z h4 => lift (o' h4 w z) h4) (tg _) else .ok (.bl false) h3) (tg _)) (tg _)) (tg _) := by
  unfold eChain
  congr 1; funext v h1; congr 1; funext w h2
  cases lift (o h2 v w) h2 with
  | no => rfl
  | exc => rfl
  | ok v h1 =>
    simp only [bind_ok]
    cases v with
    | bl b => cases b <;> rfl
    | _ => rfl
theorem a_fn {n F dws a} : eFn n F dws a ρ h = bnd (a ρ h) (fun vs h1 => if (vs ++ dws).length = n then F (vs ++ dws) h1 else .no) (tg _) := nr rfl
def afterL (r : Res (List VV)) : Res VV := match r with
  | .ok vs h2 => .ok (.lst vs) h2
  | _ => .no
theorem afterL_ok {vs : List VV} : afterL (.ok vs h) = .ok (.lst vs) h := nr rfl
theorem a_lc' {own it b t e} : eLc own it b t e ρ h = bnd (it ρ h) (fun xs h1 => if xs.length > SZ then .no else afterL (lcGo b t e (wp ρ own) xs h1)) (tg _) := nr rfl
def seqItems (v : VV) (h : VH) : Res (List VV) := match v with
  | .lst xs => .ok xs h
  | .scr xs => .ok xs h
  | .tup xs => .ok xs h
  | .str s => .ok (signs s) h
  | _ => .no
theorem seqI_lst {xs} : seqItems (.lst xs) h = .ok xs h := nr rfl
theorem seqI_scr {xs} : seqItems (.scr xs) h = .ok xs h := nr rfl
theorem seqI_tup {xs} : seqItems (.tup xs) h = .ok xs h := nr rfl
theorem seqI_str {s} : seqItems (.str s) h = .ok (signs s) h := nr rfl
theorem a_seq {f} : iSeq f ρ h = bnd (f ρ h) seqItems (tg _) := nr rfl
def rng1 (v : VV) (h : VH) : Res (List VV) := match v with
  | .int n => if -(2 ^ 62) ≤ n ∧ n < 2 ^ 62 then .ok (rngV 0 n.toNat) h else .no
  | _ => .no
theorem rng1_int {n : Int} : rng1 (.int n) h = if -(2 ^ 62) ≤ n ∧ n < 2 ^ 62 then .ok (rngV 0 n.toNat) h else .no := nr rfl
theorem a_range1 {f} : iRange1 f ρ h = bnd (f ρ h) rng1 (tg _) := nr rfl
def zipI (v : List VV) (h : VH) : Res (List VV) := match v with
  | [.lst xs, .lst ys] => .ok (prs xs ys) h
  | [.tup xs, .tup ys] => .ok (prs xs ys) h
  | _ => .no
theorem zip_lst {xs ys} : zipI [.lst xs, .lst ys] h = .ok (prs xs ys) h := nr rfl
theorem zip_tup {xs ys} : zipI [.tup xs, .tup ys] h = .ok (prs xs ys) h := nr rfl
theorem a_zip {f} : iZip f ρ h = bnd (f ρ h) zipI (tg _) := nr rfl
theorem a_sl {op a lo hi} : eSl op a lo hi ρ h = bnd (a ρ h) (fun v h1 => bnd (lo ρ h1) (fun l h2 => bnd (hi ρ h2) (fun u h3 => lift (op h3 v l u) h3) (tg _)) (tg _)) (tg _) := nr rfl
theorem a_onone : oNone ρ h = .ok none h := nr rfl
def toO (v : VV) (h : VH) : Res (Option Int) := match v with
  | .int i => .ok (some i) h
  | _ => .no
theorem toO_int {i : Int} : toO (.int i) h = .ok (some i) h := nr rfl
theorem a_osome {a} : oSome a ρ h = bnd (a ρ h) toO (tg _) := nr rfl
theorem lift_some {v : VV} : lift (some v) h = .ok v h := nr rfl
theorem lift_none : lift none h = .no := nr rfl
/-! statements -/
def SR.thn (r : SR) (b : SF) (_ : Tg b) : SR := match r with
  | .nx ρ' h' => b ρ' h'
  | r => r
theorem thn_nx {b : SF} {u : Tg b} : (SR.nx ρ h).thn b u = b ρ h := nr rfl
theorem thn_ret {v} {b : SF} {u : Tg b} : (SR.ret v h).thn b u = .ret v h := nr rfl
theorem thn_no {b : SF} {u : Tg b} : (SR.no).thn b u = .no := nr rfl
theorem thn_brk {b : SF} {u : Tg b} : (SR.brk ρ h).thn b u = .brk ρ h := nr rfl
theorem thn_cnt {b : SF} {u : Tg b} : (SR.cnt ρ h).thn b u = .cnt ρ h := nr rfl
theorem thn_exc {x ns vs} {b : SF} {u : Tg b} : (SR.exc x ns vs ρ h).thn b u = .exc x ns vs ρ h := nr rfl
theorem s_skip : sSkip ρ h = .nx ρ h := nr rfl
theorem s_seq {a b} : sSeq a b ρ h = (a ρ h).thn b (tg _) := nr rfl
theorem s_set {i e} : sSet i e ρ h = sbd (e ρ h) ρ (fun v h1 => .nx (ρ.set i (some v)) h1) (tg _) := nr rfl
def onx (o : Option VSt) (h : VH) : SR := match o with
  | some ρ' => .nx ρ' h
  | none => .no
theorem onx_some {ρ' : VSt} : onx (some ρ') h = .nx ρ' h := nr rfl
theorem s_asg {e b} : sAsg e b ρ h = sbd (e ρ h) ρ (fun v h1 => onx (b v ρ) h1) (tg _) := nr rfl
theorem s_if {c a b} : sIf c a b ρ h = sbd (c ρ h) ρ (fun k h1 => if k = true then a ρ h1 else b ρ h1) (tg _) := nr rfl
theorem s_ret {e} : sRet e ρ h = sbd (e ρ h) ρ (fun v h1 => .ret v h1) (tg _) := nr rfl
theorem s_expr {e} : sExpr e ρ h = sbd (e ρ h) ρ (fun v h1 => .nx ρ h1) (tg _) := nr rfl
theorem s_for {it b body} : sFor it b body ρ h = sbd (it ρ h) ρ (fun xs h1 => forGo b body xs ρ h1) (tg _) := nr rfl
theorem for_nil {b body} : forGo b body [] ρ h = .nx ρ h := by rw [forGo]
def SR.trn (r : SR) (k : VSt → VH → SR) (_ : Tg k) : SR := match r with
  | .nx ρ2 h2 => k ρ2 h2
  | .cnt ρ2 h2 => k ρ2 h2
  | .brk ρ2 h2 => .nx ρ2 h2
  | r => r
theorem trn_nx {k} {u : Tg k} : (SR.nx ρ h).trn k u = k ρ h := nr rfl
def obd (o : Option VSt) (k : VSt → SR) (_ : Tg k) : SR := match o with
  | none => .no
  | some ρ' => k ρ'
theorem obd_some {ρ' : VSt} {k} {u : Tg k} : obd (some ρ') k u = k ρ' := nr rfl
theorem for_cons {b body x xs} : forGo b body (x :: xs) ρ h = obd (b x ρ) (fun ρ' => (body ρ' h).trn (fun ρ2 h2 => forGo b body xs ρ2 h2) (tg _)) (tg _) := by
  rw [forGo]
  cases b x ρ with
  | none => rfl
  | some ρ' => simp only [obd]; cases body ρ' h <;> rfl
theorem bNm_ap {i v} : bNm i v ρ = some (ρ.set i (some v)) := nr rfl
theorem s_par {i j a} : sPar i j a ρ h = sbd (a ρ h) ρ (fun vs h1 => match vs with
  | [v, w] => .nx ((ρ.set i (some v)).set j (some w)) h1
  | _ => .no) (tg _) := nr rfl
theorem s_par3 {i j l a} : sPar3 i j l a ρ h = sbd (a ρ h) ρ (fun vs h1 => match vs with
  | [u, v, w] => .nx (((ρ.set i (some u)).set j (some v)).set l (some w)) h1
  | _ => .no) (tg _) := nr rfl
def onh (o : Option VH) (ρ : VSt) : SR := match o with
  | some h4 => .nx ρ h4
  | none => .no
theorem onh_some {h' : VH} : onh (some h') ρ = .nx ρ h' := nr rfl
theorem s_setI {o i e} : sSetI o i e ρ h = sbd (e ρ h) ρ (fun v h1 => sbd (o ρ h1) ρ (fun ov h2 => sbd (i ρ h2) ρ (fun iv h3 => onh (setI h3 ov iv v) ρ) (tg _)) (tg _)) (tg _) := nr rfl
def SR.fin (r : SR) (n : Nat) : Res VV := match r with
  | .nx _ h' => .ok .non (trim n .non h')
  | .ret v h' => .ok v (trim n v h')
  | .exc x ns vs _ h' => .exc x ns vs h'
  | _ => .no
theorem fn_ap {k B vs} : fnF k B vs h = (B (vs.map some ++ List.replicate (k - vs.length) none) h).fin h.length := by
  unfold fnF
  cases B (vs.map some ++ List.replicate (k - vs.length) none) h <;> rfl
theorem fin_ret {v n} (hl : h.length = n) : (SR.ret v h).fin n = .ok v h := by
  show Res.ok v (trim n v h) = _
  unfold trim
  rw [if_pos hl]
/-! operations -/
theorem o_sub {i j : Int} : opSub h (.int i) (.int j) = some (.int (i - j)) := nr rfl
theorem o_add {i j : Int} : opAdd h (.int i) (.int j) = some (.int (i + j)) := nr rfl
theorem o_lt {i j : Int} : opLt h (.int i) (.int j) = some (.bl (decide (i < j))) := nr rfl
theorem o_le {i j : Int} : opLe h (.int i) (.int j) = some (.bl (decide (i ≤ j))) := nr rfl
theorem o_gt {i j : Int} : opGt h (.int i) (.int j) = some (.bl (decide (j < i))) := nr rfl
theorem o_ge {i j : Int} : opGe h (.int i) (.int j) = some (.bl (decide (j ≤ i))) := nr rfl
theorem o_neg {i : Int} : opNeg h (.int i) = some (.int (-i)) := nr rfl
theorem o_eqI {i j : Int} : opEq h (.int i) (.int j) = some (.bl (decide (i = j))) := nr rfl
theorem o_neI {i j : Int} : opNe h (.int i) (.int j) = some (.bl (!decide (i = j))) := nr rfl
theorem o_eqB {i j : Bool} : opEq h (.bl i) (.bl j) = some (.bl (decide (i = j))) := nr rfl
theorem o_neB {i j : Bool} : opNe h (.bl i) (.bl j) = some (.bl (!decide (i = j))) := nr rfl
theorem o_eqS {i j : Str} : opEq h (.str i) (.str j) = some (.bl (decide (i = j))) := nr rfl
theorem o_fdiv {i j : Int} (h0 : j ≠ 0) (h1 : j.natAbs.log2 < 9000) : opFdiv h (.int i) (.int j) = some (.int (i.fdiv j)) := by
  show (if _ then _ else _) = _; rw [if_pos ⟨h0, h1⟩]
theorem o_mod {i j : Int} (h0 : j ≠ 0) : opMod h (.int i) (.int j) = some (.int (i.fmod j)) := by
  show (if _ then _ else _) = _; rw [if_pos h0]
theorem o_mul {i j : Int} (h0 : mulOk i j = true) : opMul h (.int i) (.int j) = some (.int (i * j)) := by
  show (if _ then _ else _) = _; rw [if_pos h0]
theorem o_pow {i j : Int} (h0 : 0 ≤ j ∧ j ≤ 1000000 ∧ i.natAbs < 2 ^ 64) : opPow h (.int i) (.int j) = some (.int (i ^ j.toNat)) := by
  show (if _ then _ else _) = _; rw [if_pos h0]
theorem o_mul_r {i j : Int} (h0 : j.natAbs < 18446744073709551616) : opMul h (.int i) (.int j) = some (.int (i * j)) := by
  refine o_mul ?_
  unfold mulOk
  rw [decide_eq_true (p := j.natAbs < 2 ^ 64) (by omega)]; simp
theorem o_mul_l {i j : Int} (h0 : i.natAbs < 18446744073709551616) : opMul h (.int i) (.int j) = some (.int (i * j)) := by
  refine o_mul ?_
  unfold mulOk
  rw [decide_eq_true (p := i.natAbs < 2 ^ 64) (by omega)]; simp
end
/-! loops by what holds -/
inductive F2 {α β : Type} (P : α → β → Prop) : List α → List β → Prop
  | nil : F2 P [] []
  | cons {a b as bs} : P a b → F2 P as bs → F2 P (a :: as) (b :: bs)
theorem F2.len {α β : Type} {P : α → β → Prop} {as : List α} {bs : List β} (h : F2 P as bs) : as.length = bs.length := by
  induction h with
  | nil => rfl
  | cons _ _ ih => simp [ih]
theorem for_inv {b : VV → VSt → Option VSt} {body : SF} (I : VSt → VH → Prop) : ∀ {xs : List VV} {ρ : VSt} {h : VH}, I ρ h → (∀ x ∈ xs, ∀ ρ h, I ρ h → ∃ ρ' ρ2 h2, b x ρ = some ρ' ∧ body ρ' h = .nx ρ2 h2 ∧ I ρ2 h2) → ∃ ρ2 h2, forGo b body xs ρ h = .nx ρ2 h2 ∧ I ρ2 h2
  | [], ρ, h, hi, _ => ⟨ρ, h, rfl, hi⟩
  | x :: xs, ρ, h, hi, hx => by
    obtain ⟨ρ', ρ2, h2, e1, e2, hi2⟩ := hx x List.mem_cons_self ρ h hi
    obtain ⟨ρ3, h3, e3, hi3⟩ := for_inv I (xs := xs) hi2 fun y hy => hx y (List.mem_cons_of_mem _ hy)
    refine ⟨ρ3, h3, ?_, hi3⟩
    rw [for_cons, e1, obd_some, e2, trn_nx, e3]
end J
namespace J
open PySem L2
theorem ix_root {h : VH} {n : Nat} {xs : List VV} {k : Int} (e : h[n]? = some (.fl xs)) : opIx h (.obj n) (.int k) = atI xs k := by
  unfold opIx
  simp only [lstR, lstOf, e, Option.bind_some]
theorem set_root {h : VH} {n : Nat} {xs : List VV} {k : Int} {j : Nat} {v : VV} (e : h[n]? = some (.fl xs)) (ej : ixN xs.length k = some j) (hv : v.isObj = false) : setI h (.obj n) (.int k) v = some (h.set n (.fl (xs.set j v))) := by
  unfold setI
  simp only [e, ej, hv, Bool.false_eq_true, if_false]
theorem get_set {h : VH} {n : Nat} {v : VO} (hn : n < h.length) : (h.set n v)[n]? = some v := List.getElem?_set_self hn
theorem lt_of_get {α : Type} {h : List α} {n : Nat} {v : α} (e : h[n]? = some v) : n < h.length := (List.getElem?_eq_some_iff.mp e).1
section
variable {a b c d e : VV}
theorem at5_0 : atI [a, b, c, d, e] 0 = some a := nr rfl
theorem at5_1 : atI [a, b, c, d, e] 1 = some b := nr rfl
theorem at5_2 : atI [a, b, c, d, e] 2 = some c := nr rfl
theorem at5_3 : atI [a, b, c, d, e] 3 = some d := nr rfl
theorem at5_4 : atI [a, b, c, d, e] 4 = some e := nr rfl
end
theorem x_lst {h : VH} {xs : List VV} {k : Int} : opIx h (.lst xs) (.int k) = atI xs k := nr rfl
theorem x_tup {h : VH} {xs : List VV} {k : Int} : opIx h (.tup xs) (.int k) = atI xs k := nr rfl
theorem len_lst {h : VH} {xs : List VV} : cLen h [.lst xs] = some (.int xs.length) := nr rfl
theorem len_tup {h : VH} {xs : List VV} : cLen h [.tup xs] = some (.int xs.length) := nr rfl
theorem list_lst {h : VH} {xs : List VV} : cList h [.lst xs] = some (.lst xs) := nr rfl
theorem list_tup {h : VH} {xs : List VV} : cList h [.tup xs] = some (.lst xs) := nr rfl
theorem tuple_lst {h : VH} {xs : List VV} : cTuple h [.lst xs] = some (.tup xs) := nr rfl
theorem atI_in {xs : List VV} {k : Nat} {v : VV} (e : xs[k]? = some v) : atI xs (k : Int) = some v := atI_nat e
end J
namespace J
open PySem L2
theorem kit_NoneType_list : kitB "NoneType" "list" = some false := by decide +kernel
theorem isi_NoneType_list {h : VH} : cIsi h [.non, .ty "list"] = some (.bl false) := by show ((kitB "NoneType" "list").map VV.bl) = _; rw [kit_NoneType_list]; rfl
theorem kit_NoneType_tuple : kitB "NoneType" "tuple" = some false := by decide +kernel
theorem isi_NoneType_tuple {h : VH} : cIsi h [.non, .ty "tuple"] = some (.bl false) := by show ((kitB "NoneType" "tuple").map VV.bl) = _; rw [kit_NoneType_tuple]; rfl
theorem kit_NoneType_bool : kitB "NoneType" "bool" = some false := by decide +kernel
theorem isi_NoneType_bool {h : VH} : cIsi h [.non, .ty "bool"] = some (.bl false) := by show ((kitB "NoneType" "bool").map VV.bl) = _; rw [kit_NoneType_bool]; rfl
theorem kit_NoneType_int : kitB "NoneType" "int" = some false := by decide +kernel
theorem isi_NoneType_int {h : VH} : cIsi h [.non, .ty "int"] = some (.bl false) := by show ((kitB "NoneType" "int").map VV.bl) = _; rw [kit_NoneType_int]; rfl
theorem kit_NoneType_str : kitB "NoneType" "str" = some false := by decide +kernel
theorem isi_NoneType_str {h : VH} : cIsi h [.non, .ty "str"] = some (.bl false) := by show ((kitB "NoneType" "str").map VV.bl) = _; rw [kit_NoneType_str]; rfl
theorem kit_bool_list : kitB "bool" "list" = some false := by decide +kernel
theorem isi_bool_list {h : VH} {b : Bool} : cIsi h [(.bl b), .ty "list"] = some (.bl false) := by show ((kitB "bool" "list").map VV.bl) = _; rw [kit_bool_list]; rfl
theorem kit_bool_tuple : kitB "bool" "tuple" = some false := by decide +kernel
theorem isi_bool_tuple {h : VH} {b : Bool} : cIsi h [(.bl b), .ty "tuple"] = some (.bl false) := by show ((kitB "bool" "tuple").map VV.bl) = _; rw [kit_bool_tuple]; rfl
theorem kit_bool_bool : kitB "bool" "bool" = some true := by decide +kernel
theorem isi_bool_bool {h : VH} {b : Bool} : cIsi h [(.bl b), .ty "bool"] = some (.bl true) := by show ((kitB "bool" "bool").map VV.bl) = _; rw [kit_bool_bool]; rfl
theorem kit_bool_int : kitB "bool" "int" = some true := by decide +kernel
theorem isi_bool_int {h : VH} {b : Bool} : cIsi h [(.bl b), .ty "int"] = some (.bl true) := by show ((kitB "bool" "int").map VV.bl) = _; rw [kit_bool_int]; rfl
theorem kit_bool_str : kitB "bool" "str" = some false := by decide +kernel
theorem isi_bool_str {h : VH} {b : Bool} : cIsi h [(.bl b), .ty "str"] = some (.bl false) := by show ((kitB "bool" "str").map VV.bl) = _; rw [kit_bool_str]; rfl
theorem kit_int_list : kitB "int" "list" = some false := by decide +kernel
theorem isi_int_list {h : VH} {i : Int} : cIsi h [(.int i), .ty "list"] = some (.bl false) := by show ((kitB "int" "list").map VV.bl) = _; rw [kit_int_list]; rfl
theorem kit_int_tuple : kitB "int" "tuple" = some false := by decide +kernel
theorem isi_int_tuple {h : VH} {i : Int} : cIsi h [(.int i), .ty "tuple"] = some (.bl false) := by show ((kitB "int" "tuple").map VV.bl) = _; rw [kit_int_tuple]; rfl
theorem kit_int_bool : kitB "int" "bool" = some false := by decide +kernel
theorem isi_int_bool {h : VH} {i : Int} : cIsi h [(.int i), .ty "bool"] = some (.bl false) := by show ((kitB "int" "bool").map VV.bl) = _; rw [kit_int_bool]; rfl
theorem kit_int_int : kitB "int" "int" = some true := by decide +kernel
theorem isi_int_int {h : VH} {i : Int} : cIsi h [(.int i), .ty "int"] = some (.bl true) := by show ((kitB "int" "int").map VV.bl) = _; rw [kit_int_int]; rfl
theorem kit_int_str : kitB "int" "str" = some false := by decide +kernel
theorem isi_int_str {h : VH} {i : Int} : cIsi h [(.int i), .ty "str"] = some (.bl false) := by show ((kitB "int" "str").map VV.bl) = _; rw [kit_int_str]; rfl
theorem kit_str_list : kitB "str" "list" = some false := by decide +kernel
theorem isi_str_list {h : VH} {x : Str} : cIsi h [(.str x), .ty "list"] = some (.bl false) := by show ((kitB "str" "list").map VV.bl) = _; rw [kit_str_list]; rfl
theorem kit_str_tuple : kitB "str" "tuple" = some false := by decide +kernel
theorem isi_str_tuple {h : VH} {x : Str} : cIsi h [(.str x), .ty "tuple"] = some (.bl false) := by show ((kitB "str" "tuple").map VV.bl) = _; rw [kit_str_tuple]; rfl
theorem kit_str_bool : kitB "str" "bool" = some false := by decide +kernel
theorem isi_str_bool {h : VH} {x : Str} : cIsi h [(.str x), .ty "bool"] = some (.bl false) := by show ((kitB "str" "bool").map VV.bl) = _; rw [kit_str_bool]; rfl
theorem kit_str_int : kitB "str" "int" = some false := by decide +kernel
theorem isi_str_int {h : VH} {x : Str} : cIsi h [(.str x), .ty "int"] = some (.bl false) := by show ((kitB "str" "int").map VV.bl) = _; rw [kit_str_int]; rfl
theorem kit_str_str : kitB "str" "str" = some true := by decide +kernel
theorem isi_str_str {h : VH} {x : Str} : cIsi h [(.str x), .ty "str"] = some (.bl true) := by show ((kitB "str" "str").map VV.bl) = _; rw [kit_str_str]; rfl
theorem kit_tuple_list : kitB "tuple" "list" = some false := by decide +kernel
theorem isi_tuple_list {h : VH} {xs : List VV} : cIsi h [(.tup xs), .ty "list"] = some (.bl false) := by show ((kitB "tuple" "list").map VV.bl) = _; rw [kit_tuple_list]; rfl
theorem kit_tuple_tuple : kitB "tuple" "tuple" = some true := by decide +kernel
theorem isi_tuple_tuple {h : VH} {xs : List VV} : cIsi h [(.tup xs), .ty "tuple"] = some (.bl true) := by show ((kitB "tuple" "tuple").map VV.bl) = _; rw [kit_tuple_tuple]; rfl
theorem kit_tuple_bool : kitB "tuple" "bool" = some false := by decide +kernel
theorem isi_tuple_bool {h : VH} {xs : List VV} : cIsi h [(.tup xs), .ty "bool"] = some (.bl false) := by show ((kitB "tuple" "bool").map VV.bl) = _; rw [kit_tuple_bool]; rfl
theorem kit_tuple_int : kitB "tuple" "int" = some false := by decide +kernel
theorem isi_tuple_int {h : VH} {xs : List VV} : cIsi h [(.tup xs), .ty "int"] = some (.bl false) := by show ((kitB "tuple" "int").map VV.bl) = _; rw [kit_tuple_int]; rfl
theorem kit_tuple_str : kitB "tuple" "str" = some false := by decide +kernel
theorem isi_tuple_str {h : VH} {xs : List VV} : cIsi h [(.tup xs), .ty "str"] = some (.bl false) := by show ((kitB "tuple" "str").map VV.bl) = _; rw [kit_tuple_str]; rfl
theorem kit_list_list : kitB "list" "list" = some true := by decide +kernel
theorem isi_list_list {h : VH} {xs : List VV} : cIsi h [(.lst xs), .ty "list"] = some (.bl true) := by show ((kitB "list" "list").map VV.bl) = _; rw [kit_list_list]; rfl
theorem kit_list_tuple : kitB "list" "tuple" = some false := by decide +kernel
theorem isi_list_tuple {h : VH} {xs : List VV} : cIsi h [(.lst xs), .ty "tuple"] = some (.bl false) := by show ((kitB "list" "tuple").map VV.bl) = _; rw [kit_list_tuple]; rfl
theorem kit_list_bool : kitB "list" "bool" = some false := by decide +kernel
theorem isi_list_bool {h : VH} {xs : List VV} : cIsi h [(.lst xs), .ty "bool"] = some (.bl false) := by show ((kitB "list" "bool").map VV.bl) = _; rw [kit_list_bool]; rfl
theorem kit_list_int : kitB "list" "int" = some false := by decide +kernel
theorem isi_list_int {h : VH} {xs : List VV} : cIsi h [(.lst xs), .ty "int"] = some (.bl false) := by show ((kitB "list" "int").map VV.bl) = _; rw [kit_list_int]; rfl
theorem kit_list_str : kitB "list" "str" = some false := by decide +kernel
theorem isi_list_str {h : VH} {xs : List VV} : cIsi h [(.lst xs), .ty "str"] = some (.bl false) := by show ((kitB "list" "str").map VV.bl) = _; rw [kit_list_str]; rfl
end J
namespace J
open PySem L2
theorem blsOf_map : ∀ l : List Bool, blsOf (l.map VV.bl) = some l
  | [] => rfl
  | x :: xs => by rw [List.map_cons, blsOf, blsOf_map xs]; rfl
theorem all_bls {h : VH} {l : List Bool} : cAll h [.lst (l.map VV.bl)] = some (.bl (l.all id)) := by
  show (blsOf (l.map VV.bl)).map (fun ns => VV.bl (ns.all id)) = _
  rw [blsOf_map]; rfl
theorem isDs_ints : ∀ l : List Int, isDs (l.map VV.int) = true
  | [] => by simp [isDs]
  | x :: xs => by simp [isDs, isD, isDs_ints xs]
/-- == of lists of ints -/
theorem toDs_ints : ∀ l : List Int, toDs (l.map VV.int) = l.map PyData.int
  | [] => by simp [toDs]
  | x :: xs => by simp [toDs, toD, toDs_ints xs]
theorem eqvAll_ints : ∀ l m : List Int, PyData.eqvAll (l.map PyData.int) (m.map PyData.int) = decide (l = m)
  | [], [] => by simp [PyData.eqvAll]
  | [], y :: ys => by simp [PyData.eqvAll]
  | x :: xs, [] => by simp [PyData.eqvAll]
  | x :: xs, y :: ys => by
    simp only [List.map_cons, PyData.eqvAll, PyData.eqv, eqvAll_ints xs ys]
    by_cases h1 : x = y <;> by_cases h2 : xs = ys <;> simp [h1, h2]
theorem canLay_ints : ∀ l : List Int, PyData.canLayAll0 (l.map PyData.int) = true
  | [] => by simp [PyData.canLayAll0]
  | x :: xs => by simp [PyData.canLayAll0, PyData.canLay0, canLay_ints xs]
end J
namespace J
open PySem L2
theorem depth_ints : ∀ l : List Int, PyData.depthAll (l.map PyData.int) = 0
  | [] => by simp [PyData.depthAll]
  | x :: xs => by simp [PyData.depthAll, PyData.depth, depth_ints xs]
theorem eq_ints {h : VH} {l m : List Int} : opEq h (.lst (l.map VV.int)) (.lst (m.map VV.int)) = some (.bl (decide (l = m))) := by
  show (eqD _ _).map VV.bl = _
  unfold eqD
  have sh : ∀ l : List Int, SeqAt.shaped (toD (.lst (l.map VV.int))) = true := fun l => by
    rw [toD, toDs_ints]
    unfold SeqAt.shaped
    rw [PyData.canLay0, canLay_ints, PyData.depth, depth_ints]; rfl
  simp only [isD, isDs_ints, sh, and_self, if_true]
  rw [toD, toD, toDs_ints, toDs_ints, PyData.eqv, eqvAll_ints]; rfl
end J
namespace J
open PySem L2
end J
namespace J
open PySem L2
open PyProof.Rows (envOfC)
/-! loops of a comprehension's block, whatever a turn does -/
/-- what the slots knew they still know -/
def Knows (σ σ' : St) : Prop := σ.length = σ'.length ∧ ∀ (i : Nat) (v : V), σ[i]? = some (some v) → σ'[i]? = some (some v)
theorem Knows.refl {σ : St} : Knows σ σ := ⟨rfl, fun _ _ h => h⟩
theorem own_loop {Y : Cx} {node tg : Expr} {k m0 : Nat} {it : Addr} {acc : Value} {ce : Env} {p : Pos} {body : Value → Sem Unit} {J : It} {fp : List Addr} {tn : Nat → Heap → Prop} {pins : List (Addr × Obj)} {τ : St} {R : Result → Shared → Prop} {s : Shared} {G : Hp} (M : Nat → Nat → Hp → Prop)
    (hY : Y.calm = true) (T : Turn Y.prog Y.w Y.K tg J fp it tn)
    (hct : compTurn node k (.ref it) acc ce = (do
      standAt p
      match ← pyNext (.ref it) with
      | none => pure (.done .next)
      | some v =>
        letOwnedTupleGo tg (.ref it) v
        body v
        again (.compLoop node k (.ref it) acc ce)))
    (hq : (Code.compLoop node k (.ref it) acc ce).quiet = true) (hden : (model Y.prog Y.w).den (.compLoop node k (.ref it) acc ce) = (compTurn node k (.ref it) acc ce).onRaise (fun x => do noteFrame x ce; theTreesLotGoes x))
    (hund : Y.A.under (.compLoop node k (.ref it) acc ce) = Y.A)
    (I : Inv Y pins τ G s) (st : tn 0 s.heap) (hfp : ∀ (b : Addr) (G' : Hp), b ∈ fp → G' b = none → FpOk Y pins G' b) (nf : ∀ b ∈ fp, G b = none) (m1 : M 0 m0 G)
    (fate : ∀ (i m : Nat) (G1 : Hp), M i m G1 → (J.stop i G1 ∧ ∀ s', Inv Y pins τ G1 s' → R (.ok .next) s') ∨
      (J.go i G1 ∧ ∀ x G2, J.yld i G1 x G2 → ∀ (ps : List (Addr × Obj)) (s2 : Shared) (u : Value), Inv Y ps τ G2 s2 → RelV x u →
        wpAny (model Y.prog Y.w) Y.A (body u) (fun _ s3 => ∃ τ3 G3, Inv Y ps τ3 G3 s3 ∧ Knows τ τ3 ∧ ∃ m', m' < m ∧ M (i + 1) m' G3) (fun _ _ => False) s2)) :
    codeAny (model Y.prog Y.w) Y.A (.compLoop node k (.ref it) acc ce) R s := by
  refine codeAny_loop hq (fun n s' => ∃ i G', Inv Y pins τ G' s' ∧ tn i s'.heap ∧ (∀ b ∈ fp, G' b = none) ∧ M i n G') ?_ m0 ⟨0, G, I, st, nf, m1⟩
  rintro n s1 ⟨i, G1, I1, st1, nf1, mm⟩
  rw [hund, hden]
  refine wpAny_noted ?_
  rw [hct]
  refine wpAny_bind (wpAny_standAt (wpAny_bind ?_))
  rcases fate i n G1 mm with ⟨hstop, fin⟩ | ⟨hgo, step⟩
  · refine thnF (T.done Y rfl rfl rfl hY i pins s1 τ G1 (fun _ _ => False) I1 (fun b hb => hfp b G1 hb (nf1 b hb)) st1 hstop) fun r s2 z => ?_
    obtain ⟨z1, z2⟩ := z
    subst z1
    exact wpAny_pure (fin s2 z2)
  · refine thnF (T.item Y rfl rfl rfl hY i pins s1 τ G1 (fun _ _ => False) I1 (fun b hb => hfp b G1 hb (nf1 b hb)) st1 hgo) fun r s2 z => ?_
    obtain ⟨u, z1, z2⟩ := z
    subst z1
    refine wpAny_bind (thnF z2 fun _ s3 y => ?_)
    obtain ⟨x, G3, I3, rx, yl, st3, nf3⟩ := y
    have I3p := I3.pinned (fun b hb => hfp b G3 hb (nf3 b hb)) (T.obj _ _ st3)
    refine wpAny_bind (thnF (step x G3 yl _ s3 u I3p rx) fun _ s4 y => ?_)
    obtain ⟨τ4, G4, I4, kn, m', lt, mm'⟩ := y
    have held : ∀ b ∈ fp, ∀ o, s3.heap.get? b = some o → s4.heap.get? b = some o ∧ G4 b = none := by
      intro b hb o e
      have q := I4.pin (b, o) (List.mem_append_right _ (List.mem_append_right _ (mem_pinsAt hb e)))
      exact ⟨q.1, q.2.1⟩
    refine wpAny_pure ⟨rfl, m', lt, i + 1, G4, I4.unpinned.weak kn.1 kn.2, T.keep _ _ _ st3 fun b hb o e => (held b hb o e).1, fun b hb => ?_, mm'⟩
    obtain ⟨o, e, _⟩ := T.obj _ _ st3 b hb
    exact (held b hb o e).2
/-- into a comprehension's block and out of it -/
theorem blk_enter {X : Cx} {pins : List (Addr × Obj)} {s : Shared} {σ : St} {H : Hp} {Q : VK} {node tg iter : Expr} {ifs : List Expr} {gs : List Comprehension} {scope : Scope} {own : List (Str × Nat)} {pos' : Pos} {wi : TI} {new : Sem Value} {o0 : Obj} {O : Addr → HO}
    (L : It → Addr → Hp → Prop) (hcl : clausesOf node = ⟨tg, iter, ifs, 0⟩ :: gs) (hN : X.N.Nodup) (I : Inv X pins σ H s) (hi : PI X tg iter wi) (ok : BlkOk X.N X.env.scope scope own) (hs : ∀ x, foldedSetIterable iter X.env x = pure x)
    (hnew : ∀ (s : Shared) (E Q : Value → Shared → Prop), Q (.ref s.heap.objs.size) { s with heap := s.heap.push o0 } → wpAny (model X.prog X.w) X.A new Q E s)
    (hO : ∀ (h : Heap) (G : Hp), sysModules < h.objs.size → ObjOk X.prog X.w G (h.push o0) h.objs.size (O h.objs.size))
    (hst : ∀ (it acc : Value) (env : Env) (R : Result → Shared → Prop) (s : Shared), codeAny (model X.prog X.w) X.A (.compLoop node 0 it acc env) R s →
      wpAny (model X.prog X.w) X.A (pyIter it) (fun it' s' => codeAny (model X.prog X.w) X.A (.compLoop node 0 it' acc env) R s') (notedBy (model X.prog X.w) X.A env fun x s' => R (.error x) s') s → codeAny (model X.prog X.w) X.A (.compStart node 0 it acc env) R s)
    (h : wi σ H fun Jt H1 => ∀ D, H1 D = none → L Jt D (upd H1 D (O D)))
    (loop : ∀ (s3 : Shared) (H3 : Hp) (C : Addr) (cl : List (Str × Addr)) (fp : List Addr) (it D : Addr) (tn : Nat → Heap → Prop) (Jt : It) (s4 : Shared) (R : Result → Shared → Prop), L Jt D H3 → Inv (X.blk s3 H3 scope (compEnvC scope cl C X.env) fp) [] (wipe σ (own.map (·.2))) H3 s4 →
      Turn X.prog X.w X.K tg Jt fp it tn → tn 0 s4.heap → (∀ b ∈ fp, H3 b = none) → (∀ (b : Addr) (G : Hp), b ∈ fp → G b = none → FpOk (X.blk s3 H3 scope (compEnvC scope cl C X.env) fp) [] G b) →
      (∀ G s', Inv (X.blk s3 H3 scope (compEnvC scope cl C X.env) fp) [] (wipe σ (own.map (·.2))) G s' → Q (.ref D) G → R (.ok .next) s') →
      codeAny (model X.prog X.w) X.A (.compLoop node 0 (.ref it) (.ref D) (compEnvC scope cl C X.env)) R s4) :
    wpAny (model X.prog X.w) X.A (comprehension node scope X.env pos' new false (eval iter X.env) none) (EP X pins σ Q) X.xe s := by
  have hfree : ∀ y ∈ scope.names, y.2 = .free → ∃ c, X.env.cells.lookup y.1 = some c := by
    intro y hy e
    exact (ok.free y hy e).elim (fun k => I.ok.has _ (.inl k)) (fun k => I.ok.has _ (.inr k))
  refine wpAny_comprehension_free (use := none) hcl hs (closure_ok hfree) ok.kind (by intro y hy e; rw [ok.uniq y hy, e]) (thn (hi.run pins s σ H _ I h) fun xv s1 hx => thn hx fun itv s2 h2 => ?_)
  obtain ⟨it, fp, tn, Jt, H2, e, I2, T, st2, f2, lp⟩ := h2
  subst e
  refine hnew s2 _ _ (newEnv_comp ?_)
  have nD : H2 s2.heap.objs.size = none := I2.hok.fresh (Nat.le_refl _)
  have lp' := lp s2.heap.objs.size nD
  have I3 : Inv X pins σ (upd H2 s2.heap.objs.size (O s2.heap.objs.size)) { s2 with heap := s2.heap.push o0 } :=
    I2.laid (t' := s2.toks) (fun b o e => Heap.get?_push_of_some _ e) (Nat.le_refl _) (hO _ _ I2.big)
  have old : ∀ b ∈ fp, b < s2.heap.objs.size := by
    intro b hb
    obtain ⟨o, e, _⟩ := T.obj _ _ st2 b hb
    exact Heap.lt_size e
  have f3 : ∀ b ∈ fp, FpOk X pins (upd H2 s2.heap.objs.size (O s2.heap.objs.size)) b ∧ b < (s2.heap.push o0).objs.size := by
    intro b hb
    refine ⟨⟨?_, (f2 b hb).2⟩, by rw [Heap.size_push]; exact Nat.lt_succ_of_lt (old b hb)⟩
    rw [upd_ne (Nat.ne_of_lt (old b hb))]
    exact (f2 b hb).1
  have st3 : tn 0 (s2.heap.push o0) := T.keep _ _ _ st2 fun b _ o e => Heap.get?_push_of_some _ e
  have I4 := block_start I3 ok hN f3
  generalize hH3 : upd H2 s2.heap.objs.size (O s2.heap.objs.size) = H3 at I3 I4 f3 lp'
  have f3' : ∀ b ∈ fp, FpOk X pins H3 b ∧ b < ({ s2 with heap := s2.heap.push o0 } : Shared).heap.objs.size := f3
  have st3' : tn 0 ({ s2 with heap := s2.heap.push o0 } : Shared).heap := st3
  generalize ({ s2 with heap := s2.heap.push o0 } : Shared) = s3 at I3 I4 f3' st3' ⊢
  generalize s2.heap.objs.size = D at lp' ⊢
  clear f3 st3 nD hH3
  have st4 : tn 0 (pushCells (s3.heap.push { cls := .type "dict", data := .dict #[] }) scope.names) := T.keep _ _ _ st3' fun b _ o e => pushCells_keeps _ _ _ _ (Heap.get?_push_of_some _ e)
  have nfp : ∀ b ∈ fp, H3 b = none := fun b hb => (f3' b hb).1.1
  have stat : ∀ (b : Addr) (G : Hp), b ∈ fp → G b = none → FpOk (X.blk s3 H3 scope (compEnvC scope (cellsFrom (s3.heap.objs.size + 1) scope.names (cloFrom X.env.cells scope.names [])) s3.heap.objs.size X.env) fp) [] G b := by
    intro b G hb gn
    refine ⟨gn, (I4.ok.exf b hb).1, I4.ok.exfs b hb, .inl hb, fun x c e => (I4.ok.exf b hb).2 x c e, fun p hp => ?_⟩
    cases (show p ∈ ([] : List (Addr × Obj)) ++ [] from hp)
  have go := loop s3 H3 s3.heap.objs.size (cellsFrom (s3.heap.objs.size + 1) scope.names (cloFrom X.env.cells scope.names [])) fp it D tn Jt _ (compPost (model X.prog X.w) X.A X.xe none (EP X pins σ Q) (.ref D) s3.heap.objs.size) lp' I4 T st4 nfp stat fun G s' I5 q => ?_
  · exact hst _ _ _ _ _ go (T.self X.A 0 _ _ _ st4 go)
  · have cL : (X.blk s3 H3 scope (compEnvC scope (cellsFrom (s3.heap.objs.size + 1) scope.names (cloFrom X.env.cells scope.names [])) s3.heap.objs.size X.env) fp).env.locals = s3.heap.objs.size := rfl
    have I6 : Inv X pins σ G s' := I3.call' (ch := fp) I5.os I5.base I5.hok I5.bare fun b hb => by
      obtain ⟨-, q1, q2, q3, q4, q5⟩ := (f3' b hb).1
      exact ⟨q3, q1, q4, q5⟩
    have nC : G s3.heap.objs.size = none := by
      rw [← cL]; exact I5.free
    obtain ⟨m, hn, _⟩ := I5.loc
    rw [cL] at hn
    obtain ⟨q0, q1, q2, q3, q4, q5⟩ := I3.fpOk (H' := G) (Nat.le_refl _) nC
    exact ⟨m, hn, fun h' sb => ⟨.ref D, G, I6.turned (t' := s'.toks) (fun b o hb e => (sb.2 b hb).trans e) q0 q1 q3 q4 q5, rfl, q⟩⟩
end J
namespace J
open PySem L2
open PyProof.Rows (envOfC)
/-! an accumulator that grows by turns -/
/-- D is nobody's -/
structure Dz (g : Gh) (D : Addr) : Prop where
  nf : ¬ g.fz D
  ni : D ∉ g.io
  nk : ¬ g.kp D
def accGo {α : Type} (b : VV → VSt → Option VSt) (stp : VSt → VH → α → Res α) (ρ : VSt) : List VV → VH → α → Res α
  | [], h, a => .ok a h
  | x :: xs, h, a => match b x ρ with
    | none => .no
    | some ρ' => (stp ρ' h a).bind fun a' h' => accGo b stp ρ xs h' a'
/-- what a turn's inner part does to the accumulator at D -/
def StepOk {α : Type} (Y : Cx) (τ : St) (inner : Sem Unit) (D : Addr) (Ra : Gh → Hp → α → HO → Prop) (stp : VSt → VH → α → Res α) : Prop :=
  ∀ (ps : List (Addr × Obj)) (s : Shared) (σ : St) (H : Hp) (g : Gh) (ρ : VSt) (h : VH) (a a' : α) (h' : VH), Inv Y ps σ H s → Knows τ σ → RH (ct Y) g h H → RS (ct Y) g H ρ σ → Dz g D → (∃ o, H D = some o ∧ Ra g H a o) → stp ρ h a = .ok a' h' →
    wpAny (model Y.prog Y.w) Y.A inner (fun _ s' => ∃ σ' H' g', Inv Y ps σ' H' s' ∧ Knows τ σ' ∧ Stp g H g' H' ∧ RH (ct Y) g' h' H' ∧ Dz g' D ∧ ∃ o, H' D = some o ∧ Ra g' H' a' o) (fun _ _ => False) s
theorem acc_loop {α : Type} {Y : Cx} {node tg : Expr} {k : Nat} {it D : Addr} {ce : Env} {p : Pos} {inner : Sem Unit} {Jt : It} {fp : List Addr} {tn : Nat → Heap → Prop} {pins : List (Addr × Obj)} {τ : St} {R : Result → Shared → Prop} {s : Shared} {H : Hp} {Ra : Gh → Hp → α → HO → Prop} {stp : VSt → VH → α → Res α}
    {b : VV → VSt → Option VSt} {tgT : TG} {own : List Nat} {g : Gh} {h h' : VH} {a a' : α} {xs : List VV} {ρ : VSt}
    (hY : Y.calm = true) (hxe : ∀ e s, Y.xe e s → False) (he : Y.env = ce) (T : Turn Y.prog Y.w Y.K tg Jt fp it tn) (hct : compTurn node k (.ref it) (.ref D) ce = (do
      standAt p
      match ← pyNext (.ref it) with
      | none => pure (.done .next)
      | some v =>
        letOwnedTupleGo tg (.ref it) v
        (do assign tg ce v; inner)
        again (.compLoop node k (.ref it) (.ref D) ce)))
    (hq : (Code.compLoop node k (.ref it) (.ref D) ce).quiet = true) (hden : (model Y.prog Y.w).den (.compLoop node k (.ref it) (.ref D) ce) = (compTurn node k (.ref it) (.ref D) ce).onRaise (fun x => do noteFrame x ce; theTreesLotGoes x))
    (hund : Y.A.under (.compLoop node k (.ref it) (.ref D) ce) = Y.A)
    (pg : PG Y tg tgT) (pat : PatOk Y.K tgT b own) (hown : ∀ i ∈ own, ∀ v, τ[i]? ≠ some (some v)) (ok : StepOk Y τ inner D Ra stp)
    (hRa : ∀ g H g' H' a o, Stp g H g' H' → Ra g H a o → Ra g' H' a o)
    (I : Inv Y pins τ H s) (st : tn 0 s.heap) (hfp : ∀ (b : Addr) (G' : Hp), b ∈ fp → G' b = none → FpOk Y pins G' b) (nf : ∀ b ∈ fp, H b = none)
    (rh : RH (ct Y) g h H) (rs : RS (ct Y) g H ρ τ) (dz : Dz g D) (hD : ∃ o, H D = some o ∧ Ra g H a o) (dl : Deliv (ct Y) g H xs Jt) (res : accGo b stp ρ xs h a = .ok a' h')
    (fin : ∀ G' s' g', Inv Y pins τ G' s' → Stp g H g' G' → RH (ct Y) g' h' G' → Dz g' D → (∃ o, G' D = some o ∧ Ra g' G' a' o) → R (.ok .next) s')
    (hRt : ∀ g H a o, Ra g H a o → ∀ ps, o ≠ .tbl ps := by rintro g H a o ⟨_, rfl, _⟩ ps z; first | cases z | (unfold SetO at z; cases z)) :
    codeAny (model Y.prog Y.w) Y.A (.compLoop node k (.ref it) (.ref D) ce) R s := by
  subst he
  refine own_loop (m0 := xs.length) (body := fun v => do assign tg Y.env v; inner) (fun i m G => m = xs.length - i ∧ i ≤ xs.length ∧ ∃ gi hi ai, Stp g H gi G ∧ RH (ct Y) gi hi G ∧ Dz gi D ∧ (∃ o, G D = some o ∧ Ra gi G ai o) ∧ accGo b stp ρ (xs.drop i) hi ai = .ok a' h') hY T hct hq hden hund I st hfp nf ⟨by simp, Nat.zero_le _, g, h, a, .refl, rh, dz, hD, by rw [List.drop_zero]; exact res⟩ ?_
  rintro i m G1 ⟨rfl, hi, gi, hh, ai, sti, rhi, dzi, ⟨oi, hDi, rai⟩, resi⟩
  by_cases hlt : i < xs.length
  · refine .inr ⟨dl.go gi G1 sti.f i hlt, fun x G2 yl ps s2 u I2 rx => ?_⟩
    have ed : xs.drop i = xs[i] :: xs.drop (i + 1) := List.drop_eq_getElem_cons hlt
    rw [ed] at resi
    unfold accGo at resi
    -- D stays while the iterator yields
    have rhk : RH (ct Y) (gi.keep D) hh G1 := rhi.keep hDi dzi.nf dzi.ni (hRt _ _ _ _ rai)
    obtain ⟨g1, st1, rh1, rt1⟩ := dl.yld (gi.keep D) G1 (sti.trans .keep).f i xs[i] hh (List.getElem?_eq_getElem hlt) rhk x G2 yl
    have kD : g1.kp D := st1.kp D (.inr rfl)
    have hD2 : G2 D = G1 D := st1.kH D (.inr rfl)
    have st1b : Stp gi G1 (g1.back gi.kp) G2 := st1.back
    have rh1b : RH (ct Y) (g1.back gi.kp) hh G2 := rh1.back fun q z => st1.kp q (.inl z)
    have dz1 : Dz (g1.back gi.kp) D := ⟨(rh1.kd D kD).1, (rh1.kd D kD).2, dzi.nk⟩
    have rs1 : RS (ct Y) (g1.back gi.kp) G2 ρ τ := (rs.stp sti).stp st1b
    have rt1b : RT (ct Y) (g1.back gi.kp) G2 xs[i] x := rt1.back rfl rfl
    cases eb : b xs[i] ρ with
    | none => rw [eb] at resi; cases resi
    | some ρ' =>
      rw [eb] at resi
      simp only at resi
      cases es : stp ρ' hh ai with
      | no => rw [es] at resi; cases resi
      | exc _ _ _ _ => rw [es] at resi; cases resi
      | ok a2 h2 =>
        rw [es] at resi
        simp only [Res.bind] at resi
        have tgt := pat.run (ct Y) (g1.back gi.kp) hh G2 ρ τ xs[i] x ρ' rfl rh1b rs1 rt1b eb (fun σ' G' => G' = G2 ∧ RS (ct Y) (g1.back gi.kp) G2 ρ' σ' ∧ (∀ j, j ∉ own → σ'[j]? = τ[j]?) ∧ σ'.length = τ.length) fun σ' r o l => ⟨rfl, r, o, l⟩
        refine wpAny_bind (wpAny_mono (pg.run ps s2 τ G2 x u _ I2 rx tgt) (fun _ s3 z => ?_) fun e s z => (hxe e s z).elim)
        obtain ⟨σ3, G3, I3, eG, rs3, o3, l3⟩ := z
        subst eG
        have kn : Knows τ σ3 := ⟨l3.symm, fun j v e => by
          by_cases hj : j ∈ own
          · exact absurd e (hown j hj v)
          · rw [o3 j hj]; exact e⟩
        refine wpAny_mono (ok ps s3 σ3 G3 (g1.back gi.kp) ρ' hh ai a2 h2 I3 kn rh1b rs3 dz1 ⟨oi, hD2.trans hDi, hRa _ _ _ _ _ _ st1b rai⟩ es) (fun _ s4 z => ?_) fun _ _ z => z
        obtain ⟨σ4, G4, g4, I4, kn4, st4, rh4, dz4, hD4⟩ := z
        exact ⟨σ4, G4, I4, kn4, xs.length - (i + 1), by omega, rfl, hlt, g4, h2, a2, (sti.trans st1b).trans st4, rh4, dz4, hD4, resi⟩
  · have e : i = xs.length := by omega
    subst e
    rw [List.drop_length] at resi
    unfold accGo at resi
    cases resi
    exact .inl ⟨dl.stop gi G1 sti.f _ (Nat.le_refl _), fun s' I' => fin G1 s' gi I' sti rhi dzi ⟨oi, hDi, rai⟩⟩
end J
namespace J
open PySem L2
open PyProof.Rows (envOfC)
open PpSet (compTurn_set)
theorem ev_keep {Y : Cx} {e : Expr} {f : EF} {ps : List (Addr × Obj)} {s : Shared} {σ : St} {H : Hp} {g : Gh} {ρ : VSt} {h h1 : VH} {D : Addr} {o : HO} {v : VV} (hxe : ∀ e s, Y.xe e s → False) (pe : PE Y e (tE (ct Y) W0 f)) (I : Inv Y ps σ H s) (rh : RH (ct Y) g h H) (rs : RS (ct Y) g H ρ σ) (dz : Dz g D) (hD : H D = some o) (er : f ρ h = .ok v h1) (nt : ∀ ps, o ≠ .tbl ps := by intro _ z; subst_vars; first | cases z | (unfold SetO at z; cases z)) :
    wpAny (model Y.prog Y.w) Y.A (eval e Y.env) (fun u s' => ∃ H' g' x, Inv Y ps σ H' s' ∧ RelV x u ∧ Stp g H g' H' ∧ RH (ct Y) g' h1 H' ∧ RT (ct Y) g' H' v x ∧ Dz g' D ∧ H' D = some o) (fun _ _ => False) s := by
  refine wpAny_mono (pe.run ps s σ H (fun x H' => ∃ g', Stp g H g' H' ∧ RH (ct Y) g' h1 H' ∧ RT (ct Y) g' H' v x ∧ Dz g' D ∧ H' D = some o) I ⟨g.keep D, ρ, h, rh.keep hD dz.nf dz.ni nt, rs.stp .keep, ?_⟩) (fun u s' ⟨x, H', I', rx, g', a1, a2, a3, a4, a5⟩ => ⟨H', g', x, I', rx, a1, a2, a3, a4, a5⟩) fun e s z => (hxe e s z).elim
  rw [er]
  intro g' H' u st rh' rv
  have kD : g'.kp D := st.kp D (.inr rfl)
  exact ⟨g'.back g.kp, st.back, rh'.back fun q z => st.kp q (.inl z), rv.back rfl rfl, ⟨(rh'.kd D kD).1, (rh'.kd D kD).2, dz.nk⟩, (st.kH D (.inr rfl)).trans hD⟩
theorem ct_set (elt target iter : Expr) (scope : Scope) (pos : Pos) (it acc : Value) (env : Env) :
    compTurn (.SetComp elt [⟨target, iter, [], 0⟩] scope pos) 0 it acc env = (do
      standAt iter.pos
      match ← pyNext it with
      | none => pure (.done .next)
      | some v =>
        letOwnedTupleGo target it v
        (do assign target env v; (do let v ← eval elt env; standAt elt.pos; let _ ← call (.builtin "set.add") [acc, v]))
        again (.compLoop (.SetComp elt [⟨target, iter, [], 0⟩] scope pos) 0 it acc env)) := by
  rw [compTurn_set]
  simp only [List.forIn_nil, pure_bind, bind_assoc, if_true]
  rfl
theorem ct_dict_out (kx vx t0 i0 t1 i1 : Expr) (scope : Scope) (pos : Pos) (it acc : Value) (env : Env) :
    compTurn (.DictComp kx vx [⟨t0, i0, [], 0⟩, ⟨t1, i1, [], 0⟩] scope pos) 0 it acc env = (do
      standAt i0.pos
      match ← pyNext it with
      | none => pure (.done .next)
      | some v =>
        letOwnedTupleGo t0 it v
        (do assign t0 env v; (do let x ← eval i1 env; standAt i1.pos; let x ← foldedSetIterable i1 env x; let _ ← runOwn (.compStart (.DictComp kx vx [⟨t0, i0, [], 0⟩, ⟨t1, i1, [], 0⟩] scope pos) 1 (← holding [x] (pyIter x)) acc env) env))
        again (.compLoop (.DictComp kx vx [⟨t0, i0, [], 0⟩, ⟨t1, i1, [], 0⟩] scope pos) 0 it acc env)) := by
  unfold compTurn
  simp only [List.forIn_nil, pure_bind, bind_assoc, if_true]
  rfl
theorem ct_dict_in (kx vx t0 i0 t1 i1 : Expr) (scope : Scope) (pos : Pos) (it : Value) (D : Addr) (env : Env) :
    compTurn (.DictComp kx vx [⟨t0, i0, [], 0⟩, ⟨t1, i1, [], 0⟩] scope pos) 1 it (.ref D) env = (do
      standAt i1.pos
      match ← pyNext it with
      | none => pure (.done .next)
      | some v =>
        letOwnedTupleGo t1 it v
        (do assign t1 env v; (do let kv ← eval kx env; let vv ← holding [kv] (eval vx env); standAt { kx.pos with endLine := vx.pos.endLine, endCol := vx.pos.endCol }; holding [kv, vv] (dictSet D kv vv)))
        again (.compLoop (.DictComp kx vx [⟨t0, i0, [], 0⟩, ⟨t1, i1, [], 0⟩] scope pos) 1 it (.ref D) env)) := by
  unfold compTurn
  simp only [List.forIn_nil, pure_bind, bind_assoc, if_true]
  rfl
theorem cs_dict_in {prog : Program} {w : World} {A : Around} {R : Result → Shared → Prop} {s : Shared} {kx vx t0 i0 t1 i1 : Expr} {scope : Scope} {pos : Pos} {it acc : Value} {env : Env}
    (h0 : codeAny (model prog w) A (.compLoop (.DictComp kx vx [⟨t0, i0, [], 0⟩, ⟨t1, i1, [], 0⟩] scope pos) 1 it acc env) R s)
    (h : wpAny (model prog w) A (pyIter it) (fun it' s' => codeAny (model prog w) A (.compLoop (.DictComp kx vx [⟨t0, i0, [], 0⟩, ⟨t1, i1, [], 0⟩] scope pos) 1 it' acc env) R s') (notedBy (model prog w) A env fun x s' => R (.error x) s') s) :
    codeAny (model prog w) A (.compStart (.DictComp kx vx [⟨t0, i0, [], 0⟩, ⟨t1, i1, [], 0⟩] scope pos) 1 it acc env) R s := by
  apply codeAny_of_tree
  show wpAny _ _ ((compStart (.DictComp kx vx [⟨t0, i0, [], 0⟩, ⟨t1, i1, [], 0⟩] scope pos) 1 it acc env).onRaise (fun x => do noteFrame x env; standAt theWindowsPlace)) _ _ s
  apply wpAny_notedAt
  unfold compStart
  show wpAny _ _ (ask >>= _) _ _ s
  apply wpAny_bind
  apply wpAny_askSetting
  apply wpAny_ite
  split
  · first
      | exact wpAny_pure ⟨rfl, h0⟩
      | exact wpAny_bind (wpAny_pure (wpAny_pure ⟨rfl, h0⟩))
  · apply wpAny_bind
    apply wpAny_rule
    first
      | (apply wpAny_bind; apply wpAny_standAt; apply wpAny_bind; exact wpAny_mono h (fun it' s' q => wpAny_pure ⟨rfl, q⟩) fun _ _ q => q)
      | (show wpAny _ _ (standAt i1.pos >>= _) _ _ s; apply wpAny_bind; apply wpAny_standAt; apply wpAny_bind; exact wpAny_mono h (fun it' s' q => wpAny_pure ⟨rfl, q⟩) fun _ _ q => q)
def noX {α : Type} : Res α → Res α
  | .ok a h => .ok a h
  | _ => .no
/-- a comprehension whose accumulator is any one thing -/
theorem acc_PE {α : Type} {X : Cx} {W : WX} {node tg iter : Expr} {gs : List Comprehension} {scope : Scope} {own : List (Str × Nat)} {pos' p : Pos} {new : Sem Value} {o0 : Obj} {O : Addr → HO} {Ra : Addr → Gh → Hp → α → HO → Prop} {stp : VSt → VH → α → Res α} {b : VV → VSt → Option VSt} {tgT : TG} {it : AF} {a0 : α} {inner : Addr → Env → Sem Unit} {own1 : List Nat}
    (heval : eval node X.env = comprehension node scope X.env pos' new false (eval iter X.env) none)
    (hcl : clausesOf node = ⟨tg, iter, [], 0⟩ :: gs) (hc : X.calm = true) (hN : X.N.Nodup) (hi : PI X tg iter (tI (ct X) W it)) (ok : BlkOk X.N X.env.scope scope own) (hs : ∀ x, foldedSetIterable iter X.env x = pure x)
    (hnew : ∀ (s : Shared) (E Q : Value → Shared → Prop), Q (.ref s.heap.objs.size) { s with heap := s.heap.push o0 } → wpAny (model X.prog X.w) X.A new Q E s)
    (hO : ∀ (h : Heap) (G : Hp), sysModules < h.objs.size → ObjOk X.prog X.w G (h.push o0) h.objs.size (O h.objs.size))
    (hst : ∀ (it acc : Value) (env : Env) (R : Result → Shared → Prop) (s : Shared), codeAny (model X.prog X.w) X.A (.compLoop node 0 it acc env) R s →
      wpAny (model X.prog X.w) X.A (pyIter it) (fun it' s' => codeAny (model X.prog X.w) X.A (.compLoop node 0 it' acc env) R s') (notedBy (model X.prog X.w) X.A env fun x s' => R (.error x) s') s → codeAny (model X.prog X.w) X.A (.compStart node 0 it acc env) R s)
    (hct : ∀ (it D : Addr) (ce : Env), compTurn node 0 (.ref it) (.ref D) ce = (do
      standAt p
      match ← pyNext (.ref it) with
      | none => pure (.done .next)
      | some v =>
        letOwnedTupleGo tg (.ref it) v
        (do assign tg ce v; inner D ce)
        again (.compLoop node 0 (.ref it) (.ref D) ce)))
    (hq : ∀ (it D : Addr) (ce : Env), (Code.compLoop node 0 (.ref it) (.ref D) ce).quiet = true)
    (hden : ∀ (it D : Addr) (ce : Env), (model X.prog X.w).den (.compLoop node 0 (.ref it) (.ref D) ce) = (compTurn node 0 (.ref it) (.ref D) ce).onRaise (fun x => do noteFrame x ce; theTreesLotGoes x))
    (hund : ∀ (it D : Addr) (ce : Env), X.A.under (.compLoop node 0 (.ref it) (.ref D) ce) = X.A)
    (hg : ∀ (s : Shared) (H : Hp) (C : Addr) (cl : List (Str × Addr)) (fp : List Addr), PG (X.blk s H scope (compEnvC scope cl C X.env) fp) tg tgT) (pat : PatOk X.K tgT b own1) (hown1 : ∀ i ∈ own1, i ∈ own.map (·.2))
    (hRa : ∀ D g H g' H' a o, Stp g H g' H' → Ra D g H a o → Ra D g' H' a o) (hR0 : ∀ D g H, Ra D g H a0 (O D))
    (hok : ∀ (s : Shared) (H : Hp) (C : Addr) (cl : List (Str × Addr)) (fp : List Addr) (D : Addr) (τ : St), (∀ i ∈ own.map (·.2), ∀ v, τ[i]? ≠ some (some v)) → StepOk (X.blk s H scope (compEnvC scope cl C X.env) fp) τ (inner D (compEnvC scope cl C X.env)) D (Ra D) stp)
    (hRt : ∀ D g H a o, Ra D g H a o → ∀ ps, o ≠ .tbl ps := by rintro D g H a o ⟨_, rfl, _⟩ ps z; first | cases z | (unfold SetO at z; cases z)) :
    PE X node (tG (ct X) W (fun g H a u => ∃ D o, u = .ref D ∧ Dz g D ∧ H D = some o ∧ Ra D g H a o) (fun ρ h => (it ρ h).bind fun xs h1 => noX (accGo b stp (wp ρ (own.map (·.2))) xs h1 a0))) := by
  refine ⟨fun pins s σ H Q I h => ?_⟩
  rw [heval]
  refine blk_enter (O := O) (Q := Q) (fun Jt D H3 => ∃ g1 ρ1 xs h1, RH (ct X) g1 h1 H3 ∧ RS (ct X) g1 H3 ρ1 σ ∧ Deliv (ct X) g1 H3 xs Jt ∧ Dz g1 D ∧ (∃ o, H3 D = some o ∧ Ra D g1 H3 a0 o) ∧
    Pst (ct X) W σ (fun g H a u => ∃ D o, u = .ref D ∧ Dz g D ∧ H D = some o ∧ Ra D g H a o) g1 H3 Q (noX (accGo b stp (wp ρ1 (own.map (·.2))) xs h1 a0))) hcl hN I hi ok hs hnew hO hst ?_ ?_
  · obtain ⟨g, ρ, h0, rh, rs, pp⟩ := tG.bind (R := fun g H xs J => Deliv (ct X) g H xs J) (f := it) (k := fun (xs : List VV) ρ h1 => noX (accGo b stp (wp ρ (own.map (·.2))) xs h1 a0)) h
    refine ⟨g, ρ, h0, rh, rs, pp.imp fun Jt H1 ⟨g1, ρ1, xs, h1, rh1, rs1, dl, p1⟩ D hD => ?_⟩
    have st : Stp g1 H1 g1 (upd H1 D (O D)) := .junk rh1 hD
    refine ⟨g1, ρ1, xs, h1, rh1.junk hD, rs1.stp st, ⟨fun g' H' f => dl.go g' H' (st.f.trans f), fun g' H' f => dl.stop g' H' (st.f.trans f), fun g' H' f => dl.yld g' H' (st.f.trans f)⟩, ⟨fun z => ?_, fun z => ?_, fun z => ?_⟩, ⟨_, upd_same, hR0 D g1 _⟩, Pst.step st p1⟩
    · obtain ⟨o, e⟩ := rh1.fz D z; rw [hD] at e; cases e
    · obtain ⟨o, e⟩ := rh1.root z; rw [hD] at e; cases e
    · obtain ⟨o, e⟩ := rh1.kp D z; rw [hD] at e; cases e
  · rintro s3 H3 C cl fp itA D tn Jt s4 R ⟨g1, ρ1, xs, h1, rh1, rs1, dl, dz, hD, pp⟩ I4 T st4 nfp stat fin
    have wn : ∀ i ∈ own.map (·.2), ∀ v, (wipe σ (own.map (·.2)))[i]? ≠ some (some v) := fun i hi v e => (wipe_some e).2 hi
    cases er : accGo b stp (wp ρ1 (own.map (·.2))) xs h1 a0 with
    | no => rw [er] at pp; exact pp.elim
    | exc _ _ _ _ => rw [er] at pp; exact pp.elim
    | ok a' h' =>
      rw [er] at pp
      refine acc_loop (Y := X.blk s3 H3 scope (compEnvC scope cl C X.env) fp) (ρ := wp ρ1 (own.map (·.2))) (a := a0) hc (fun _ _ z => z) rfl T (hct itA D _) (hq itA D _) (hden itA D _) (hund itA D _) (hg s3 H3 C cl fp) pat (fun i hi => wn i (hown1 i hi)) (hok s3 H3 C cl fp D _ wn) (hRa D) I4 st4 stat nfp rh1 (rs1.wipe _) dz hD dl er ?_ (hRt D)
      intro G' s' g' I' st' rh' dz' ⟨o, e1, e2⟩
      exact fin G' s' I' (pp g' G' (.ref D) st' rh' ⟨D, o, rfl, dz', e1, e2⟩)
end J
namespace J
open PySem L2
open PyProof.Rows (envOfC)
theorem RH.wrD {c : Ct} {g : Gh} {h : VH} {H : Hp} {D : Addr} {O : HO} (rh : RH c g h H) (dz : Dz g D) (nt : ∀ us, H D ≠ some (.tup us)) (nb : NoTab D (H D)) : RH c g h (upd H D O) := by
  have stw : Stp g H g (upd H D O) := Stp.wr (c := c) dz.nf dz.nk nt
  refine ⟨rh.len, rh.nd, fun n o' b q1 q2 => ?_, fun q z => ?_, fun q z => ?_, rh.kd, rh.tb.upd nb, fun q z ps y => rh.nt q z ps (by rw [upd_ne (show q ≠ D from fun e => z.elim (fun z => dz.nf (e ▸ z)) (fun z => dz.nk (e ▸ z)))] at y; exact y)⟩
  · have nb : b ≠ D := fun e => dz.ni (e ▸ List.mem_of_getElem? q2)
    exact RO.stp stw (fun x => x) (upd_ne nb) (rh.at' n o' b q1 q2)
  · rw [upd_ne (show q ≠ D from fun e => dz.nf (e ▸ z))]; exact rh.fz q z
  · rw [upd_ne (show q ≠ D from fun e => dz.nk (e ▸ z))]; exact rh.kp q z
theorem noTab_setO {w : World} {D : Addr} {S : Int → Bool} {n : Nat} : NoTab D (some (SetO w D S n)) := by
  refine ⟨fun _ z => (by unfold SetO at z; cases z), fun q z => ?_⟩
  unfold SetO LamX.CodeO at z
  have e := HO.ext.inj (Option.some.inj z)
  let ob : Obj := { cls := .none, data := .fields #[.none, .str q 0] }
  let h0 : Heap := { objs := Array.replicate (D + 1) ob }
  have g0 : h0.get? D = some ob := by
    show (match (Array.replicate (D + 1) ob)[D]? with | some ⟨_, _, .freed, _⟩ => none | o => o) = some ob
    rw [Array.getElem?_replicate, if_pos (Nat.lt_succ_self D)]
  have k := congrFun e h0
  have y : SetR w h0 D S n := by
    rw [k]
    exact ⟨ob, _, 0, g0, rfl, rfl⟩
  obtain ⟨o, _, _, _, ho, hr⟩ := y
  rw [g0] at ho
  cases ho
  simp [ob] at hr
/-! len({e for x in xs}), ints -/
def stSet (fe : EF) : VSt → VH → List Int → Res (List Int) := fun ρ h a => (fe ρ h).bind fun v h1 => match v with
  | .int i => if a.length ≥ 4000 then .no else .ok (if i ∈ a then a else a ++ [i]) h1
  | _ => .no
def RaSet (w : World) (D : Addr) (_ : Gh) (_ : Hp) (a : List Int) (o : HO) : Prop := ∃ S, o = SetO w D S a.length ∧ ∀ j, S j = decide (j ∈ a)
theorem addI_ok {Y : Cx} {ps : List (Addr × Obj)} {σ : St} {H : Hp} {s : Shared} {E : Value → Shared → Prop} {D : Addr} {S : Int → Bool} {n : Nat} {i : Int} {t : Tok} {Q : Value → Shared → Prop} (I : Inv Y ps σ H s) (hD : H D = some (SetO Y.w D S n)) (room : n + 1 < scanBound)
    (h : ∀ s', Inv Y ps σ (upd H D (SetO Y.w D (fun j => S j || decide (j = i)) (if S i = true then n else n + 1))) s' → Q .none s') : wpAny (model Y.prog Y.w) Y.A (call (.builtin "set.add") [.ref D, .int i t]) Q E s := by
  have R := setO_get I hD
  refine setR_add R room fun h' sb new => h _ ?_
  have he : ∃ u, h'.get? D = some u := by
    obtain ⟨o, _, _, _, ho, _⟩ := new
    exact ⟨o, ho⟩
  exact I.write (e := D) (t' := s.toks + 1) (by rw [hD]; trivial) (.inl rfl) (fun b u hb hu => (sb.2 b hb).trans hu) he (setO_new new)
theorem step_set {Y : Cx} {τ : St} {elt : Expr} {fe : EF} {D : Addr} (hxe : ∀ e s, Y.xe e s → False) (pe : PE Y elt (tE (ct Y) W0 fe)) :
    StepOk Y τ (do let v ← eval elt Y.env; standAt elt.pos; let _ ← call (.builtin "set.add") [.ref D, v]) D (RaSet Y.w D) (stSet fe) := by
  intro ps s σ H g ρ h a a' h' I kn rh rs dz ⟨o, hD, S, eo, hS⟩ es
  unfold stSet at es
  cases ee : fe ρ h with
  | no => rw [ee] at es; cases es
  | exc _ _ _ _ => rw [ee] at es; cases es
  | ok v h1 =>
    rw [ee] at es
    simp only [Res.bind] at es
    split at es
    · rename_i i
      split at es
      · cases es
      · rename_i room
        cases es
        refine wpAny_bind (wpAny_mono (ev_keep hxe pe I rh rs dz hD ee) (fun u s1 z => ?_) fun _ _ z => z)
        obtain ⟨H1, g1, x, I1, rx, st1, rh1, rv1, dz1, hD1⟩ := z
        have ex := int_get rv1
        subst ex
        obtain ⟨t, rfl⟩ := (show ∃ t, u = Value.int i t from rx)
        rw [eo] at hD1
        refine wpAny_bind (wpAny_standAt (wpAny_bind (addI_ok I1 hD1 (show a.length + 1 < 4096 by omega) fun s2 I2 => wpAny_pure ?_)))
        have stw : Stp g1 H1 g1 (upd H1 D (SetO Y.w D (fun j => S j || decide (j = i)) (if S i = true then a.length else a.length + 1))) := Stp.wr (c := ct Y) dz1.nf dz1.nk (fun ys z => by rw [hD1] at z; cases z)
        refine ⟨σ, _, g1, I2, kn, st1.trans stw, ?_, dz1, _, upd_same, (fun j => S j || decide (j = i)), ?_, fun j => ?_⟩
        · exact rh1.wrD dz1 (fun ys z => by rw [hD1] at z; cases z) (by rw [hD1]; exact noTab_setO)
        · have e1 : (if S i = true then a.length else a.length + 1) = (if i ∈ a then a else a ++ [i]).length := by
            rw [hS i]
            by_cases m : i ∈ a
            · simp [m]
            · simp [m]
          rw [e1]
        · show (S j || decide (j = i)) = _
          rw [hS j]
          by_cases m : i ∈ a
          · rw [if_pos m]
            by_cases e : j = i
            · subst e; simp [m]
            · simp [e]
          · rw [if_neg m]
            simp
    · cases es
section
variable {X : Cx} {W : WX}
def rLenSO (w : World) : List V → Hp → VK → Prop := fun xs H Q => ∃ (D : Addr) (S : Int → Bool) (n : Nat), xs = [.ref D] ∧ H D = some (SetO w D S n) ∧ Q (.int n) H
theorem call_lenSO : CallR X (.builtin "len") (rLenSO X.w) := by
  intro pins s σ H xs us Q I r h
  obtain ⟨D, S, n, rfl, hD, q⟩ := h
  obtain ⟨u, rfl, ru⟩ := vals1 r
  cases ru
  obtain ⟨o, es, ep, t, ho, hx, hd, g, nd, hm, hb, hf, hn, _⟩ := setO_get I hD
  subst hn
  have hb' : es.size < 4096 := hb
  exact call_len_set ho hx hd hf (by omega) ⟨.int es.size, H, (I.tok _).tok _, ⟨_, rfl⟩, q⟩
def eLenSc (own : List Nat) (it : AF) (b : VV → VSt → Option VSt) (fe : EF) : EF := fun ρ h => (it ρ h).bind fun xs h1 => (noX (accGo b (stSet fe) (wp ρ own) xs h1 [])).bind fun a h2 => .ok (.int a.length) h2
theorem res_assoc {α β γ : Type} {r : Res α} {k : α → VH → Res β} {m : β → VH → Res γ} : (r.bind k).bind m = r.bind fun a h => (k a h).bind m := by cases r <;> rfl
theorem j_lenSc {elt tg iter : Expr} {scope : Scope} {own : List (Str × Nat)} {p pos cpos : Pos} {it : AF} {tgT : TG} {b : VV → VSt → Option VSt} {fe : EF} (hc : X.calm = true) (hN : X.N.Nodup) (hg : Gl X "len") (hm : X.mg "len" = none) (hi : PI X tg iter (tI (ct X) W it)) (ok : BlkOk X.N X.env.scope scope own)
    (hgt : ∀ (s : Shared) (H : Hp) (C : Addr) (cl : List (Str × Addr)) (fp : List Addr), PG (X.blk s H scope (compEnvC scope cl C X.env) fp) tg tgT) (pat : PatOk X.K tgT b (own.map (·.2)))
    (he : ∀ (s : Shared) (H : Hp) (C : Addr) (cl : List (Str × Addr)) (fp : List Addr), PE (X.blk s H scope (compEnvC scope cl C X.env) fp) elt (tE (ct X) W0 fe)) (hs : ∀ x, foldedSetIterable iter X.env x = pure x := by intro _; rfl)
    (hst1 : starEach [.SetComp elt [⟨tg, iter, [], 0⟩] scope pos] X.env = (false, eval (.SetComp elt [⟨tg, iter, [], 0⟩] scope pos) X.env) :: starEach [] X.env := by rfl) (hpl : (backTo cpos (starEach [] X.env)).any (·.1) = false := by rfl) :
    PE X (.Call (.Name "len" p) [.SetComp elt [⟨tg, iter, [], 0⟩] scope pos] [] cpos) (tE (ct X) W (eLenSc (own.map (·.2)) it b fe)) := by
  have key := acc_PE (X := X) (W := W) (node := .SetComp elt [⟨tg, iter, [], 0⟩] scope pos) (new := newSet (.type "set")) (O := fun D => SetO X.w D (fun _ => false) 0) (Ra := RaSet X.w) (stp := stSet fe) (a0 := []) (p := iter.pos)
    (inner := fun D env => do let v ← eval elt env; standAt elt.pos; let _ ← call (.builtin "set.add") [.ref D, v]) (PpSet.eval_SetComp elt _ scope pos) rfl hc hN hi ok hs (fun s E Q h => PpSet.newSet_ok h) (fun h G hb => setO_new (setR_fresh X.w)) (fun it acc env R s a b => PpSet.codeAny_compStart_set a b)
    (fun it D ce => ct_set elt tg iter scope pos (.ref it) (.ref D) ce) (fun _ _ _ => rfl) (fun _ _ _ => rfl) (fun _ _ _ => rfl) hgt pat (fun i hi => hi) (fun D g H g' H' a o _ h => h) (fun D g H => ⟨_, rfl, fun j => by simp⟩)
    (fun s H C cl fp D τ _ => step_set (Y := X.blk s H scope (compEnvC scope cl C X.env) fp) (fun _ _ z => z) (he s H C cl fp))
  refine PE.mono (pe_callB (call_lenSO (X := X)) hg hm rfl (pa_cons key pa_nil hst1) (by decide) (by decide) hst1 hpl) fun σ H Q h => ?_
  have h2 := tG.bind (R := fun g H (a : List Int) u => ∃ D o, u = V.ref D ∧ Dz g D ∧ H D = some o ∧ RaSet X.w D g H a o) (f := fun ρ h => (it ρ h).bind fun xs h1 => noX (accGo b (stSet fe) (wp ρ (own.map (·.2))) xs h1 [])) (k := fun (a : List Int) ρ h2 => .ok (VV.int a.length) h2) (R' := RT (ct X)) (W := W) (Q := Q) (by
    obtain ⟨g, ρ, h0, rh, rs, pp⟩ := h
    refine ⟨g, ρ, h0, rh, rs, ?_⟩
    unfold eLenSc at pp
    show Pst (ct X) W σ (RT (ct X)) g H Q (((it ρ h0).bind fun xs h1 => noX (accGo b (stSet fe) (wp ρ (own.map (·.2))) xs h1 [])).bind fun a h2 => .ok (VV.int a.length) h2)
    rw [res_assoc]
    exact pp)
  obtain ⟨g, ρ, h0, rh, rs, pp⟩ := h2
  refine ⟨g, ρ, h0, rh, rs, pp.imp fun u H1 ⟨g1, ρ1, a, h1, rh1, rs1, ⟨D, o, eu, dz, hD, S, eo, _⟩, p1⟩ => ?_⟩
  subst eu eo
  exact ⟨D, S, a.length, rfl, hD, p1 g1 H1 (.int a.length) .refl rh1 rt_int⟩
end
end J
namespace J
open PySem L2
open PyProof.Rows (envOfC)
/-! dicts whose keys are tuples -/
def keyA : VV → Option Key
  | .int i => some (.inl i)
  | .str x => some (.inr x)
  | _ => none
def keyL : List VV → Option (List Key)
  | [] => some []
  | x :: xs => (keyA x).bind fun a => (keyL xs).map fun r => a :: r
def keyV : VV → Option (List Key)
  | .tup xs => keyL xs
  | _ => none
theorem keyL_vals {c : Ct} {z : Addr → Prop} {H : Hp} : ∀ {xs : List VV} {us : List V} {k : List Key}, RVs c z H xs us → keyL xs = some k → us = k.map kV
  | [], us, k, r, e => by
    cases e
    rw [RVs] at r
    rw [r]; rfl
  | x :: xs, us, k, r, e => by
    rw [RVs] at r
    obtain ⟨u, q, rfl, a, b⟩ := r
    unfold keyL at e
    obtain ⟨y, e1, e2⟩ := Option.bind_eq_some_iff.mp e
    obtain ⟨l, e3, e4⟩ := Option.map_eq_some_iff.mp e2
    subst e4
    rw [keyL_vals b e3, List.map_cons]
    congr 1
    cases x with
    | int i => cases e1; rw [RV] at a; exact a
    | str i => cases e1; rw [RV] at a; exact a
    | _ => cases e1
theorem keyV_at {c : Ct} {g : Gh} {H : Hp} {v : VV} {u : V} {k : List Key} (r : RT c g H v u) (e : keyV v = some k) : ∃ b, u = .ref b ∧ H b = some (.tup (k.map kV)) := by
  cases v with
  | tup xs =>
    obtain ⟨p, us, rfl, ta, rs⟩ := tup_get r
    refine ⟨p, rfl, ?_⟩
    rw [← keyL_vals rs e]
    exact ta
  | _ => cases e
def hasK (ks : List (List Key)) (k : List Key) : Bool := ks.any fun x => decide (x = k)
/-- in its place, or at the end -/
def putVs {α : Type} (ks : List (List Key)) (vs : List α) (k : List Key) (v : α) : List α := if hasK ks k = true then (ks.zip vs).map (fun p => if p.1 = k then v else p.2) else vs ++ [v]
def putKs (ks : List (List Key)) (k : List Key) : List (List Key) := if hasK ks k = true then ks else ks ++ [k]
theorem zip_any {ks : List (List Key)} {us : List V} (hl : ks.length = us.length) (k : List Key) : ((ks.zip us).any fun kv => decide (kv.1 = k)) = hasK ks k := by
  unfold hasK
  induction ks generalizing us with
  | nil => simp
  | cons x xs ih =>
    cases us with
    | nil => cases hl
    | cons u us =>
      simp only [List.zip_cons_cons, List.any_cons, ih (Nat.succ.inj hl)]
theorem zip_put {ks : List (List Key)} {us : List V} (hl : ks.length = us.length) (k : List Key) (u : V) : putK (ks.zip us) k u = (putKs ks k).zip (putVs ks us k u) := by
  unfold putK putKs putVs
  rw [zip_any hl]
  by_cases m : hasK ks k = true
  · rw [if_pos m, if_pos m, if_pos m]
    clear m
    induction ks generalizing us with
    | nil => rfl
    | cons x xs ih =>
      cases us with
      | nil => cases hl
      | cons w us =>
        simp only [List.zip_cons_cons, List.map_cons, ih (Nat.succ.inj hl)]
        congr 1
        split <;> rfl
  · rw [if_neg m, if_neg m, if_neg m, List.zip_append hl]
    rfl
theorem put_len {α : Type} {ks : List (List Key)} {vs : List α} (hl : ks.length = vs.length) (k : List Key) (v : α) : (putKs ks k).length = (putVs ks vs k v).length := by
  unfold putKs putVs
  split
  · simp [hl]
  · simp [hl]
theorem RVs.put {c : Ct} {z : Addr → Prop} {H : Hp} {ks : List (List Key)} {vs : List VV} {us : List V} {k : List Key} {v : VV} {u : V} (hl : ks.length = us.length) (r : RVs c z H vs us) (q : RV c z H v u) : RVs c z H (putVs ks vs k v) (putVs ks us k u) := by
  unfold putVs
  split
  · rename_i m
    clear m
    induction ks generalizing vs us with
    | nil => simp only [List.zip_nil_left, List.map_nil]; exact RVs.nil
    | cons x xs ih =>
      cases us with
      | nil => cases hl
      | cons w us =>
        cases vs with
        | nil => rw [RVs] at r; cases r
        | cons y ys =>
          rw [RVs] at r
          obtain ⟨a1, a2, e, a3, a4⟩ := r
          cases e
          simp only [List.zip_cons_cons, List.map_cons]
          refine RVs.cons ?_ (ih (Nat.succ.inj hl) a4)
          by_cases e : x = k
          · rw [if_pos e, if_pos e]; exact q
          · rw [if_neg e, if_neg e]; exact a3
  · exact RVs.app r (RVs.one q)
theorem dict_setT {X : Cx} {pins : List (Addr × Obj)} {σ : St} {H : Hp} {s : Shared} {E : Value → Shared → Prop} {D b : Addr} {kvs : List (List Key × V)} {k : List Key} {v : V} {r : Value} {Q : Unit → Shared → Prop} (hu : X.A.units < cLine) (I : Inv X pins σ H s) (hD : H D = some (.dT kvs)) (hz : kvs.length < sizeLine)
    (eb : H b = some (.tup (k.map kV))) (rv : RelV v r) (h : ∀ s', Inv X pins σ (upd H D (.dT (putK kvs k v))) s' → Q () s') : wpAny (model X.prog X.w) X.A (dictSet D (.ref b) r) Q E s := by
  obtain ⟨z, hd, xs, rel, dd⟩ := dt_of I.hok hD
  have z1 : xs.length ≤ sizeLine := by rw [← Paired.length rel]; exact z
  have z2 : (putK kvs k v).length ≤ sizeLine := Nat.le_trans (length_putK kvs k v) (by omega)
  refine wpAny_dictSet_heap (hsz := z1) (show (tupleKind (mixKind X.prog X.w)).room X.A from hu) (key_of I.hok eb) dd fun h' dd' hs => h _ ?_
  obtain ⟨q, es, ep, hq, q2, q3, q4, _, q5⟩ := dd'
  exact d_write I (by rw [hD]; exact True.intro) hs ⟨q, hq⟩ ⟨z2, hd, _, (rel.put k eb rv).keeps (fun c ys ec => by rw [upd_ne (ne_of ec hD (fun z => nomatch z))]; exact ec), q, es, ep, hq, q2, q3, q4, q5⟩
end J
namespace J
open PySem L2
open PyProof.Rows (envOfC)
/-! {k: v for x in xs for y in ys}, keys tuples -/
abbrev DA := List (List Key) × List VV
def stDict (fk fv : EF) : VSt → VH → DA → Res DA := fun ρ h a => (fk ρ h).bind fun kv h1 => (fv ρ h1).bind fun v h2 => match keyV kv with
  | some k => if v.isObj = true ∨ a.1.length ≥ SZ then .no else .ok (putKs a.1 k, putVs a.1 a.2 k v) h2
  | none => .no
def stIn {α : Type} (it1 : AF) (b1 : VV → VSt → Option VSt) (vs1 : List Nat) (stp : VSt → VH → α → Res α) : VSt → VH → α → Res α := fun ρ h a => (it1 ρ h).bind fun xs h1 => accGo b1 stp (wp ρ vs1) xs h1 a
def RaD (c : Ct) (_ : Addr) (g : Gh) (H : Hp) (a : DA) (o : HO) : Prop := ∃ us, o = .dT (a.1.zip us) ∧ a.1.length = us.length ∧ RVs c g.fz H a.2 us
theorem RaD.nt {c : Ct} {D : Addr} {g : Gh} {H : Hp} {a : DA} {o : HO} (h : RaD c D g H a o) (ps : Array Value) : o ≠ .tbl ps := by
  obtain ⟨us, rfl, _⟩ := h
  intro z
  cases z
theorem RaD.stp {c : Ct} {D : Addr} {g g' : Gh} {H H' : Hp} {a : DA} {o : HO} (s : Stp g H g' H') (h : RaD c D g H a o) : RaD c D g' H' a o := by
  obtain ⟨us, e, l, r⟩ := h
  exact ⟨us, e, l, s.rvs r⟩
theorem step_dict {Y : Cx} {τ : St} {kx vx : Expr} {fk fv : EF} {D : Addr} {p : Pos} (hu : Y.A.units < cLine) (hxe : ∀ e s, Y.xe e s → False) (pk : PE Y kx (tE (ct Y) W0 fk)) (pv : PE Y vx (tE (ct Y) W0 fv)) :
    StepOk Y τ (do let kv ← eval kx Y.env; let vv ← holding [kv] (eval vx Y.env); standAt p; holding [kv, vv] (dictSet D kv vv)) D (RaD (ct Y) D) (stDict fk fv) := by
  intro ps s σ H g ρ h a a' h' I kn rh rs dz ⟨o, hD, ra⟩ es
  unfold stDict at es
  cases e1 : fk ρ h with
  | no => rw [e1] at es; cases es
  | exc _ _ _ _ => rw [e1] at es; cases es
  | ok kv h1 =>
    rw [e1] at es
    simp only [Res.bind] at es
    cases e2 : fv ρ h1 with
    | no => rw [e2] at es; cases es
    | exc _ _ _ _ => rw [e2] at es; cases es
    | ok v h2 =>
      rw [e2] at es
      simp only at es
      cases e3 : keyV kv with
      | none => rw [e3] at es; cases es
      | some k =>
        rw [e3] at es
        simp only at es
        split at es
        · cases es
        · rename_i cc
          cases es
          rw [not_or] at cc
          refine wpAny_bind (wpAny_mono (ev_keep hxe pk I rh rs dz hD e1 ra.nt) (fun u s1 z => ?_) fun _ _ z => z)
          obtain ⟨H1, g1, x, I1, rx, st1, rh1, rv1, dz1, hD1⟩ := z
          refine wpAny_bind (wpAny_holding (wpAny_mono (ev_keep hxe pv I1 rh1 (rs.stp st1) dz1 hD1 e2 ra.nt) (fun w s2 z => ?_) fun _ _ z => z))
          obtain ⟨H2, g2, y, I2, ry, st2, rh2, rv2, dz2, hD2⟩ := z
          obtain ⟨b, eb, hb⟩ := keyV_at (rv1.stp st2) e3
          subst eb
          obtain rfl : u = Value.ref b := rx
          obtain ⟨us, eo, hl, rvs⟩ := ra
          subst eo
          refine wpAny_bind (wpAny_standAt (wpAny_holding (dict_setT hu I2 hD2 (by rw [List.length_zip, ← hl, Nat.min_self]; exact SZ_lt (by omega)) hb ry fun s3 I3 => ?_)))
          have stw : Stp g2 H2 g2 (upd H2 D (.dT (putK (a.1.zip us) k y))) := Stp.wr (c := ct Y) dz2.nf dz2.nk (fun ys z => by rw [hD2] at z; cases z)
          refine ⟨σ, _, g2, I3, kn, (st1.trans st2).trans stw, rh2.wrD dz2 (fun ys z => by rw [hD2] at z; cases z) (by rw [hD2]; exact noTab_of (fun _ z => by cases z) (fun _ z => by cases z)), dz2, _, upd_same, putVs a.1 us k y, by rw [zip_put hl], put_len hl k y, ?_⟩
          exact RVs.put hl (stw.rvs (st2.rvs (st1.rvs rvs))) (stw.rv (rv2.rv (by simpa using cc.1)))
/-- the second for -/
theorem step_in {Y : Cx} {τ : St} {kx vx t0 i0 t1 i1 : Expr} {scope : Scope} {pos : Pos} {D : Addr} {it1 : AF} {b1 : VV → VSt → Option VSt} {tgT : TG} {vs1 : List Nat} {fk fv : EF} (hu : Y.A.units < cLine) (hY : Y.calm = true) (hxe : ∀ e s, Y.xe e s → False) (hvs : ∀ i ∈ vs1, ∀ v, τ[i]? ≠ some (some v))
    (pi1 : PI Y t1 i1 (tI (ct Y) W0 it1)) (pg : PG Y t1 tgT) (pat : PatOk Y.K tgT b1 vs1) (pk : PE Y kx (tE (ct Y) W0 fk)) (pv : PE Y vx (tE (ct Y) W0 fv)) (hs : ∀ x, foldedSetIterable i1 Y.env x = pure x) (hmark : Y.A.mark none = Y.A)
    (hund : ∀ (it : Value), Y.A.under (.compLoop (.DictComp kx vx [⟨t0, i0, [], 0⟩, ⟨t1, i1, [], 0⟩] scope pos) 1 it (.ref D) Y.env) = Y.A) :
    StepOk Y τ (do let x ← eval i1 Y.env; standAt i1.pos; let x ← foldedSetIterable i1 Y.env x; let _ ← runOwn (.compStart (.DictComp kx vx [⟨t0, i0, [], 0⟩, ⟨t1, i1, [], 0⟩] scope pos) 1 (← holding [x] (pyIter x)) (.ref D) Y.env) Y.env) D (RaD (ct Y) D) (stIn it1 b1 vs1 (stDict fk fv)) := by
  intro ps s σ H g ρ h a a' h' I kn rh rs dz ⟨o, hD, ra⟩ es
  unfold stIn at es
  cases e1 : it1 ρ h with
  | no => rw [e1] at es; cases es
  | exc _ _ _ _ => rw [e1] at es; cases es
  | ok xs h1 =>
    rw [e1] at es
    simp only [Res.bind] at es
    refine wpAny_bind (wpAny_mono (pi1.run ps s σ H (fun J H1 => ∃ g1, Stp g H g1 H1 ∧ RH (ct Y) g1 h1 H1 ∧ Deliv (ct Y) g1 H1 xs J ∧ Dz g1 D ∧ H1 D = some o) I ⟨g.keep D, ρ, h, rh.keep hD dz.nf dz.ni ra.nt, rs.stp .keep, ?_⟩) (fun x s1 z => ?_) fun e s z => (hxe e s z).elim)
    · rw [e1]
      intro g' H' J st rh' dl
      have kD : g'.kp D := st.kp D (.inr rfl)
      refine ⟨g'.back g.kp, st.back, rh'.back fun q z => st.kp q (.inl z), ⟨fun g2 H2 f => dl.go g2 H2 ⟨f.fz, f.fH, f.tp⟩, fun g2 H2 f => dl.stop g2 H2 ⟨f.fz, f.fH, f.tp⟩, fun g2 H2 f => dl.yld g2 H2 ⟨f.fz, f.fH, f.tp⟩⟩, ⟨(rh'.kd D kD).1, (rh'.kd D kD).2, dz.nk⟩, (st.kH D (.inr rfl)).trans hD⟩
    · refine wpAny_bind (wpAny_standAt (wpAny_bind (wpAny_of_eq (hs x) (wpAny_bind (wpAny_holding (wpAny_mono z (fun itv s2 z => ?_) fun e s z => (hxe e s z).elim))))))
      obtain ⟨it, fp, tn, J, H2, eit, I2, T, st2, f2, g2, stp2, rh2, dl, dz2, hD2⟩ := z
      subst eit
      refine wpAny_bind (wpAny_runOwn ?_)
      rw [hmark]
      have wkn : Knows (wipe σ vs1) σ := ⟨wipe_length _ _, fun i v e => (wipe_some e).1⟩
      have hK : Knows τ (wipe σ vs1) := ⟨kn.1.trans (wipe_length _ _).symm, fun i v e => by
        have ni : i ∉ vs1 := fun m => hvs i m v e
        rw [wipe_out ni]; exact kn.2 i v e⟩
      have go : codeAny (model Y.prog Y.w) Y.A (.compLoop (.DictComp kx vx [⟨t0, i0, [], 0⟩, ⟨t1, i1, [], 0⟩] scope pos) 1 (.ref it) (.ref D) Y.env)
          (fun r s' => match r with
            | .ok _ => ∃ σ' H' g', Inv Y ps σ' H' s' ∧ Knows τ σ' ∧ Stp g H g' H' ∧ RH (ct Y) g' h' H' ∧ Dz g' D ∧ ∃ o, H' D = some o ∧ RaD (ct Y) D g' H' a' o
            | .error _ => False) s2 := by
        refine acc_loop (Y := Y) (ρ := wp ρ vs1) (a := a) (τ := wipe σ vs1) (p := i1.pos) hY hxe rfl T (ct_dict_in kx vx t0 i0 t1 i1 scope pos (.ref it) D Y.env) rfl rfl (hund _) pg pat (fun i hi v e => (wipe_some e).2 hi) (step_dict hu hxe pk pv) (fun g H g' H' a o s h => h.stp s)
          (I2.weak wkn.1 wkn.2) st2 (fun b G hb gn => ⟨gn, (f2 b hb).2⟩) (fun b hb => (f2 b hb).1) rh2 ((rs.stp stp2).wipe _) dz2 ⟨o, hD2, ra.stp stp2⟩ dl es ?_
        intro G' s' g' I' st' rh' dz' ho
        exact ⟨_, G', g', I', hK, stp2.trans st', rh', dz', ho⟩
      refine codeAny_mono (cs_dict_in go (T.self Y.A 0 _ _ _ st2 go)) fun r s' hr => ?_
      cases r with
      | ok f => exact wpAny_pure hr
      | error e => exact hr.elim
end J
namespace J
open PySem L2
open PyProof.Rows (envOfC)
section
variable {X : Cx} {W : WX}
/-- a thing that nobody holds is frozen -/
theorem frz_nobody {c : Ct} {g : Gh} {h : VH} {H : Hp} {D : Addr} {o : HO} (rh : RH c g h H) (dz : Dz g D) (e : H D = some o) (nt : ∀ ps, o ≠ .tbl ps := by intro _ z; cases z) : Stp g H (g.frz D) H ∧ RH c (g.frz D) h H := by
  have st : Stp g H (g.frz D) H := .kill
  refine ⟨st, rh.len, rh.nd, fun n o a h1 h2 => ?_, fun q z => ?_, rh.kp, fun q z => ⟨fun y => y.elim (rh.kd q z).1 (fun e => dz.nk (e ▸ z)), (rh.kd q z).2⟩, rh.tb, fun q z ps y => z.elim (fun z => z.elim (fun z => rh.nt q (.inl z) ps y) (fun z => by rw [z, e] at y; exact nt ps (Option.some.inj y))) (fun z => rh.nt q (.inr z) ps y)⟩
  · exact RO.stp st (fun x z => z.elim x (fun e => dz.ni (e ▸ List.mem_of_getElem? h2))) rfl (rh.at' n o a h1 h2)
  · rcases z with z | z
    · exact rh.fz q z
    · rw [z]; exact ⟨_, e⟩
def eDc2 (own : List Nat) (it : AF) (b : VV → VSt → Option VSt) (it1 : AF) (b1 : VV → VSt → Option VSt) (vs1 : List Nat) (fk fv : EF) : EF := fun ρ h => (it ρ h).bind fun xs h1 => (noX (accGo b (stIn it1 b1 vs1 (stDict fk fv)) (wp ρ own) xs h1 ([], []))).bind fun a h2 => .ok (.dT a.1 a.2) h2
theorem j_dc2 {kx vx t0 i0 t1 i1 : Expr} {scope : Scope} {own : List (Str × Nat)} {own1 vs1 : List Nat} {pos : Pos} {it it1 : AF} {tgT tgT1 : TG} {b b1 : VV → VSt → Option VSt} {fk fv : EF} {k : Nat} (hr : Room k X.A) (hc : X.calm = true) (hN : X.N.Nodup) (hi : PI X t0 i0 (tI (ct X) W it)) (ok : BlkOk X.N X.env.scope scope own)
    (hg : ∀ (s : Shared) (H : Hp) (C : Addr) (cl : List (Str × Addr)) (fp : List Addr), PG (X.blk s H scope (compEnvC scope cl C X.env) fp) t0 tgT) (pat : PatOk X.K tgT b own1) (h1 : ∀ i ∈ own1, i ∈ own.map (·.2))
    (hi1 : ∀ (s : Shared) (H : Hp) (C : Addr) (cl : List (Str × Addr)) (fp : List Addr), PI (X.blk s H scope (compEnvC scope cl C X.env) fp) t1 i1 (tI (ct X) W0 it1))
    (hg1 : ∀ (s : Shared) (H : Hp) (C : Addr) (cl : List (Str × Addr)) (fp : List Addr), PG (X.blk s H scope (compEnvC scope cl C X.env) fp) t1 tgT1) (pat1 : PatOk X.K tgT1 b1 vs1) (h2 : ∀ i ∈ vs1, i ∈ own.map (·.2))
    (hk : ∀ (s : Shared) (H : Hp) (C : Addr) (cl : List (Str × Addr)) (fp : List Addr), PE (X.blk s H scope (compEnvC scope cl C X.env) fp) kx (tE (ct X) W0 fk))
    (hv : ∀ (s : Shared) (H : Hp) (C : Addr) (cl : List (Str × Addr)) (fp : List Addr), PE (X.blk s H scope (compEnvC scope cl C X.env) fp) vx (tE (ct X) W0 fv)) (hs : ∀ x, foldedSetIterable i0 X.env x = pure x := by intro _; rfl) (hs1 : ∀ env x, foldedSetIterable i1 env x = pure x := by intro _ _; rfl) :
    PE X (.DictComp kx vx [⟨t0, i0, [], 0⟩, ⟨t1, i1, [], 0⟩] scope pos) (tE (ct X) W (eDc2 (own.map (·.2)) it b it1 b1 vs1 fk fv)) := by
  have key := acc_PE (X := X) (W := W) (node := .DictComp kx vx [⟨t0, i0, [], 0⟩, ⟨t1, i1, [], 0⟩] scope pos) (new := newDict) (o0 := { cls := .type "dict", data := .dict #[] }) (O := fun D => .dT []) (Ra := RaD (ct X)) (stp := stIn it1 b1 vs1 (stDict fk fv)) (a0 := ([], [])) (p := i0.pos)
    (inner := fun D env => do let x ← eval i1 env; standAt i1.pos; let x ← foldedSetIterable i1 env x; let _ ← runOwn (.compStart (.DictComp kx vx [⟨t0, i0, [], 0⟩, ⟨t1, i1, [], 0⟩] scope pos) 1 (← holding [x] (pyIter x)) (.ref D) env) env)
    (arm_eval_DictComp _ _ _ _ _ _) rfl hc hN hi ok hs (fun s E Q h => wpAny_newObj_type h) (fun h G hb => dt_empty h hb) (fun it acc env R s a b => codeAny_compStart_dict a b)
    (fun it D ce => ct_dict_out kx vx t0 i0 t1 i1 scope pos (.ref it) (.ref D) ce) (fun _ _ _ => rfl) (fun _ _ _ => rfl) (fun _ _ _ => rfl) hg pat h1 (fun D g H g' H' a o s h => h.stp s) (fun D g H => ⟨[], rfl, rfl, RVs.nil⟩)
    (fun s H C cl fp D τ hτ => step_in (Y := X.blk s H scope (compEnvC scope cl C X.env) fp) (show X.A.units < cLine from hr.units0) hc (fun _ _ z => z) (fun i hi => hτ i (h2 i hi)) (hi1 s H C cl fp) (hg1 s H C cl fp) pat1 (hk s H C cl fp) (hv s H C cl fp) (hs1 _) (Around.mark_none _) (fun _ => rfl))
  refine PE.mono key fun σ H Q h => ?_
  have h2 := tG.bind (R := fun g H (a : DA) u => ∃ D o, u = V.ref D ∧ Dz g D ∧ H D = some o ∧ RaD (ct X) D g H a o) (f := fun ρ h => (it ρ h).bind fun xs h1 => noX (accGo b (stIn it1 b1 vs1 (stDict fk fv)) (wp ρ (own.map (·.2))) xs h1 ([], []))) (k := fun (a : DA) ρ h2 => .ok (VV.dT a.1 a.2) h2) (R' := RT (ct X)) (W := W) (Q := Q) (by
    obtain ⟨g, ρ, h0, rh, rs, pp⟩ := h
    refine ⟨g, ρ, h0, rh, rs, ?_⟩
    unfold eDc2 at pp
    show Pst (ct X) W σ (RT (ct X)) g H Q (((it ρ h0).bind fun xs h1 => noX (accGo b (stIn it1 b1 vs1 (stDict fk fv)) (wp ρ (own.map (·.2))) xs h1 ([], []))).bind fun a h2 => .ok (VV.dT a.1 a.2) h2)
    rw [res_assoc]
    exact pp)
  obtain ⟨g, ρ, h0, rh, rs, pp⟩ := h2
  refine ⟨g, ρ, h0, rh, rs, pp.imp fun u H1 ⟨g1, ρ1, a, h1, rh1, rs1, ⟨D, o, eu, dz, hD, us, eo, hl, rvs⟩, p1⟩ => ?_⟩
  subst eu eo
  obtain ⟨st, rhf⟩ := frz_nobody rh1 dz hD
  refine p1 (g1.frz D) H1 (.ref D) st rhf ?_
  show RV _ _ _ _ _
  rw [RV]
  exact ⟨D, us, rfl, .inr rfl, .inl hD, hl, st.rvs rvs⟩
end
end J
namespace J
open PySem PySem.Spec L2 PyProof.Rows
/-! the tables of larger sets: the masks up to 511 -/
structure Round (m : Nat) : Prop where
  odd : m % 2 = 1
  low : m ≤ 511
  met : ∀ (h : Int) (j : Nat), j ≤ m → ∃ n, n ≤ m + 12 ∧ runI m (SetTable.bits h) n = j
theorem round_of {m : Nat} (hm : MaskOk m) : Round m := ⟨mask_odd hm, by rcases hm with e | e | e <;> omega, fun h j hj => run_meets hm h hj⟩
/-- 0, 1, 6, 31 .. -/
def orb : Nat → Nat → List Nat
  | 0, _ => []
  | n + 1, x => x :: orb n ((x * 5 + 1) % 512)
theorem orb_len : ∀ (n x : Nat), (orb n x).length = n
  | 0, _ => rfl
  | n + 1, x => congrArg Nat.succ (orb_len n _)
theorem orb_get : ∀ (n a k : Nat), k < n → (orb n (lcgN 511 a))[k]? = some (lcgN 511 (a + k))
  | n + 1, a, 0, _ => rfl
  | n + 1, a, k + 1, h => by
    have e := orb_get n (a + 1) k (by omega)
    rw [show a + 1 + k = a + (k + 1) by omega] at e
    exact e
theorem orb_all : ((List.range 512).all fun j => (orb 512 0).contains j) = true := by decide +kernel
theorem orb_back : lcgN 511 512 = 0 := by decide +kernel
theorem lcg_at {j : Nat} (hj : j ≤ 511) : ∃ b, b ≤ 511 ∧ lcgN 511 b = j := by
  have hm : j ∈ orb 512 (lcgN 511 0) := List.contains_iff_mem.mp (List.all_eq_true.mp orb_all j (List.mem_range.mpr (by omega)))
  obtain ⟨b, hb⟩ := List.mem_iff_getElem?.mp hm
  have lb : b < 512 := by
    have := (List.getElem?_eq_some_iff.mp hb).1
    rw [orb_len] at this
    exact this
  rw [orb_get 512 0 b lb, Nat.zero_add] at hb
  exact ⟨b, by omega, Option.some.inj hb⟩
theorem lcg_again (k : Nat) : lcgN 511 (512 + k) = lcgN 511 k := by
  rw [← lcgN_add, orb_back]
  have := lcgN_add 511 0 k
  rw [Nat.zero_add] at this
  exact this
theorem round511 : Round 511 where
  odd := rfl
  low := Nat.le_refl _
  met := fun h j hj => by
    obtain ⟨a, ha, ea⟩ := lcg_at (runI_le 511 (SetTable.bits h) 12)
    obtain ⟨b, hb, eb⟩ := lcg_at hj
    obtain ⟨k, hk, e⟩ : ∃ k, k ≤ 511 ∧ lcgN 511 (a + k) = j := by
      by_cases c : a ≤ b
      · exact ⟨b - a, by omega, by rw [show a + (b - a) = b by omega]; exact eb⟩
      · exact ⟨512 + b - a, by omega, by rw [show a + (512 + b - a) = 512 + b by omega, lcg_again]; exact eb⟩
    exact ⟨12 + k, by omega, by rw [runI_tail (bits_lt h), ← ea, lcgN_add]; exact e⟩
theorem way_in (m : Nat) (h : Int) (k : Nat) : way m h k ≤ m := by
  have a := runEnd_bd (m := m) (i := SetTable.bits h % (m + 1)) (Nat.le_of_lt_succ (Nat.mod_lt _ (Nat.succ_pos _)))
  have b := nth_in (m := m) k (runAt m (SetTable.bits h % (m + 1)) (SetTable.bits h)) (by
    show SetTable.bits h % (m + 1) + (SetTable.runEnd m (SetTable.bits h % (m + 1)) - SetTable.bits h % (m + 1)) ≤ m
    omega)
  exact Nat.le_trans (Nat.le_add_right _ _) b
/-- a table: each slot with the hash that sits there -/
structure Laid (t : SetTable) (hs : List Int) : Prop where
  up : Ris t.place.toList
  bare : t.dummies = #[]
  many : t.place.toList.length = hs.length
  rnd : Round t.mask
  under : ∀ x ∈ t.place.toList, x ≤ t.mask
  found : ∀ q ∈ t.place.toList.zip hs, ∃ k, way t.mask q.2 k = q.1 ∧ ∀ d, d < k → way t.mask q.2 d ∈ t.place.toList
section
variable {t : SetTable} {hs : List Int} {h : Int} {K : Nat}
theorem Laid.first (T : Laid t hs) (hl : hs.length ≤ t.mask) (h : Int) : ∃ K, K < 10 * SetTable.turns t.mask ∧ way t.mask h K ∉ t.place.toList ∧ ∀ d, d < K → way t.mask h d ∈ t.place.toList := by
  obtain ⟨j, hj, hn⟩ := st_missing t.place.toList (t.mask + 1) (by rw [T.many]; omega)
  obtain ⟨n, hn1, e⟩ := T.rnd.met h j (by omega)
  obtain ⟨k, hk, e2⟩ := run_nth t.mask (SetTable.bits h) n
  have ek : way t.mask h k = j := (congrArg SetTable.Probe.j e2).trans e
  obtain ⟨K, a, b, c⟩ := st_least (p := fun k => way t.mask h k ∉ t.place.toList) k (by
    show way t.mask h k ∉ _
    rw [ek]; exact hn)
  exact ⟨K, by unfold SetTable.turns; omega, b, fun d hd => Classical.not_not.mp (c d hd)⟩
theorem Laid.ahead (T : Laid t hs) {i j : Nat} (hK : way t.mask h K ∉ t.place.toList) (hi : hs[i]? = some h) (hj : t.place.toList[i]? = some j) : ∃ d, d < K ∧ way t.mask h d = j := by
  obtain ⟨k, e, b⟩ := T.found (j, h) (List.mem_of_getElem? (i := i) (List.getElem?_zip_eq_some.mpr ⟨hj, hi⟩))
  refine ⟨k, Nat.lt_of_not_le fun c => hK ?_, e⟩
  rcases Nat.eq_or_lt_of_le c with z | z
  · rw [z, show way t.mask h k = j from e]; exact List.mem_of_getElem? hj
  · exact b K z
theorem zip_in {α β : Type} {A : List α} {B : List β} {p : Nat} {x : α} {y : β} (e : A.length = B.length) {q : α × β} (hq : q ∈ (A.take p ++ x :: A.drop p).zip (B.take p ++ y :: B.drop p)) : q = (x, y) ∨ q ∈ A.zip B := by
  have el : (A.take p).length = (B.take p).length := by rw [List.length_take, List.length_take, e]
  have es : A.zip B = (A.take p).zip (B.take p) ++ (A.drop p).zip (B.drop p) := by
    rw [← List.zip_append el, List.take_append_drop, List.take_append_drop]
  rw [List.zip_append el, List.zip_cons_cons] at hq
  rw [es]
  rcases List.mem_append.mp hq with z | z
  · exact .inr (List.mem_append_left _ z)
  · rcases List.mem_cons.mp z with z | z
    · exact .inl z
    · exact .inr (List.mem_append_right _ z)
/-- one more in its slot -/
theorem Laid.put (T : Laid t hs) {j : Nat} (ej : way t.mask h K = j) (hK : j ∉ t.place.toList) (hb : ∀ d, d < K → way t.mask h d ∈ t.place.toList) :
    Laid (t.put j).1 (hs.take (SetTable.below t.place j) ++ h :: hs.drop (SetTable.below t.place j)) ∧ (t.put j).1.fill = hs.length + 1 := by
  have cut := (below_cut T.up j).1
  have pl : SetTable.below t.place j ≤ t.place.toList.length := by rw [Array.length_toList]; exact cut
  have ph : SetTable.below t.place j ≤ hs.length := by rw [← T.many]; exact pl
  have new := put_place t j
  have more : ∀ {x : Nat}, x ∈ t.place.toList → x ∈ (t.put j).1.place.toList := fun {x} z => by rw [new]; exact mem_ins.mpr (.inr z)
  have len : (t.put j).1.place.toList.length = hs.length + 1 := by rw [new, len_ins _ pl, T.many]
  refine ⟨⟨ris_insert T.up fun z => hK (List.mem_of_getElem? (by rw [Array.getElem?_toList]; exact z)), put_dm T.bare j, by rw [len_ins _ ph]; exact len, T.rnd, fun x hx => ?_, fun q hq => ?_⟩, ?_⟩
  · rw [new] at hx
    rcases mem_ins.mp hx with z | z
    · rw [z, ← ej]; exact way_in _ _ _
    · exact T.under x z
  · rw [new] at hq
    rcases zip_in T.many hq with z | z
    · subst z
      exact ⟨K, ej, fun d hd => more (hb d hd)⟩
    · obtain ⟨k, e, f⟩ := T.found q z
      exact ⟨k, e, fun d hd => more (f d hd)⟩
  · have f : (t.put j).1.fill = (t.put j).1.place.toList.length + (t.put j).1.dummies.size := by rw [Array.length_toList]; rfl
    rw [f, len, put_dm T.bare j]; rfl
end
/-! all laid anew -/
structure Seat (m : Nat) (hs : List Int) (n : Nat) (ow : Array (Option Nat)) : Prop where
  size : ow.size = m + 1
  sit : ∀ j k, j ≤ m → oAt ow j = some k → k < n ∧ ∃ K, way m (hs.getD k 0) K = j ∧ ∀ d, d < K → oAt ow (way m (hs.getD k 0) d) ≠ none
  each : ∀ k, k < n → ∃ j, j ≤ m ∧ oAt ow j = some k
  once : ∀ i j k, i ≤ m → j ≤ m → oAt ow i = some k → oAt ow j = some k → i = j
section
variable {m n : Nat} {hs : List Int} {ow : Array (Option Nat)}
theorem Seat.room (S : Seat m hs n ow) (hn : n ≤ m) : ∃ j, j ≤ m ∧ oAt ow j = none := by
  refine Classical.byContradiction fun c => ?_
  have full : ∀ j, j ≤ m → ∃ k, oAt ow j = some k := fun j hj => by
    cases e : oAt ow j with
    | none => exact absurd ⟨j, hj, e⟩ c
    | some k => exact ⟨k, rfl⟩
  have nd : ((List.range (m + 1)).map fun j => (oAt ow j).getD 0).Nodup := by
    unfold List.Nodup
    rw [List.pairwise_map]
    refine List.Pairwise.imp_of_mem (fun {a b} ha hb ne z => ne ?_) (List.nodup_range (n := m + 1))
    have ha := List.mem_range.mp ha
    have hb := List.mem_range.mp hb
    obtain ⟨k, ek⟩ := full a (by omega)
    obtain ⟨l, el⟩ := full b (by omega)
    rw [ek, el] at z
    have z : k = l := z
    subst z
    exact S.once a b k (by omega) (by omega) ek el
  have q := nat_nodup_len _ (List.range n) nd fun x hx => by
    obtain ⟨j, hj, rfl⟩ := List.mem_map.mp hx
    have hj := List.mem_range.mp hj
    obtain ⟨k, ek⟩ := full j (by omega)
    rw [ek]
    exact List.mem_range.mpr (S.sit j k (by omega) ek).1
  rw [List.length_map, List.length_range, List.length_range] at q
  omega
theorem Seat.next (R : Round m) (S : Seat m hs n ow) (hn : n ≤ m) {h : Int} (eh : hs.getD n 0 = h) :
    ∃ j, SetTable.layClean.free m ow (SetTable.turns m) (SetTable.bits h % (m + 1)) (SetTable.bits h) = some j ∧ Seat m hs (n + 1) (ow.setIfInBounds j (some n)) := by
  obtain ⟨j0, h0, e0⟩ := S.room hn
  obtain ⟨r, hr, er⟩ := R.met h j0 h0
  have eo : way m h (off m (SetTable.bits h % (m + 1)) (SetTable.bits h) r) = j0 := by
    show (nth m (runAt m (SetTable.bits h % (m + 1)) (SetTable.bits h)) _).j = j0
    rw [nth_off, itL_run]
    exact er
  obtain ⟨K, k1, k2, k3⟩ := st_least (p := fun k => oAt ow (way m h k) = none) _ (show oAt ow (way m h (off m (SetTable.bits h % (m + 1)) (SetTable.bits h) r)) = none by rw [eo]; exact e0)
  have busy : ∀ d, d < K → (oAt ow (way m h d)).isNone = false := fun d hd => by
    cases z : oAt ow (way m h d) with
    | none => exact absurd z (k3 d hd)
    | some _ => rfl
  have ef := free_spec m ow (SetTable.turns m) r (SetTable.bits h % (m + 1)) (SetTable.bits h) K (by unfold SetTable.turns; omega) k1 busy (by
    have z : oAt ow (way m h K) = none := k2
    show (oAt ow (way m h K)).isNone = true
    rw [z]; rfl)
  obtain ⟨j, ej⟩ : ∃ j, way m h K = j := ⟨_, rfl⟩
  have ef : SetTable.layClean.free m ow (SetTable.turns m) (SetTable.bits h % (m + 1)) (SetTable.bits h) = some (way m h K) := ef
  have k2 : oAt ow (way m h K) = none := k2
  have jm : j ≤ m := by rw [← ej]; exact way_in m h K
  rw [ej] at ef k2
  have at_j : oAt (ow.setIfInBounds j (some n)) j = some n := oAt_set_self _ (by rw [S.size]; omega)
  have at_i : ∀ {i : Nat}, i ≠ j → oAt (ow.setIfInBounds j (some n)) i = oAt ow i := fun c => oAt_set_ne _ c
  have stays : ∀ {i : Nat}, oAt ow i ≠ none → oAt (ow.setIfInBounds j (some n)) i ≠ none := fun {i} z => by
    by_cases c : i = j
    · rw [c, at_j]; exact fun y => by cases y
    · rw [at_i c]; exact z
  refine ⟨j, ef, by rw [Array.size_setIfInBounds]; exact S.size, fun i k hi e => ?_, fun k hk => ?_, fun i i' k hi hi' e e' => ?_⟩
  · by_cases c : i = j
    · rw [c, at_j] at e
      cases e
      rw [eh, c]
      exact ⟨Nat.lt_succ_self _, K, ej, fun d hd => stays (k3 d hd)⟩
    · rw [at_i c] at e
      obtain ⟨a, K', b, d⟩ := S.sit i k hi e
      exact ⟨by omega, K', b, fun d' hd => stays (d d' hd)⟩
  · by_cases c : k = n
    · exact ⟨j, jm, by rw [c]; exact at_j⟩
    · obtain ⟨i, hi, e⟩ := S.each k (by omega)
      exact ⟨i, hi, by rw [at_i (fun z => by rw [z, k2] at e; cases e)]; exact e⟩
  · by_cases c : i = j
    · by_cases c' : i' = j
      · rw [c, c']
      · rw [c, at_j] at e
        rw [at_i c'] at e'
        cases e
        exact absurd (S.sit i' n hi' e').1 (Nat.lt_irrefl _)
    · by_cases c' : i' = j
      · rw [c', at_j] at e'
        rw [at_i c] at e
        cases e'
        exact absurd (S.sit i n hi e).1 (Nat.lt_irrefl _)
      · rw [at_i c] at e
        rw [at_i c'] at e'
        exact S.once i i' k hi hi' e e'
theorem seat_all (R : Round m) (hl : hs.length ≤ m) : ∀ (rest : List Int) (n : Nat) (ow : Array (Option Nat)), n ≤ hs.length → hs.drop n = rest → Seat m hs n ow →
    ∃ ow', rest.foldl (stepF m) (some (ow, n)) = some (ow', hs.length) ∧ Seat m hs hs.length ow'
  | [], n, ow, hn, e, S => by
    have : n = hs.length := by
      have z := congrArg List.length e
      rw [List.length_drop] at z
      simp at z
      omega
    subst this
    exact ⟨ow, rfl, S⟩
  | h :: rest, n, ow, hn, e, S => by
    have ln : n < hs.length := by
      have z := congrArg List.length e
      rw [List.length_drop, List.length_cons] at z
      omega
    rw [List.drop_eq_getElem_cons ln] at e
    injection e with e1 e2
    obtain ⟨j, ef, S'⟩ := S.next R (by omega) (h := h) (by rw [List.getD_eq_getElem?_getD, List.getElem?_eq_getElem ln]; exact e1)
    rw [List.foldl_cons, stepF_some ef]
    exact seat_all R hl rest (n + 1) _ ln e2 S'
end
theorem relaid_laid (t : SetTable) {hs : Array Int} {wanted M : Nat} (hw : SetTable.sizeAbove wanted - 1 = M) (R : Round M) (hn : hs.size ≤ M) :
    ∃ t' order, t.relaid hs wanted = some (t', order) ∧ order.toList.Perm (List.range hs.size) ∧ Laid t' (order.toList.map fun i => hs.getD i 0) ∧ t'.mask = M ∧ t'.led = t.led ∧ t'.plain = t.plain := by
  have S0 : Seat M hs.toList 0 (Array.replicate (M + 1) none) := ⟨by simp, fun j k hj e => (by rw [oAt_init hj] at e; cases e), fun k hk => absurd hk (Nat.not_lt_zero _), fun i j k hi hj e => (by rw [oAt_init hi] at e; cases e)⟩
  obtain ⟨ow, ef, S⟩ := seat_all R (by rw [Array.length_toList]; exact hn) hs.toList 0 _ (Nat.zero_le _) rfl S0
  have ec : SetTable.layClean M hs = some ow := by rw [layClean_eq, ef]; rfl
  have rs := ris_live (fun j => ow.getD j none) (List.range (M + 1)) (by unfold Ris; first | exact List.pairwise_lt_range | exact List.pairwise_lt_range _)
  have r1 : Ris ((liveOf M ow).map (·.1)) := rs.1
  have mem : ∀ {j k : Nat}, (j, k) ∈ liveOf M ow ↔ j ≤ M ∧ oAt ow j = some k := mem_live S.size
  have nd1 : ((liveOf M ow).map (·.1)).Nodup := List.Pairwise.imp (fun h => Nat.ne_of_lt h) r1
  have nd2 : ((liveOf M ow).map (·.2)).Nodup := by
    unfold List.Nodup at nd1 ⊢
    rw [List.pairwise_map] at nd1 ⊢
    refine List.Pairwise.imp_of_mem (fun {a b} ha hb ne z => ne ?_) nd1
    obtain ⟨a1, a2⟩ := a
    obtain ⟨b1, b2⟩ := b
    have z : a2 = b2 := z
    subst z
    have qa := mem.mp ha
    have qb := mem.mp hb
    exact S.once a1 b1 a2 qa.1 qb.1 qa.2 qb.2
  have pm : ((liveOf M ow).map (·.2)).Perm (List.range hs.size) := by
    rw [List.perm_ext_iff_of_nodup nd2 List.nodup_range]
    intro k
    rw [List.mem_range]
    constructor
    · intro z
      obtain ⟨⟨j, k'⟩, hq, rfl⟩ := List.mem_map.mp z
      have q := mem.mp hq
      have := (S.sit j k' q.1 q.2).1
      rw [Array.length_toList] at this
      exact this
    · intro z
      obtain ⟨j, hj, e⟩ := S.each k (by rw [Array.length_toList]; exact z)
      exact List.mem_map.mpr ⟨(j, k), mem.mpr ⟨hj, e⟩, rfl⟩
  refine ⟨tabOf t M ow, ((liveOf M ow).map (·.2)).toArray, by rw [relaid_eq, hw, ec]; rfl, pm, ⟨r1, rfl, ?_, R, fun x hx => ?_, fun q hq => ?_⟩, rfl, rfl, rfl⟩
  · show ((liveOf M ow).map (·.1)).length = (((liveOf M ow).map (·.2)).map _).length
    rw [List.length_map, List.length_map, List.length_map]
  · obtain ⟨⟨j, k⟩, hq, rfl⟩ := List.mem_map.mp (show x ∈ (liveOf M ow).map (·.1) from hx)
    exact (mem.mp hq).1
  · have hq : q ∈ ((liveOf M ow).map (·.1)).zip (((liveOf M ow).map (·.2)).map fun i => hs.getD i 0) := hq
    rw [List.map_map, List.zip_map'] at hq
    obtain ⟨⟨j, k⟩, hm, rfl⟩ := List.mem_map.mp hq
    have q := mem.mp hm
    obtain ⟨_, K, e1, e2⟩ := S.sit j k q.1 q.2
    have eg : hs.toList.getD k 0 = hs.getD k 0 := by
      rw [List.getD_eq_getElem?_getD, Array.getD_eq_getD_getElem?, Array.getElem?_toList]
    rw [eg] at e1 e2
    refine ⟨K, e1, fun d hd => ?_⟩
    show way M (hs.getD k 0) d ∈ (liveOf M ow).map (·.1)
    cases z : oAt ow (way M (hs.getD k 0) d) with
    | none => exact absurd z (e2 d hd)
    | some k2 => exact List.mem_map.mpr ⟨(_, k2), mem.mpr ⟨way_in _ _ _, z⟩, rfl⟩
end J
namespace J
open PySem PySem.Spec L2 PyProof.Rows
/-! sets of int tuples, up to three hundred and five of them -/
structure SetW (P : Program) (w : World) (h : Heap) (a : Addr) (L : List (Addr × List Int)) (es : Array (Int × Value)) (ep : Nat) (t : SetTable) : Prop where
  ob : ∃ o, h.get? a = some o ∧ o.ExactSet ∧ o.data = .set es ep t
  rows : es.toList = L2.rowsOf P w L
  tab : Laid t (L.map fun q => thash P w q.2)
  msk : t.mask = 7 ∨ t.mask = 31 ∨ t.mask = 127 ∨ t.mask = 511
  nd : (L.map (·.2)).Nodup
  tup : ∀ q ∈ L, IsT P w h q.2 q.1
  plain : t.plain = true
  led : w.params.followText "set-order" = true ∨ t.led = true
  room : L.length * 5 < t.mask * 3
section
variable {P : Program} {w : World} {A : Around} {E : Value → Shared → Prop} {s : Shared} {h : Heap} {a : Addr} {L : List (Addr × List Int)} {es : Array (Int × Value)} {ep : Nat} {t : SetTable}
theorem laid_of {hs : List Int} (T : TabOk t hs) : Laid t hs := ⟨T.ris, T.dm, by rw [Array.length_toList]; exact T.sz, round_of T.mok, T.bd, fun q hq => by
  obtain ⟨i, e⟩ := List.mem_iff_getElem?.mp hq
  have z := List.getElem?_zip_eq_some.mp e
  exact T.reach i q.2 q.1 z.2 z.1⟩
theorem SetW.of (R : SetTR P w h a L es ep t) : SetW P w h a L es ep t := ⟨R.ob, R.rows, laid_of R.tab, by have := R.tab.mok; unfold MaskOk at this; omega, R.nd, R.tup, R.plain, R.led, R.room⟩
theorem SetW.size (R : SetW P w h a L es ep t) : es.size = L.length := by
  rw [← Array.length_toList, R.rows]
  exact List.length_map ..
theorem SetW.places (R : SetW P w h a L es ep t) : t.place.size = L.length := by
  have z := R.tab.many
  rwa [List.length_map, Array.length_toList] at z
theorem SetW.fits (R : SetW P w h a L es ep t) : t.fits es.size = true := by
  have a1 := R.places
  have a2 := R.size
  have a3 := R.room
  have e : t.fill = L.length := by
    unfold SetTable.fill
    rw [R.tab.bare, a1]
    rfl
  unfold SetTable.fits
  rw [Bool.and_eq_true]
  exact ⟨by rw [a1, a2]; exact beq_self_eq_true _, decide_eq_true (by rw [e]; omega)⟩
theorem SetW.row (R : SetW P w h a L es ep t) {i : Nat} {q : Addr × List Int} (e : L[i]? = some q) : es[i]? = some (thash P w q.2, Value.ref q.1) := by
  have z : es.toList[i]? = (L[i]?).map fun q => (thash P w q.2, Value.ref q.1) := by
    rw [R.rows]
    exact List.getElem?_map
  rw [Array.getElem?_toList] at z
  rw [z, e]
  rfl
theorem SetW.keep {h' : Heap} (R : SetW P w h a L es ep t) (k : ∀ o, h.get? a = some o → h'.get? a = some o) (kt : ∀ q ∈ L, IsT P w h' q.2 q.1) : SetW P w h' a L es ep t := by
  obtain ⟨o, e, r⟩ := R.ob
  exact ⟨⟨o, k o e, r⟩, R.rows, R.tab, R.msk, R.nd, kt, R.plain, R.led, R.room⟩
/-- where the way stands behind c steps -/
abbrev spot (m : Nat) (H : Int) (c : Nat) : SetTable.Probe := nth m (runAt m (SetTable.bits H % (m + 1)) (SetTable.bits H)) c
theorem spot_plain (m : Nat) (H : Int) : ∀ c, (spot m H c).dummy = none
  | 0 => rfl
  | c + 1 => by
    have ih := spot_plain m H c
    show (nth m _ (c + 1)).dummy = none
    rw [nth_succ]
    unfold adv
    split
    · exact ih
    · exact ih
theorem spot_go (m : Nat) (H : Int) (c d : Nat) : nth m (spot m H c) d = spot m H (c + d) := (nth_add m c _ d).symm
/-- what is met from the c-th step on -/
theorem SetW.meet (R : SetW P w h a L es ep t) {H : Int} {K c : Nat} (hc : c ≤ K) (hf : K < 10 * SetTable.turns t.mask) (hK : way t.mask H K ∉ t.place.toList) (hb : ∀ d, d < K → way t.mask H d ∈ t.place.toList) (ha : Nat → Int) :
    (∃ d i, c ≤ d ∧ d < K ∧ t.place.toList[i]? = some (way t.mask H d) ∧ ha i = H ∧ (∀ d' i', c ≤ d' → d' < d → t.place.toList[i']? = some (way t.mask H d') → ha i' ≠ H) ∧ t.probe ha H (spot t.mask H c) = some (.candidate (way t.mask H d) i (spot t.mask H (d + 1)))) ∨
    ((∀ d' i', c ≤ d' → d' < K → t.place.toList[i']? = some (way t.mask H d') → ha i' ≠ H) ∧ t.probe ha H (spot t.mask H c) = some (.empty (way t.mask H K) none)) := by
  have end_ : c + (K - c) = K := by omega
  have sp := go_spec t R.tab.up R.tab.bare ha H (10 * SetTable.turns t.mask) (K - c) (spot t.mask H c) (spot_plain _ _ _) (by omega)
    (fun d hd => by rw [spot_go]; exact hb _ (by omega)) (by rw [spot_go, end_]; exact hK)
  have back : ∀ {u : Nat}, (∀ d' i', d' < u → t.place.toList[i']? = some (nth t.mask (spot t.mask H c) d').j → ha i' ≠ H) → ∀ d' i', c ≤ d' → d' < c + u → t.place.toList[i']? = some (way t.mask H d') → ha i' ≠ H := by
    intro u z d' i' h1 h2 h3
    refine z (d' - c) i' (by omega) ?_
    rw [spot_go, show c + (d' - c) = d' by omega]
    exact h3
  rcases sp with ⟨d, i, h1, h2, h3, h4, h5⟩ | ⟨h4, h5⟩
  · refine .inl ⟨c + d, i, by omega, by omega, by rw [spot_go] at h2; exact h2, h3, back h4, ?_⟩
    rw [spot_go, spot_go] at h5
    exact h5
  · refine .inr ⟨fun d' i' z1 z2 => back h4 d' i' z1 (by omega), ?_⟩
    rw [spot_go, end_] at h5
    exact h5
theorem SetW.seek (R : SetW P w s.heap a L es ep t) {x : Addr} {k : List Int} (hx : IsT P w s.heap k x) (hu : A.units < cLine) {K : Nat} (hf : K < 10 * SetTable.turns t.mask) (hK : way t.mask (thash P w k) K ∉ t.place.toList) (hb : ∀ d, d < K → way t.mask (thash P w k) d ∈ t.place.toList)
    {Q : SetFound → Shared → Prop} (yes : k ∈ L.map (·.2) → Q (.there none) s) (no : k ∉ L.map (·.2) → Q (.free (way t.mask (thash P w k) K) false) s) :
    ∀ (n c : Nat) (st : Option SetTable.Probe), c ≤ K → K < c + n → st.getD (t.probeStart (thash P w k)) = spot t.mask (thash P w k) c →
      (∀ (i : Nat) (q : Addr × List Int), L[i]? = some q → q.2 = k → ∃ d, c ≤ d ∧ d < K ∧ t.place.toList[i]? = some (way t.mask (thash P w k) d)) →
      wpAny (model P w) A (setSearchFrom a (.ref x) (thash P w k) true n st) Q E s := by
  obtain ⟨o, eo, ex, ed⟩ := R.ob
  intro n
  induction n with
  | zero => intro c st h1 h2; omega
  | succ n ih =>
    intro c st h1 h2 h3 h4
    rw [setSearchFrom_succ]
    refine wpAny_bind (wpAny_setState_of eo ed R.fits ?_)
    dsimp only
    have calm : ¬ t.gaveWay = true := by
      unfold SetTable.gaveWay
      rw [R.tab.rnd.odd]
      decide
    refine wp_if_neg calm ?_
    try refine wpAny_bind (wpAny_pure ?_)
    rw [h3]
    have hashes : ∀ (i : Nat) q, L[i]? = some q → (es[i]?.map (·.1)).getD 0 = thash P w q.2 := fun i q e => by rw [R.row e]; rfl
    rcases R.meet h1 hf hK hb (fun i => (es[i]?.map (·.1)).getD 0) with ⟨d, i, m1, m2, m3, m4, m5, m6⟩ | ⟨m5, m6⟩
    · rw [m6]
      dsimp only
      have il : i < L.length := by
        have z := (List.getElem?_eq_some_iff.mp m3).1
        rw [Array.length_toList, R.places] at z
        exact z
      obtain ⟨q, eq⟩ : ∃ q, L[i]? = some q := ⟨_, List.getElem?_eq_getElem il⟩
      have hq := R.tup q (List.mem_of_getElem? eq)
      have live := slot_live R.tab.up m3
      have tail : wpAny (model P w) A (searchRest a (.ref x) (thash P w k) true n es t (way t.mask (thash P w k) d) i (spot t.mask (thash P w k) (d + 1))) Q E s := by
        unfold searchRest
        rw [R.row eq]
        dsimp only
        refine wpAny_bind (wpAny_holding (wpAny_eqBool_tuple hu hq hx ?_))
        refine wpAny_bind (wpAny_setState_of eo ed R.fits ?_)
        dsimp only
        by_cases same : q.2 = k
        · refine wp_if_pos (by simp [same]) (wpAny_pure (yes ?_))
          exact List.mem_map.mpr ⟨q, List.mem_of_getElem? eq, same⟩
        · refine wp_if_neg (by simp [same]) ?_
          try refine wpAny_bind (wpAny_pure ?_)
          rw [sameMem]
          dsimp only
          simp only [if_true, live, R.row eq]
          refine wpAny_bind (wpAny_isSame_ref_self (wpAny_bind (wpAny_pure ?_)))
          simp only [if_true]
          refine wp_if_neg (by simp [same]) ?_
          refine ih (d + 1) _ (by omega) (by omega) rfl fun i0 q0 e0 k0 => ?_
          obtain ⟨d0, c1, c2, c3⟩ := h4 i0 q0 e0 k0
          refine ⟨d0, ?_, c2, c3⟩
          rcases Nat.lt_trichotomy d0 d with z | z | z
          · exact absurd ((hashes i0 q0 e0).trans (by rw [k0])) (m5 d0 i0 c1 z c3)
          · subst z
            have l2 := slot_live R.tab.up c3
            rw [live] at l2
            injection l2 with l2
            rw [← l2, eq] at e0
            cases e0
            exact absurd k0 same
          · exact z
      cases lc : t.led with
      | true =>
        refine wp_if_neg (by simp) ?_
        try refine wpAny_bind (wpAny_pure ?_)
        exact tail
      | false =>
        refine wp_if_pos (by simp) ?_
        refine wpAny_bind (seen_tup hx (fun y hy => ?_) (wp_if_neg (by decide) ?_))
        · obtain ⟨e, he, rfl⟩ := List.mem_map.mp hy
          have m : e ∈ L2.rowsOf P w L := by
            rw [← R.rows]
            have z := (Array.mem_filter.mp (Array.mem_def.mpr he)).1
            exact Array.mem_def.mp z
          obtain ⟨q2, h5, rfl⟩ := List.mem_map.mp m
          exact ⟨q2.2, q2.1, rfl, R.tup q2 h5⟩
        · try refine wpAny_bind (wpAny_pure ?_)
          exact tail
    · rw [m6]
      dsimp only
      refine wpAny_pure (no fun hm => ?_)
      obtain ⟨q0, e0, k0⟩ := List.mem_map.mp hm
      obtain ⟨i0, hi0, ei0⟩ := List.getElem_of_mem e0
      have e1 : L[i0]? = some q0 := by rw [List.getElem?_eq_getElem hi0, ei0]
      obtain ⟨d0, c1, c2, c3⟩ := h4 i0 q0 e1 k0
      exact m5 d0 i0 c1 c2 c3 ((hashes i0 q0 e1).trans (by rw [k0]))
theorem SetW.search (R : SetW P w s.heap a L es ep t) {x : Addr} {k : List Int} (hx : IsT P w s.heap k x) (hu : A.units < cLine) {Q : SetFound → Shared → Prop} (yes : k ∈ L.map (·.2) → Q (.there none) s)
    (no : ∀ K, k ∉ L.map (·.2) → way t.mask (thash P w k) K ∉ t.place.toList → (∀ d, d < K → way t.mask (thash P w k) d ∈ t.place.toList) → Q (.free (way t.mask (thash P w k) K) false) s) : wpAny (model P w) A (setSearch a (.ref x) (thash P w k) true) Q E s := by
  have rm := R.room
  obtain ⟨K, h1, h2, h3⟩ := R.tab.first (by rw [List.length_map]; omega) (thash P w k)
  have small : K < 100000 := by
    have z : SetTable.turns t.mask ≤ 600 := by
      unfold SetTable.turns
      have := R.tab.rnd.low
      omega
    omega
  unfold setSearch
  refine R.seek hx hu h1 h2 h3 yes (fun z => no K z h2 h3) 100000 0 none (Nat.zero_le _) (by omega) rfl fun i q e ek => ?_
  have il := (List.getElem?_eq_some_iff.mp e).1
  have ip : i < t.place.toList.length := by rw [Array.length_toList, R.places]; exact il
  obtain ⟨d, c1, c2⟩ := R.tab.ahead h2 (i := i) (h := thash P w k) (by rw [List.getElem?_map, e, ← ek]; rfl) (List.getElem?_eq_getElem ip)
  exact ⟨d, Nat.zero_le _, c1, by rw [c2]; exact List.getElem?_eq_getElem ip⟩
theorem size_512 : SetTable.sizeAbove (SetTable.grown 77) = 512 := by decide +kernel
/-- the larger table -/
theorem SetW.wider {o : Obj} (eo : s.heap.get? a = some o) (ex : o.ExactSet) (ed : o.data = .set es ep t) (rows : es.toList = L2.rowsOf P w L) (T : Laid t (L.map fun q => thash P w q.2)) (nd : (L.map (·.2)).Nodup) (tup : ∀ q ∈ L, IsT P w s.heap q.2 q.1) (pl : t.plain = true) (ld : w.params.followText "set-order" = true ∨ t.led = true)
    (room : L.length ≤ t.mask) {wanted M : Nat} (hw : SetTable.sizeAbove wanted - 1 = M) (hM : Round M) (hk : M = 7 ∨ M = 31 ∨ M = 127 ∨ M = 511) (hn : L.length * 5 < M * 3) {Q : Unit → Shared → Prop}
    (hQ : ∀ h' L' es' ep' t', Heap.SameBut a s.heap h' → SetW P w h' a L' es' ep' t' → L'.Perm L → Q () { s with heap := h' }) : wpAny (model P w) A (setRelay a wanted) Q E s := by
  have se : es.size = L.length := by rw [← Array.length_toList, rows]; exact List.length_map ..
  have sp : t.place.size = L.length := by have z := T.many; rwa [List.length_map, Array.length_toList] at z
  have fits : t.fits es.size = true := by
    have e : t.fill = L.length := by unfold SetTable.fill; rw [T.bare, sp]; rfl
    unfold SetTable.fits
    rw [Bool.and_eq_true]
    exact ⟨by rw [sp, se]; exact beq_self_eq_true _, decide_eq_true (by rw [e]; exact room)⟩
  obtain ⟨t', order, e, pm, T', em, el, ep'⟩ := relaid_laid t (hs := es.map (·.1)) hw hM (by rw [Array.size_map, se]; omega)
  rw [Array.size_map, se] at pm
  obtain ⟨L', r1, r2, r3⟩ := order_rows L es order rows pm
  have s2 : (order.filterMap (es[·]?)).size = L.length := by
    rw [← Array.length_toList, r1, ← r2.length_eq]
    exact List.length_map ..
  rw [setRelay_eq]
  refine wpAny_bind (wpAny_setState_of eo ed fits ?_)
  dsimp only
  refine wp_if_neg (by rw [sizeLine_eq]; omega) ?_
  try refine wpAny_bind (wpAny_pure ?_)
  rw [e]
  dsimp only
  refine wpAny_bind ?_
  refine wp_if_neg (by rw [s2, se]; simp) ?_
  try refine wpAny_bind (wpAny_pure ?_)
  refine wpAny_pure ?_
  dsimp only
  refine wpAny_storeSet_of eo ed ?_ (by rw [s2, sizeLine_eq]; omega)
  have sb : Heap.SameBut a s.heap (s.heap.update a (Obj.putSet (order.filterMap (es[·]?)) t')) := Heap.SameBut.update ..
  exact hQ _ L' _ (ep + 1) t' sb ⟨⟨_, L2.store_at eo ed, ⟨ex.1, ex.2.1, ex.2.2⟩, rfl⟩, r1, r3 ▸ T', by rw [em]; exact hk, (r2.map (·.2)).nodup_iff.mpr nd, fun q hq => isT_same (tup q (r2.mem_iff.mp hq)) eo ed sb, by rw [ep']; exact pl, by rw [el]; exact ld, by rw [r2.length_eq, em]; exact hn⟩ r2
/-- one more -/
theorem SetW.add (R : SetW P w s.heap a L es ep t) {x : Addr} {k : List Int} (hx : IsT P w s.heap k x) (hu : A.units < cLine) (few : L.length < 306) {Q : Bool → Shared → Prop}
    (hQ : ∀ b h' L' es' ep' t', Heap.SameBut a s.heap h' → SetW P w h' a L' es' ep' t' → (k ∈ L.map (·.2) → L' = L) → (k ∉ L.map (·.2) → L'.Perm ((x, k) :: L)) → Q b { s with heap := h' }) :
    wpAny (model P w) A (setAddHashed a (.ref x) (thash P w k)) Q E s := by
  obtain ⟨o, eo, ex, ed⟩ := R.ob
  have rm := R.room
  have msk := R.msk
  unfold setAddHashed
  refine wpAny_holding ?_
  rw [show (100000 : Nat) = 99999 + 1 from rfl, setAddHashedIn_succ]
  refine wpAny_bind (wpAny_setState_of eo ed R.fits ?_)
  dsimp only
  refine wp_if_neg (by simp [byScan, Value.scannable]) ?_
  try refine wpAny_bind (wpAny_pure ?_)
  refine wpAny_bind (R.search hx hu (fun hm => ?_) fun K hm h1 h2 => ?_)
  · dsimp only
    exact wpAny_pure (hQ false s.heap L es ep t (Heap.SameBut.refl a _) R (fun _ => rfl) fun z => absurd hm z)
  · dsimp only
    refine wpAny_bind (wpAny_setState_of eo ed R.fits ?_)
    dsimp only
    obtain ⟨p3, p9⟩ := R.tab.put rfl h1 h2
    rw [List.length_map] at p9
    have p4 : (t.put (way t.mask (thash P w k) K)).1.mask = t.mask := rfl
    have p5 : (t.put (way t.mask (thash P w k) K)).1.led = t.led := rfl
    have p6 : (t.put (way t.mask (thash P w k) K)).1.plain = t.plain := rfl
    have p1 : (t.put (way t.mask (thash P w k) K)).2 = SetTable.below t.place (way t.mask (thash P w k) K) := rfl
    have rw' : (SetTable.insertAt es (t.put (way t.mask (thash P w k) K)).2 (thash P w k, Value.ref x)).toList = L2.rowsOf P w (L.take (t.put (way t.mask (thash P w k) K)).2 ++ (x, k) :: L.drop (t.put (way t.mask (thash P w k) K)).2) := by
      rw [SetTable.toList_insertAt, rows_put, R.rows]
    rw [← p1] at p3
    generalize t.put (way t.mask (thash P w k) K) = pt at p1 p3 p4 p5 p6 p9 rw' ⊢
    obtain ⟨t1, p⟩ := pt
    dsimp only at p1 p3 p4 p5 p6 p9 rw' ⊢
    have pl1 : t1.plain = true := p6.trans R.plain
    first
      | (refine wpAny_bind ?_; refine wp_if_pos pl1 ?_; refine hashBy_tup hx ?_)
      | refine wp_if_pos pl1 (wpAny_bind (hashBy_tup hx ?_))
    simp only [if_true]
    have pm := put_perm L p (x, k)
    have e3 : (L.map fun q => thash P w q.2).take p ++ thash P w k :: (L.map fun q => thash P w q.2).drop p = (L.take p ++ (x, k) :: L.drop p).map fun q => thash P w q.2 := by
      rw [List.map_append, List.map_cons, List.map_take, List.map_drop]
    rw [e3] at p3
    generalize L.take p ++ (x, k) :: L.drop p = M at pm p3 rw'
    have len : M.length = L.length + 1 := by rw [pm.length_eq]; rfl
    have len2 : (SetTable.insertAt es p (thash P w k, Value.ref x)).size = L.length + 1 := by
      rw [← Array.length_toList, rw', ← len]
      exact List.length_map ..
    have les : es.size = L.length := R.size
    generalize SetTable.insertAt es p (thash P w k, Value.ref x) = es1 at rw' len2 ⊢
    refine wpAny_bind (wpAny_storeSet_of eo ed ?_ (by rw [len2, sizeLine_eq]; omega))
    have sb : Heap.SameBut a s.heap (s.heap.update a (Obj.putSet es1 t1)) := Heap.SameBut.update ..
    have eo1 := L2.store_at (es' := es1) (t' := t1) eo ed
    generalize s.heap.update a (Obj.putSet es1 t1) = h1 at sb eo1 ⊢
    have nd1 : (M.map (·.2)).Nodup := by
      refine (pm.map (·.2)).nodup_iff.mpr ?_
      rw [List.map_cons]
      exact List.nodup_cons.mpr ⟨hm, R.nd⟩
    have tup1 : ∀ q ∈ M, IsT P w h1 q.2 q.1 := fun q hq => by
      rcases List.mem_cons.mp (pm.mem_iff.mp hq) with e | e
      · rw [e]; exact isT_same hx eo ed sb
      · exact isT_same (R.tup q e) eo ed sb
    have ld1 : w.params.followText "set-order" = true ∨ t1.led = true := by rw [p5]; exact R.led
    by_cases c : (L.length + 1) * 5 < t.mask * 3
    · have notFull : ¬ (!false && t1.tooFull) = true := by
        unfold SetTable.tooFull
        rw [p9, p4]
        simp
        omega
      first
        | refine wp_if_neg notFull ?_
        | (refine wpAny_bind ?_; refine wp_if_neg notFull ?_; refine wpAny_pure ?_)
      exact wpAny_pure (hQ true h1 M es1 (ep + 1) t1 sb ⟨⟨_, eo1, ⟨ex.1, ex.2.1, ex.2.2⟩, rfl⟩, rw', p3, by rw [p4]; exact msk, nd1, tup1, pl1, ld1, by rw [len, p4]; exact c⟩ (fun z => absurd z hm) fun _ => pm)
    · have full : (!false && t1.tooFull) = true := by
        unfold SetTable.tooFull
        rw [p9, p4]
        simp
        omega
      obtain ⟨N, w1, w2, w3, w4⟩ : ∃ N, SetTable.sizeAbove (SetTable.grown (L.length + 1)) - 1 = N ∧ Round N ∧ (N = 7 ∨ N = 31 ∨ N = 127 ∨ N = 511) ∧ (L.length + 1) * 5 < N * 3 := by
        have three : L.length = 4 ∨ L.length = 18 ∨ L.length = 76 := by omega
        rcases three with e | e | e
        · exact ⟨31, by rw [e, size_20], round_of (.inr (.inl rfl)), by omega, by omega⟩
        · exact ⟨127, by rw [e, size_76], round_of (.inr (.inr rfl)), by omega, by omega⟩
        · exact ⟨511, by rw [e, size_512], round511, by omega, by omega⟩
      first
        | (refine wpAny_bind ?_; refine wp_if_pos full ?_)
        | (refine wp_if_pos full ?_; refine wpAny_bind ?_)
      rw [les]
      refine SetW.wider (s := { s with heap := h1 }) eo1 ⟨ex.1, ex.2.1, ex.2.2⟩ rfl rw' p3 nd1 tup1 pl1 ld1 (by rw [len, p4]; omega) w1 w2 w3 (by rw [len]; exact w4) fun h2 L2' es2 ep2 t2 sb2 R2 pm2 => ?_
      exact wpAny_pure (hQ true h2 L2' es2 ep2 t2 (sb.trans sb2) R2 (fun z => absurd z hm) fun _ => pm2.trans pm)
end
/-- the set, without the tuples themselves -/
structure SetW0 (P : Program) (w : World) (h : Heap) (a : Addr) (L : List (Addr × List Int)) : Prop where
  ex : ∃ es ep t, ∀ h', (∀ o, h.get? a = some o → h'.get? a = some o) → (∀ q ∈ L, IsT P w h' q.2 q.1) → SetW P w h' a L es ep t
  ob : ∃ o, h.get? a = some o
def SetWO (P : Program) (w : World) (a : Addr) (L : List (Addr × List Int)) : HO := .ext fun h => SetW0 P w h a L
theorem SetW.t0 {P : Program} {w : World} {h : Heap} {a : Addr} {L : List (Addr × List Int)} {es : Array (Int × Value)} {ep : Nat} {t : SetTable} (R : SetW P w h a L es ep t) : SetW0 P w h a L :=
  ⟨⟨es, ep, t, fun h' k kt => R.keep k kt⟩, R.ob.imp fun o e => e.1⟩
theorem SetW0.full {P : Program} {w : World} {h : Heap} {a : Addr} {L : List (Addr × List Int)} (R : SetW0 P w h a L) (kt : ∀ q ∈ L, IsT P w h q.2 q.1) : ∃ es ep t, SetW P w h a L es ep t := by
  obtain ⟨es, ep, t, f⟩ := R.ex
  exact ⟨es, ep, t, f h (fun _ e => e) kt⟩
theorem setWO_new {P : Program} {w : World} {H : Hp} {h : Heap} {a : Addr} {L : List (Addr × List Int)} (R : SetW0 P w h a L) : ObjOk P w H h a (SetWO P w a L) := by
  refine ⟨R, R.ob, fun h1 h2 p k => ?_⟩
  have p : SetW0 P w h1 a L := p
  obtain ⟨es, ep, t, f⟩ := p.ex
  obtain ⟨o, eo⟩ := p.ob
  exact ⟨⟨es, ep, t, fun h' k' kt => f h' (fun o e => k' o (k o e)) kt⟩, o, k o eo⟩
end J
namespace J
open PySem PySem.Spec L2 PyProof.Rows
/-! set(xs) of tuples, sorted(..): few of them are unlike -/
theorem few_of {D M : List (List Int)} (hM : M.Nodup) (hs : ∀ x ∈ M, x ∈ D) : M.length ≤ D.length := by
  induction M generalizing D with
  | nil => exact Nat.zero_le _
  | cons x xs ih =>
    have hx : x ∈ D := hs x List.mem_cons_self
    rw [List.nodup_cons] at hM
    have q := ih (D := D.erase x) hM.2 fun y hy => (List.mem_erase_of_ne (fun (e : y = x) => hM.1 (e ▸ hy))).mpr (hs y (List.mem_cons_of_mem _ hy))
    rw [List.length_erase_of_mem hx] at q
    have : 0 < D.length := List.length_pos_of_mem hx
    rw [List.length_cons]; omega
/-- what the set holds behind the first i items -/
structure Held (ks : List (Addr × List Int)) (i : Nat) (L : List (Addr × List Int)) : Prop where
  sub : ∀ q ∈ L, q ∈ ks.take i
  all : ∀ q ∈ ks.take i, q.2 ∈ L.map (·.2)
theorem Held.next {ks L L' : List (Addr × List Int)} {i : Nat} {x : Addr × List Int} (g : Held ks i L) (h : ks[i]? = some x) (c1 : x.2 ∈ L.map (·.2) → L' = L) (c2 : x.2 ∉ L.map (·.2) → L'.Perm (x :: L)) : Held ks (i + 1) L' := by
  have et : ks.take (i + 1) = ks.take i ++ [x] := by rw [List.take_add_one, h]; rfl
  by_cases m : x.2 ∈ L.map (·.2)
  · rw [c1 m]
    constructor
    · intro q hq; rw [et]; exact List.mem_append_left _ (g.sub q hq)
    · intro q hq
      rw [et] at hq
      rcases List.mem_append.mp hq with z | z
      · exact g.all q z
      · rw [List.mem_singleton] at z; rw [z]; exact m
  · have pm := c2 m
    constructor
    · intro q hq
      rw [et]
      rcases List.mem_cons.mp (pm.mem_iff.mp hq) with z | z
      · exact List.mem_append_right _ (by rw [z]; exact List.mem_singleton.mpr rfl)
      · exact List.mem_append_left _ (g.sub q z)
    · intro q hq
      rw [(pm.map (·.2)).mem_iff, List.map_cons]
      rw [et] at hq
      rcases List.mem_append.mp hq with z | z
      · exact List.mem_cons_of_mem _ (g.all q z)
      · rw [List.mem_singleton] at z; rw [z]; exact List.mem_cons_self
section
variable {P : Program} {w : World} {A : Around} {E : Value → Shared → Prop} {s : Shared}
theorem upd_loop {It : Addr} {fp wr : List Addr} {G : Array GenState → Array GenState → Prop} {n : Nat} {Pv : Nat → Value → Prop} {St : Nat → Shared → Prop} {R : Result → Shared → Prop} (Wk : WalksS P w A.in1 It fp wr G n Pv St) (S : Addr) (hSf : S ∉ fp) (ks : List (Addr × List Int)) (hn : n = ks.length)
    (Dk : List (List Int)) (hDk : ∀ q ∈ ks, q.2 ∈ Dk) (hfew : Dk.length < 306) (hval : ∀ i v, Pv i v → ∃ q, ks[i]? = some q ∧ v = .ref q.1) (h0 : Heap) (hk : ∀ q ∈ ks, IsT P w h0 q.2 q.1) (nS : h0.get? S = none) (nw : ∀ b ∈ wr, h0.get? b = none) (hu : A.in1.units < cLine) :
    ∀ (k i : Nat) (s : Shared), n - i = k → i ≤ n → St i s → (∀ b o, h0.get? b = some o → s.heap.get? b = some o) → (∃ L es ep t, SetW P w s.heap S L es ep t ∧ Held ks i L) →
      (∀ s' L es ep t, Moved (S :: wr) G s s' → SetW P w s'.heap S L es ep t → Held ks n L → (∀ b o, h0.get? b = some o → s'.heap.get? b = some o) → R (.ok (.ret .none)) s') →
      codeAny (model P w) A (.builtin "set.update.loop" ⟨[.ref S, .ref It], []⟩) R s := by
  have nSw : S ∉ wr := fun z => hSf (Wk.sub _ z)
  have incl : ∀ b ∈ wr, b ∈ S :: wr := fun b z => List.mem_cons_of_mem _ z
  have kept : ∀ {s s' : Shared}, Moved wr G s s' → (∀ b o, h0.get? b = some o → s.heap.get? b = some o) → ∀ b o, h0.get? b = some o → s'.heap.get? b = some o := by
    intro s s' mv kp b o e
    refine mv.heap b o (fun z => ?_) (kp b o e)
    rw [nw b z] at e; cases e
  intro k
  induction k with
  | zero =>
    rintro i s ek hi hst kp ⟨L, es, ep, t, hS, g⟩ fin
    obtain rfl : i = n := by omega
    apply codeAny_builtin F.entry_set_update_loop
    rw [Around.under_plainId F.plain_set_update_loop _]
    show wpAny _ A.in1 (pyNext (.ref It) >>= _) _ _ s
    refine wpAny_bind (Wk.done s _ _ hst fun s1 mv => ?_)
    show wpAny _ A.in1 (ret Value.none) _ _ s1
    have kp1 := kept mv kp
    refine wpAny_pure (fin s1 L es ep t (mv.mono incl) (hS.keep (fun o e => mv.heap S o nSw e) fun q hq => ?_) g kp1)
    exact isT_keep (hk q (List.mem_of_mem_take (g.sub q hq))) kp1
  | succ k ih =>
    rintro i s ek hi hst kp ⟨L, es, ep, t, hS, g⟩ fin
    have hlt : i < n := by omega
    apply codeAny_builtin F.entry_set_update_loop
    rw [Around.under_plainId F.plain_set_update_loop _]
    show wpAny _ A.in1 (pyNext (.ref It) >>= _) _ _ s
    refine wpAny_bind (Wk.item i s _ _ hlt hst fun v s1 pv hst1 mv => ?_)
    obtain ⟨q, hq, rfl⟩ := hval i v pv
    have kp1 := kept mv kp
    have inks : ∀ r ∈ L, r ∈ ks := fun r hr => List.mem_of_mem_take (g.sub r hr)
    have hS1 : SetW P w s1.heap S L es ep t := hS.keep (fun o e => mv.heap S o nSw e) fun r hr => isT_keep (hk r (inks r hr)) kp1
    have hx : IsT P w s1.heap q.2 q.1 := isT_keep (hk q (List.mem_of_getElem? hq)) kp1
    have le : L.length ≤ Dk.length := by
      have z := few_of (D := Dk) hS.nd fun x hx => by
        obtain ⟨r, hr, e⟩ := List.mem_map.mp hx
        rw [← e]; exact hDk r (inks r hr)
      rw [List.length_map] at z; exact z
    show wpAny _ A.in1 (holding [Value.ref q.1] (setAdd S (.ref q.1)) >>= _) _ _ s1
    apply wpAny_bind
    apply wpAny_holding
    unfold setAdd
    apply wpAny_holding
    apply wpAny_bind
    refine wpAny_pyHash_tuple hu hx (SetW.add (s := { s1 with toks := s1.toks + (q.2.length + 1) }) hS1 hx hu (by omega) fun b h' L' es' ep' t' sb hS2 c1 c2 => ?_)
    have g' : Held ks (i + 1) L' := g.next hq c1 c2
    have kp2 : ∀ b o, h0.get? b = some o → h'.get? b = some o := by
      intro b o e
      refine (sb.2 b fun z => ?_).trans (kp1 b o e)
      rw [z, nS] at e; cases e
    refine wpAny_pure ⟨plainId_quiet F.plain_set_update_loop _, ih (i + 1) _ (by omega) hlt (Wk.frame _ s1 _ _ hst1 (Nat.le_add_right _ _) fun b hb o e => ?_) kp2 ⟨L', es', ep', t', hS2, g'⟩ fun s2 L2 es2 ep2 t2 mv2 hS3 g3 kp3 => ?_⟩
    · have nb : b ≠ S := fun z => hSf (z ▸ hb)
      exact (sb.2 b nb).trans e
    · refine fin s2 L2 es2 ep2 t2 (Moved.trans Wk.gtrans ((mv.mono incl).then_heap (Nat.le_add_right _ _) fun b o hb e => ?_) mv2) hS3 g3 kp3
      have nb : b ≠ S := fun z => hb (z ▸ List.mem_cons_self)
      exact (sb.2 b nb).trans e
set_option maxHeartbeats 3200000 in
theorem set_call {l : Addr} {items : Array Value} (ks : List (Addr × List Int)) {Q : Value → Shared → Prop} (hh : A.handled = none) (hl : s.heap.IsList l items) (hit : items.toList = ks.map fun q => Value.ref q.1) (hk : ∀ q ∈ ks, IsT P w s.heap q.2 q.1) (Dk : List (List Int)) (hDk : ∀ q ∈ ks, q.2 ∈ Dk) (hfew : Dk.length < 306) (hu : A.units + 3 < cLine)
    (fin : ∀ (h' : Heap) (tk : Nat) L es ep t, SetW P w h' s.heap.objs.size L es ep t → Held ks ks.length L → (∀ b o, s.heap.get? b = some o → h'.get? b = some o) → Q (.ref s.heap.objs.size) { s with heap := h', toks := tk }) :
    wpAny (model P w) A (call (.type "set") [.ref l]) Q E s := by
  have lens : items.size = ks.length := by
    rw [← Array.length_toList, hit, List.length_map]
  generalize eN : ({ cls := .type "set", dict := none, data := .set #[] 0 (.fresh 0 0 (!w.params.followText "set-order")) } : Obj) = oN
  obtain ⟨c, tl, hmro⟩ := F.called_set.mro
  have hmade := F.called_set.made
  have hsub := F.called_set.sub
  apply wpAny_call
  apply codeAny_of_tree
  show wpAny _ _ (callAny (.type "set") _) _ _ _
  refine wpAny_pure ⟨Code.quiet_builtin _ (by decide +kernel), codeAny_builtin F.entry_type_call ?_⟩
  rw [Around.under_plain (weight_type_call_type "set" [.ref l] []) rfl]
  have k1 := F.called_set.notType
  have k2 := F.called_set.canCreate
  have k3 := F.typeCall_set_1 (.ref l)
  repeat (any_goals (first | assumption | wp_step))
  have made := code_set_led1 (P := P) (w := w) (s := s) (A := A.in1) (.ref l) (E := E) (Q₁ := fun obj s₁ => obj = .ref s.heap.objs.size ∧ s₁ = { s with heap := s.heap.push oN }) (by rw [eN]; exact ⟨rfl, rfl⟩)
  refine codeAny_mono made fun r s₁ hr => ?_
  have nw : ∀ b, s.heap.objs.size ≤ b → s.heap.get? b = none := by
    intro b hb
    cases e : s.heap.get? b with
    | none => rfl
    | some o => exact absurd (Heap.lt_size e) (Nat.not_lt.mpr hb)
  have hN : (s.heap.push oN).get? s.heap.objs.size = some oN := by rw [← eN]; exact Heap.get?_push_size _ rfl
  match r, hr with
  | .error e, hr => exact hr
  | .ok (.ret obj), hr =>
    obtain ⟨rfl, rfl⟩ := hr
    have hT : Shared.TypeIs { s with heap := s.heap.push oN } (.ref s.heap.objs.size) "set" := ⟨_, hN, by rw [← eN]⟩
    have k4 := F.called_set.init.lookup
    have k5 := F.called_set.init.bind (.ref s.heap.objs.size)
    repeat (any_goals (first | assumption | wp_step))
    refine codeAny_mono (codeAny_call_builtin (R := wants (fun r s₂ => r = .none ∧ ∃ h' tk L es ep t, s₂ = { s with heap := h', toks := tk } ∧ SetW P w h' s.heap.objs.size L es ep t ∧ Held ks ks.length L ∧ ∀ b o, s.heap.get? b = some o → h'.get? b = some o) E) F.called_set.init.plain F.entry_set_init (check_set_init_1 hT ?_)) fun r₂ s₂ hr₂ => ?_
    · subst eN
      obtain ⟨⟨ocls, odict, odata, oslots⟩, hol, hcl, nl, hdl⟩ := hl
      simp only at hcl hdl
      subst hcl hdl
      have hol' : (s.heap.push { cls := .type "set", dict := none, data := .set #[] 0 (.fresh 0 0 (!w.params.followText "set-order")) }).get? l = _ := Heap.get?_push_of_some _ hol
      have j1 := F.sub_list_set
      have j2 := F.sub_list_frozenset
      have j3 : (Value.type "list" == Value.type "dict") = false := by decide
      have hl1 : Heap.IsList (s.heap.push { cls := .type "set", dict := none, data := .set #[] 0 (.fresh 0 0 (!w.params.followText "set-order")) }) l items := ⟨_, hol', rfl, nl, rfl⟩
      unfold Builtin.«set.__init__» noKeywords Builtin.Frozenset.updateFrom
      generalize hPI : pyIter = PI
      wp_walk
      subst hPI
      apply wpAny_pyIter_list hl1
      apply wpAny_bind
      apply wpAny_runValue
      have lS : l < s.heap.objs.size := Heap.lt_size hol
      have sz : ∀ o : Obj, (s.heap.push o).objs.size = s.heap.objs.size + 1 := fun o => Heap.size_push ..
      have ne1 : ∀ o : Obj, l ≠ (s.heap.push o).objs.size := fun o => by rw [sz]; exact Nat.ne_of_lt (Nat.lt_succ_of_lt lS)
      have ne2 : ∀ o : Obj, s.heap.objs.size ∉ [(s.heap.push o).objs.size, l] := by
        intro o z
        rw [sz] at z
        rcases List.mem_cons.mp z with z | z
        · exact absurd z (Nat.ne_of_lt (Nat.lt_succ_self _))
        · exact absurd (List.mem_singleton.mp z) (Nat.ne_of_gt lS)
      have vals : ∀ (i : Nat) (v : Value), items[i]? = some v → ∃ q, ks[i]? = some q ∧ v = .ref q.1 := by
        intro i v hv
        rw [← Array.getElem?_toList, hit, List.getElem?_map] at hv
        obtain ⟨q, e1, e2⟩ := Option.map_eq_some_iff.mp hv
        exact ⟨q, e1, e2.symm⟩
      refine upd_loop ((Walks.list (by simp [hh]) _ l (ne1 _) items).toS) s.heap.objs.size (ne2 _) ks lens Dk hDk hfew vals s.heap hk (nw _ (Nat.le_refl _)) (fun b hb => nw b (by rw [List.mem_singleton.mp hb, sz]; exact Nat.le_succ _)) hu (items.size - 0) 0 _ (by omega) (Nat.zero_le _)
        ⟨⟨_, Heap.get?_push_size _ rfl, rfl, rfl⟩, (hl1.push _)⟩ (fun b o e => Heap.get?_push_of_some _ (Heap.get?_push_of_some _ e)) ⟨[], #[], 0, _, .of (setTR_fresh (Heap.get?_push_of_some _ hN)), ⟨fun q z => (by cases z), fun q z => (by simp at z)⟩⟩ ?_
      rintro ⟨h', g2, d', tk', os'⟩ L es ep t mv hS' g' kp
      have eg : g2 = s.gens := mv.gens
      have ed : d' = s.drawn := mv.drawn
      have eo : os' = s.os := mv.os
      subst eg ed eo
      apply wpAny_pure
      show wpAny _ _ (ret Value.none) _ _ _
      rw [lens] at g'
      exact wpAny_pure ⟨rfl, h', tk', L, es, ep, t, rfl, hS', g', kp⟩
    · match r₂, hr₂ with
      | .error e, hr₂ => exact hr₂
      | .ok (.ret u), hr₂ =>
        obtain ⟨rfl, h', tk, L, es, ep, t, rfl, hS', g', kp⟩ := hr₂
        repeat (any_goals (first | assumption | wp_step))
        exact fin _ _ _ _ _ _ hS' g' kp
      | .ok .next, hr₂ => exact hr₂.elim
      | .ok .brk, hr₂ => exact hr₂.elim
      | .ok .cont, hr₂ => exact hr₂.elim
  | .ok .next, hr => exact hr.elim
  | .ok .brk, hr => exact hr.elim
  | .ok .cont, hr => exact hr.elim
end
end J
namespace J
open PySem PySem.Spec PySem.W L2 PyProof.Rows
section
variable {P : Program} {w : World} {A : Around} {E : Value → Shared → Prop} {s : Shared}
/-- sorted(v): from what is collected -/
theorem sorted_any {β : Type} {v : Value} {enc : β → PyData} {R : Value → β → Prop} {Q : Value → Shared → Prop}
    (hcol : wpAny (model P w) A.in1 (collect v) (fun vs s1 => ∃ bs : List β, EachIs R vs bs ∧ EachIs (fun v b => Reads s1.heap v (enc b) []) vs bs ∧ AllAlike (bs.map enc) ∧ Sortable (bs.map enc) ∧ bs.length ≤ sizeLine ∧ (∀ b ∈ bs, A.in1.units + 1 + (enc b).depth < cLine) ∧
      ∀ (out : List Value) (h' : Heap) (n : Nat), EachIs R out (bs.mergeSort (dataLe false enc)) → (∀ b o, s1.heap.get? b = some o → h'.get? b = some o) → h'.get? s1.heap.objs.size = some (seqObj "list" out.toArray n) → Q (.ref s1.heap.objs.size) { s1 with heap := h' }) E s) :
    wpAny (model P w) A (call (.builtin "sorted") [v]) Q E s := by
  apply Calls.call_function_entry kind_sorted plain_sorted entry_sorted (args_sorted1 _)
  unfold Builtin.«sorted»
  refine wpAny_bind (m := checkCount "sorted" 1 1 _) (wpAny_pure (wpAny_bind (wpAny_mono hcol (fun vs s1 z => ?_) fun _ _ z => z)))
  obtain ⟨bs, e, er, hal, hk, hL, hu, fin⟩ := z
  have hlv : vs.length ≤ sizeLine := by rw [e.length]; exact hL
  refine wpAny_bind (wpAny_newList ?_ hlv)
  have hoL : (s1.heap.push (seqObj "list" vs.toArray 0)).get? s1.heap.objs.size = some (seqObj "list" vs.toArray 0) := Heap.get?_push_size _ rfl
  refine wpAny_bind (wpAny_holding (list_sort_data (s := { s1 with heap := s1.heap.push (seqObj "list" vs.toArray 0) }) (R := R) (enc := enc) hoL e (er.mono fun v b r => ⟨[], PyProof.Rows.Reads.keeps (fun b o q => Heap.get?_push_of_some _ q) r, List.not_mem_nil⟩) hal hk hL hu fun out hl ho => ?_))
  obtain ⟨n, hn⟩ := sortedHeap_at (vs := vs) (out := out.toArray) hoL
  refine wpAny_pure ⟨_, rfl, fin out _ n ho (fun b o q => ?_) hn⟩
  have lt := Heap.lt_size q
  rw [sortedHeap_old (Nat.ne_of_lt lt) (by rw [size_push']; exact Nat.lt_succ_of_lt lt)]
  exact Heap.get?_push_of_some _ q
end
/-! the order of ints, and of tuples of ints -/
def intL : List VV → Option (List Int)
  | [] => some []
  | .int i :: xs => (intL xs).map fun r => i :: r
  | _ => none
def intsV : VV → Option (List Int)
  | .tup xs => intL xs
  | _ => none
def encV : VV → PyData
  | .int i => .int i
  | v => .tuple (((intsV v).getD []).map .int)
def isI : VV → Bool
  | .int _ => true
  | _ => false
def isT1 (v : VV) : Bool := match intsV v with
  | some (_ :: _) => true
  | _ => false
def okS (xs : List VV) : Bool := xs.all isI || xs.all isT1
def leS : VV → VV → Bool := dataLe false encV
def srt (xs : List VV) : Option VV := if okS xs = true then some (.lst (xs.mergeSort leS)) else none
def cSorted : OpN := fun h vs => match vs with
  | [.tup xs] => srt xs
  | [v] => (lstOf h v).bind srt
  | _ => none
theorem intL_vals {c : Ct} {z : Addr → Prop} {H : Hp} : ∀ {xs : List VV} {us : List V} {k : List Int}, RVs c z H xs us → intL xs = some k → us = k.map V.int
  | [], us, k, r, e => by
    cases e
    rw [RVs] at r
    rw [r]; rfl
  | x :: xs, us, k, r, e => by
    rw [RVs] at r
    obtain ⟨u, q, rfl, a, b⟩ := r
    cases x with
    | int i =>
      unfold intL at e
      obtain ⟨l, e3, e4⟩ := Option.map_eq_some_iff.mp e
      subst e4
      rw [intL_vals b e3, List.map_cons]
      rw [RV] at a
      rw [a]
    | _ => cases e
theorem reads_ints {h : Heap} : ∀ {k : List Int} {its : List Value}, Vals (k.map V.int) its → ReadsAll h its (k.map .int) []
  | [], _, r => by cases r; exact .nil
  | i :: k, _, r => by
    cases r with
    | cons a b =>
      obtain ⟨t, rfl⟩ := a
      exact ReadsAll.cons (as := []) (bs := []) (.int i t) (reads_ints b)
section
variable {X : Cx}
theorem reads_of {pins : List (Addr × Obj)} {σ : L2.St} {H : Hp} {s : Shared} {g : Gh} {v : VV} {u : V} {r : Value} (I : L2.Inv X pins σ H s) (h' : Heap) (hk : ∀ b o, s.heap.get? b = some o → h'.get? b = some o) (rv : RV (ct X) g.fz H v u) (ru : RelV u r) (ok : isI v = true ∨ isT1 v = true) : Reads h' r (encV v) [] := by
  cases v with
  | int i =>
    rw [RV] at rv
    subst rv
    obtain ⟨t, rfl⟩ := (show ∃ t, r = Value.int i t from ru)
    exact .int i t
  | tup xs =>
    have hi : isT1 (.tup xs) = true := by
      rcases ok with ok | ok
      · cases ok
      · exact ok
    have hi : (match intL xs with
      | some (_ :: _) => true
      | _ => false) = true := hi
    cases e : intL xs with
    | none => rw [e] at hi; cases hi
    | some k =>
      rw [RV] at rv
      obtain ⟨p, us, rfl, ta, rs⟩ := rv
      obtain rfl : r = Value.ref p := ru
      have eu := intL_vals rs e
      obtain ⟨its, rvs, ⟨o, ho, hc, n, hd⟩, _⟩ := I.tuple (X := X) ta.sq
      rw [eu] at rvs
      have ee : encV (.tup xs) = .tuple (k.map .int) := by
        show PyData.tuple (((intL xs).getD []).map .int) = _
        rw [e]; rfl
      rw [ee]
      exact .tuple (hk _ _ ho) hc hd (reads_ints (by simpa using rvs))
  | _ =>
    rcases ok with ok | ok <;> cases ok
theorem alikeS {xs : List VV} (ok : okS xs = true) : AllAlike (xs.map encV) ∧ Sortable (xs.map encV) ∧ (∀ x ∈ xs, isI x = true ∨ isT1 x = true) ∧ ∀ x ∈ xs, (encV x).depth ≤ 1 := by
  unfold okS at ok
  rcases Bool.or_eq_true _ _ ▸ ok with ok | ok
  · rw [List.all_eq_true] at ok
    have sh : ∀ x ∈ xs, ∃ i, x = .int i := fun x hx => by
      have q := ok x hx
      cases x with
      | int i => exact ⟨i, rfl⟩
      | _ => cases q
    refine ⟨fun d hd d' hd' => ?_, .inr fun d hd => ?_, fun x hx => .inl (ok x hx), fun x hx => ?_⟩
    · obtain ⟨x, hx, rfl⟩ := List.mem_map.mp hd
      obtain ⟨y, hy, rfl⟩ := List.mem_map.mp hd'
      obtain ⟨i, rfl⟩ := sh x hx
      obtain ⟨j, rfl⟩ := sh y hy
      rfl
    · obtain ⟨x, hx, rfl⟩ := List.mem_map.mp hd
      obtain ⟨i, rfl⟩ := sh x hx
      exact ⟨(fun z => nomatch z), (fun ys z => nomatch z)⟩
    · obtain ⟨i, rfl⟩ := sh x hx
      show PyData.depth (.int i) ≤ 1
      simp [PyData.depth]
  · rw [List.all_eq_true] at ok
    have sh : ∀ x ∈ xs, ∃ i k, encV x = .tuple ((i :: k).map .int) := fun x hx => by
      have q := ok x hx
      unfold isT1 at q
      cases e : intsV x with
      | none => rw [e] at q; cases q
      | some k =>
        rw [e] at q
        cases k with
        | nil => cases q
        | cons i k =>
          refine ⟨i, k, ?_⟩
          cases x with
          | tup ys =>
            show PyData.tuple (((intsV (.tup ys)).getD []).map .int) = _
            rw [e]; rfl
          | _ => cases e
    refine ⟨fun d hd d' hd' => ?_, .inl fun d hd => ?_, fun x hx => .inr (ok x hx), fun x hx => ?_⟩
    · obtain ⟨x, hx, rfl⟩ := List.mem_map.mp hd
      obtain ⟨y, hy, rfl⟩ := List.mem_map.mp hd'
      obtain ⟨i, k, e1⟩ := sh x hx
      obtain ⟨j, l, e2⟩ := sh y hy
      rw [e1, e2]
      show alikeAll _ _ = true
      exact alike_ints _ _
    · obtain ⟨x, hx, rfl⟩ := List.mem_map.mp hd
      obtain ⟨i, k, e1⟩ := sh x hx
      exact ⟨.int i, k.map .int, e1⟩
    · obtain ⟨i, k, e1⟩ := sh x hx
      rw [e1]
      simp only [PyData.depth, depth_ints]
      decide
end
end J
namespace J
open PySem PySem.W L2
theorem each_zip {c : Ct} {z : Addr → Prop} {H : Hp} {T : Value → VV × V → Prop} : ∀ {ys : List VV} {ws : List V} {its : List Value}, RVs c z H ys ws → Vals ws its → (∀ y ∈ ys, ∀ w r, RV c z H y w → RelV w r → T r (y, w)) → EachIs T its (ys.zip ws)
  | [], ws, its, r, v, _ => by
    rw [RVs] at r
    subst r
    cases v
    exact .nil
  | y :: ys, ws, its, r, v, h => by
    rw [RVs] at r
    obtain ⟨w, q, rfl, a, b⟩ := r
    cases v with
    | cons v1 v2 => exact .cons (h y List.mem_cons_self w _ a v1) (each_zip b v2 fun y hy => h y (List.mem_cons_of_mem _ hy))
theorem zip_mem {c : Ct} {z : Addr → Prop} {H : Hp} : ∀ {ys : List VV} {ws : List V}, RVs c z H ys ws → ∀ p ∈ ys.zip ws, RV c z H p.1 p.2
  | [], ws, r, p, hp => by simp at hp
  | y :: ys, ws, r, p, hp => by
    rw [RVs] at r
    obtain ⟨w, q, rfl, a, b⟩ := r
    rcases List.mem_cons.mp hp with e | hp
    · rw [e]; exact a
    · exact zip_mem b p hp
theorem rvs_pairs {c : Ct} {z : Addr → Prop} {H : Hp} : ∀ {L : List (VV × V)}, (∀ p ∈ L, RV c z H p.1 p.2) → RVs c z H (L.map (·.1)) (L.map (·.2))
  | [], _ => RVs.nil
  | p :: L, h => RVs.cons (h p List.mem_cons_self) (rvs_pairs fun q hq => h q (List.mem_cons_of_mem _ hq))
theorem vals_pairs : ∀ {L : List (VV × V)} {out : List Value}, EachIs (fun r p => RelV p.2 r) out L → Vals (L.map (·.2)) out
  | [], _, .nil => .nil
  | p :: L, _, .cons a b => .cons a (vals_pairs b)
section
variable {X : Cx}
theorem fst_zip {ys : List VV} {ws : List V} (hl : ys.length = ws.length) : (ys.zip ws).map (·.1) = ys := by
  rw [List.map_fst_zip]; omega
theorem sort_map {ys : List VV} {ws : List V} (hl : ys.length = ws.length) : ((ys.zip ws).mergeSort (dataLe false fun p => encV p.1)).map (·.1) = ys.mergeSort leS := by
  have q := List.map_mergeSort (r := dataLe false fun p : VV × V => encV p.1) (s := leS) (f := fun p : VV × V => p.1) (l := ys.zip ws) (fun a _ b _ => rfl)
  rw [q, fst_zip hl]
theorem sort_fin {pins : List (Addr × Obj)} {σ : St} {H : Hp} {s : Shared} {g : Gh} {h : VH} {ys : List VV} {ws : List V} {Q : VK} {h1 h' : Heap} {out : List Value} {n : Nat} (I : Inv X pins σ H { s with heap := h1 }) (rh : RH (ct X) g h H) (rvs : RVs (ct X) g.fz H ys ws) (hz : ys.length ≤ sizeLine)
    (kk : ∀ p us, H p = none → RVs (ct X) g.fz H (ys.mergeSort leS) us → Q (.ref p) (upd H p (.lst us)))
    (ho : EachIs (fun r p => RelV p.2 r) out ((ys.zip ws).mergeSort (dataLe false fun p => encV p.1))) (kp : ∀ b o, h1.get? b = some o → h'.get? b = some o) (hn : h'.get? h1.objs.size = some (PyProof.Rows.seqObj "list" out.toArray n)) : EP X pins σ Q (.ref h1.objs.size) { s with heap := h' } := by
  generalize eL : (ys.zip ws).mergeSort (dataLe false fun p => encV p.1) = L at ho
  have hl := rvs.len
  have eys : L.map (·.1) = ys.mergeSort leS := by rw [← eL]; exact sort_map hl
  have hin : ∀ p ∈ L, RV (ct X) g.fz H p.1 p.2 := fun p hp => zip_mem rvs p (by rw [← eL] at hp; exact List.mem_mergeSort.mp hp)
  have va := vals_pairs ho
  have fr : H h1.objs.size = none := I.hok.fresh (Nat.le_refl _)
  have lenL : (L.map (·.2)).length ≤ sizeLine := by
    rw [List.length_map, ← List.length_map (f := fun p : VV × V => p.1), eys, List.length_mergeSort]; exact hz
  have I2 : Inv X pins σ (upd H h1.objs.size (.lst (L.map (·.2)))) { s with heap := h' } := I.laid (t' := s.toks) kp (Nat.le_refl _) ⟨lenL, out, n, va, hn⟩
  have rv := rvs_pairs hin
  rw [eys] at rv
  exact ⟨.ref h1.objs.size, _, I2, rfl, kk _ _ fr rv⟩
theorem sort_core {pins : List (Addr × Obj)} {σ : St} {H : Hp} {s : Shared} {g : Gh} {h : VH} {ys : List VV} {ws : List V} {its : List Value} {Q : VK} {p : Addr} {o : Obj} {n : Nat} {T : String} (hu : X.A.units + 64 < cLine) (I : Inv X pins σ H s) (rh : RH (ct X) g h H) (rvs : RVs (ct X) g.fz H ys ws) (va : Vals ws its)
    (hT : T = "list" ∨ T = "tuple") (ho : s.heap.get? p = some o) (hc : o.cls = .type T) (hd : o.data = .seq its.toArray n) (hz : ys.length ≤ sizeLine) (ok : okS ys = true)
    (kk : ∀ p us, H p = none → RVs (ct X) g.fz H (ys.mergeSort leS) us → Q (.ref p) (upd H p (.lst us))) : wpAny (model X.prog X.w) X.A (call (.builtin "sorted") [.ref p]) (EP X pins σ Q) X.xe s := by
  obtain ⟨q1, q2, q3, q4⟩ := alikeS ok
  have hl := rvs.len
  have lits : its.toArray.size ≤ sizeLine := by
    rw [List.size_toArray, ← va.length, ← hl]; exact hz
  refine sorted_any (enc := fun p : VV × V => encV p.1) (R := fun r p => RelV p.2 r) (wpAny_collect_seq p hT ho hc hd (fun h1 kp => ?_) lits)
  have I1 : Inv X pins σ H { s with heap := h1 } := I.kept (t' := s.toks) kp
  have em : (ys.zip ws).map (fun p => encV p.1) = ys.map encV := by
    have : (ys.zip ws).map (fun p => encV p.1) = ((ys.zip ws).map (·.1)).map encV := by rw [List.map_map]; rfl
    rw [this, fst_zip hl]
  refine ⟨ys.zip ws, ?_, ?_, by rw [em]; exact q1, by rw [em]; exact q2, ?_, fun b hb => ?_, fun out h' n a1 a2 a3 => sort_fin I1 rh rvs hz kk a1 a2 a3⟩
  · exact each_zip rvs va fun y hy w r _ q => q
  · exact each_zip rvs va fun y hy w r a q => reads_of I h1 kp a q (q3 y hy)
  · rw [List.length_zip]; omega
  · have : b.1 ∈ ys := (List.of_mem_zip hb).1
    have d := q4 b.1 this
    show X.A.units + 1 + 1 + _ < _
    omega
theorem cr_sortedJ (hu : X.A.units + 64 < cLine) : CallR X (.builtin "sorted") (RdN (ct X) cSorted) := by
  intro pins s σ H xs us Q I r h
  obtain ⟨g, hh, vs, rr, rh, rv, e, kk⟩ := h
  have srt_of : ∀ {ys : List VV} {v : VV}, srt ys = some v → okS ys = true ∧ v = .lst (ys.mergeSort leS) := by
    intro ys v e
    unfold srt at e
    split at e
    · rename_i c
      cases e
      exact ⟨c, rfl⟩
    · cases e
  unfold cSorted at e
  split at e
  · obtain ⟨u, q, rfl, a, rfl⟩ := rv
    obtain ⟨p, ws, eu, ta, rvs⟩ := tup_get a
    subst eu
    obtain ⟨ok, ev⟩ := srt_of e
    subst ev
    rw [Vals.ref1 r]
    obtain ⟨its, va, ⟨o, ho, hc, n, hd⟩, hz⟩ := I.tuple (X := X) ta.sq
    exact sort_core hu I rh rvs va (.inr rfl) ho hc hd (by rw [rvs.len]; exact hz) ok fun p us fr rv => have q := new_lst rh fr rv; kk _ _ _ q.1 q.2.1 q.2.2
  · obtain ⟨ys, e1, e2⟩ := Option.bind_eq_some_iff.mp e
    obtain ⟨u, q, rfl, a, rfl⟩ := rv
    obtain ⟨p, ws, eu, sq, rvs⟩ := lstOf_get rh a e1
    subst eu
    obtain ⟨ok, ev⟩ := srt_of e2
    subst ev
    rw [Vals.ref1 r]
    obtain ⟨its, va, pl, hz⟩ := I.list (X := X) sq
    obtain ⟨o, ho, hc, n, hd⟩ := pl.isList
    exact sort_core hu I rh rvs va (.inl rfl) ho hc hd (by rw [rvs.len]; exact hz) ok fun p us fr rv => have q := new_lst rh fr rv; kk _ _ _ q.1 q.2.1 q.2.2
  · cases e
end
end J
namespace J
open PySem PySem.W L2
def tupI (k : List Int) : VV := .tup (k.map .int)
theorem intL_map : ∀ k : List Int, intL (k.map .int) = some k
  | [] => rfl
  | i :: k => by show (intL (k.map .int)).map _ = _; rw [intL_map k]; rfl
theorem intL_inv : ∀ {xs : List VV} {k : List Int}, intL xs = some k → xs = k.map .int
  | [], k, e => by cases e; rfl
  | x :: xs, k, e => by
    cases x with
    | int i =>
      obtain ⟨l, e3, e4⟩ := Option.map_eq_some_iff.mp (show (intL xs).map (fun r => i :: r) = some k from e)
      subst e4
      rw [intL_inv e3]; rfl
    | _ => cases e
theorem intsV_inv {v : VV} {k : List Int} (e : intsV v = some k) : v = tupI k := by
  cases v with
  | tup xs => rw [intL_inv (show intL xs = some k from e)]; rfl
  | _ => cases e
theorem intsV_tupI {k : List Int} : intsV (tupI k) = some k := intL_map k
theorem encV_tupI {k : List Int} : encV (tupI k) = .tuple (k.map .int) := by
  show PyData.tuple (((intsV (tupI k)).getD []).map .int) = _
  rw [intsV_tupI]; rfl
theorem leS_tup {a b : List Int} : leS (tupI a) (tupI b) = decide (a ≤ b) := by
  show (!dataLt (encV (tupI b)) (encV (tupI a))) = _
  rw [encV_tupI, encV_tupI, dataLt_tuple]
  show (!rowLt (b.map .int) (a.map .int)) = _
  rw [dataLt_ints]
  by_cases h : b < a
  · have h' : ¬ a ≤ b := fun r => List.not_lt.mpr r h
    simp [h, h']
  · have h' : a ≤ b := List.not_lt.mp h
    simp [h, h']
theorem leS_int {a b : Int} : leS (.int a) (.int b) = decide (a ≤ b) := by
  show (!dataLt (.int b) (.int a)) = _
  rw [dataLt_int]
  by_cases h : b < a
  · have h' : ¬ a ≤ b := by omega
    simp [h, h']
  · have h' : a ≤ b := by omega
    simp [h, h']
def leL (a b : List Int) : Bool := decide (a ≤ b)
theorem leL_total (a b : List Int) : (leL a b || leL b a) = true := by
  unfold leL
  rcases List.le_total a b with h | h
  · simp [h]
  · simp [h]
theorem leL_trans (a b c : List Int) (h1 : leL a b = true) (h2 : leL b c = true) : leL a c = true := by
  unfold leL at *
  simp only [decide_eq_true_eq] at *
  exact List.le_trans h1 h2
theorem leL_anti {a b : List Int} (h1 : leL a b = true) (h2 : leL b a = true) : a = b := by
  unfold leL at *
  simp only [decide_eq_true_eq] at *
  exact List.le_antisymm h1 h2
/-- two orders of the same things -/
theorem sort_perm {l m : List (List Int)} (p : l.Perm m) : l.mergeSort leL = m.mergeSort leL := by
  have s1 := List.pairwise_mergeSort leL_trans leL_total l
  have s2 := List.pairwise_mergeSort leL_trans leL_total m
  refine List.Perm.eq_of_pairwise (le := fun a b => leL a b = true) (fun a b _ _ h1 h2 => leL_anti h1 h2) s1 s2 ?_
  exact (List.mergeSort_perm l leL).trans (p.trans (List.mergeSort_perm m leL).symm)
def cSortSet : OpN := fun h vs => match vs with
  | [v] => (lstOf h v).bind fun xs => if xs.all isT1 = true ∧ (xs.filterMap intsV).eraseDups.length < 306 then some (.lst ((((xs.filterMap intsV).eraseDups).mergeSort leL).map tupI)) else none
  | _ => none
section
variable {X : Cx} {W : WX}
/-- set(xs), tuples of ints, less than 306 of them unlike -/
def rSetFew (K : PySem.W.Frag) (P : Program) (w : World) : List V → Hp → VK → Prop := fun xs H Q => ∃ (l : Addr) (ks : List (Addr × List Int)) (Dk : List (List Int)), xs = [V.ref l] ∧ SqL K H l (ks.map fun q => V.ref q.1) ∧ (∀ q ∈ ks, SqT K H q.1 (q.2.map V.int)) ∧ (∀ q ∈ ks, q.2 ∈ Dk) ∧ Dk.length < 306 ∧
  ∀ S L, H S = none → (∀ q ∈ L, q ∈ ks) → (∀ q ∈ ks, q.2 ∈ L.map (·.2)) → (L.map (·.2)).Nodup → Q (.ref S) (upd H S (SetWO P w S L))
theorem cr_setFew (hc : X.calm = true) (hu : X.A.units + 64 < cLine) : CallR X (.type "set") (rSetFew X.K X.prog X.w) := by
  intro pins s σ H xs us Q I r h
  obtain ⟨l, ks, Dk, rfl, hl, hk, hD, hf, q⟩ := h
  rw [Vals.ref1 r]
  obtain ⟨its, rv, pl, hz⟩ := I.list hl
  have fr : H s.heap.objs.size = none := I.hok.fresh (Nat.le_refl _)
  have eits : its.toArray.toList = ks.map fun q => Value.ref q.1 := by simpa using refs_of_vals rv
  refine set_call (P := X.prog) (w := X.w) ks (I.ok.hd hc) pl.isList eits (fun p hp => I.isT (hk p hp)) Dk hD hf (by omega) fun h' tk L es ep t R g k => ?_
  have I2 := I.laid (t' := tk) (o := SetWO X.prog X.w s.heap.objs.size L) k (Nat.le_refl _) (setWO_new R.t0)
  refine ⟨.ref s.heap.objs.size, _, I2, rfl, q _ L fr (fun p hp => List.mem_of_mem_take (g.sub p hp)) (fun p hp => ?_) R.nd⟩
  refine g.all p ?_
  rw [List.take_length]; exact hp
/-- sorted of it -/
def rSortFew (K : PySem.W.Frag) (P : Program) (w : World) : List V → Hp → VK → Prop := fun vs H Q => ∃ (S : Addr) (L : List (Addr × List Int)), vs = [V.ref S] ∧ H S = some (SetWO P w S L) ∧ (∀ q ∈ L, SqT K H q.1 (q.2.map V.int)) ∧ (∀ q ∈ L, q.2 ≠ []) ∧
  ∀ (L' : List (Addr × List Int)) (p : Addr), L'.Perm L → L'.map (·.2) = (L.map (·.2)).mergeSort leL → H p = none → Q (.ref p) (upd H p (.lst (L'.map fun q => V.ref q.1)))
theorem refs_back : ∀ {L : List (Addr × List Int)} {vs : List Value}, EachIs (fun r (q : Addr × List Int) => r = Value.ref q.1) vs L → vs = L.map fun q => Value.ref q.1
  | [], _, .nil => rfl
  | q :: L, _, .cons a b => by rw [a, refs_back b]; rfl
theorem perm_refs {L : List (Addr × List Int)} (nd : (L.map fun q => Value.ref q.1).Nodup) : ∀ {vs : List Value}, vs.Perm (L.map fun q => Value.ref q.1) → ∃ L1 : List (Addr × List Int), vs = L1.map (fun q => Value.ref q.1) ∧ L1.Perm L := by
  intro vs pm
  -- the value's row
  have find : ∀ v ∈ vs, ∃ q ∈ L, v = Value.ref q.1 := fun v hv => by
    obtain ⟨q, hq, e⟩ := List.mem_map.mp (pm.mem_iff.mp hv)
    exact ⟨q, hq, e.symm⟩
  have pick : ∀ vs : List Value, (∀ v ∈ vs, ∃ q ∈ L, v = Value.ref q.1) → ∃ L1 : List (Addr × List Int), vs = L1.map (fun q => Value.ref q.1) ∧ ∀ q ∈ L1, q ∈ L := by
    intro vs
    induction vs with
    | nil => exact fun _ => ⟨[], rfl, fun q z => by cases z⟩
    | cons v vs ih =>
      intro hv
      obtain ⟨q, hq, e⟩ := hv v List.mem_cons_self
      obtain ⟨L1, e1, h1⟩ := ih fun u z => hv u (List.mem_cons_of_mem _ z)
      refine ⟨q :: L1, by rw [e, e1]; rfl, fun r hr => ?_⟩
      cases hr with
      | head => exact hq
      | tail _ z => exact h1 r z
  obtain ⟨L1, e1, h1⟩ := pick vs find
  refine ⟨L1, e1, ?_⟩
  have ndL : L.Nodup := nodup_of_map nd
  have nd1 : (L1.map fun q => Value.ref q.1).Nodup := by rw [← e1]; exact pm.nodup_iff.mpr nd
  have inj : ∀ q ∈ L, ∀ r ∈ L, q.1 = r.1 → q = r := by
    intro q hq r hr e
    obtain ⟨i, hi, ei⟩ := List.getElem_of_mem hq
    obtain ⟨j, hj, ej⟩ := List.getElem_of_mem hr
    have : i = j := by
      refine (List.getElem?_inj (by rw [List.length_map]; exact hi) nd).mp ?_
      rw [List.getElem?_map, List.getElem?_map, List.getElem?_eq_getElem hi, List.getElem?_eq_getElem hj, ei, ej, Option.map_some, Option.map_some, e]
    subst this
    rw [← ei, ← ej]
  refine (List.perm_ext_iff_of_nodup (nodup_of_map nd1) ndL).mpr fun q => ⟨h1 q, fun hq => ?_⟩
  have : Value.ref q.1 ∈ L1.map fun q => Value.ref q.1 := by
    rw [← e1]; exact pm.mem_iff.mpr (List.mem_map.mpr ⟨q, hq, rfl⟩)
  obtain ⟨r, hr, e⟩ := List.mem_map.mp this
  have er : r = q := inj r (h1 r hr) q hq (by injection e)
  rw [← er]; exact hr
theorem cr_sortFew (hc : X.calm = true) (hu : X.A.units + 64 < cLine) : CallR X (.builtin "sorted") (rSortFew X.K X.prog X.w) := by
  intro pins s σ H vs us Q I r h
  obtain ⟨S, L, rfl, hS, hk, hne, q⟩ := h
  have R0 : SetW0 X.prog X.w s.heap S L := (I.hok S _ hS).1
  obtain ⟨es, ep, t, R⟩ := R0.full fun p hp => I.isT (hk p hp)
  rw [Vals.ref1 r]
  obtain ⟨o, ho, hex, hd⟩ := R.ob
  have esz := R.size
  have few : L.length < 307 := by
    have z1 := R.room
    have z2 := R.msk
    omega
  have rows : es.toList.map (·.2) = L.map fun q => Value.ref q.1 := by
    rw [R.rows]
    unfold L2.rowsOf
    rw [List.map_map]; rfl
  have nd : (L.map fun q => Value.ref q.1).Nodup := by
    have nL : L.Nodup := nodup_of_map R.nd
    refine List.pairwise_map.mpr (List.Pairwise.imp_of_mem (fun {a b} ha hb hab e => hab ?_) nL)
    have e1 : a.1 = b.1 := by injection e
    have t1 := R.tup a ha
    have t2 := R.tup b hb
    rw [e1] at t1
    exact Prod.ext e1 (t1.inj t2)
  refine sorted_any (enc := fun q : Addr × List Int => PyData.tuple (q.2.map .int)) (R := fun r q => r = Value.ref q.1) (collect_set (A := X.A.in1) (I.ok.hd hc) ⟨o, ho, hex.1, hd⟩ R.fits (show es.size < 4096 by omega) R.tab.up R.led fun s1 vs k1 hz g1 o1 pm => ?_)
  rw [rows] at pm
  obtain ⟨L1, eL1, pL1⟩ := perm_refs nd pm
  have mem : ∀ q ∈ L1, q ∈ L := fun q hq => pL1.mem_iff.mp hq
  have mk : ∀ {T : Value → Addr × List Int → Prop} (M : List (Addr × List Int)), (∀ q ∈ M, T (.ref q.1) q) → EachIs T (M.map fun q => Value.ref q.1) M := by
    intro T M
    induction M with
    | nil => exact fun _ => .nil
    | cons q M ih => exact fun h => .cons (h q List.mem_cons_self) (ih fun r hr => h r (List.mem_cons_of_mem _ hr))
  refine ⟨L1, by rw [eL1]; exact mk L1 fun q _ => rfl, by
    rw [eL1]
    refine mk L1 fun q hq => ?_
    obtain ⟨its, rvs, ⟨ob, hob, hcb, n, hdb⟩, _⟩ := I.tuple (X := X) (hk q (mem q hq))
    exact .tuple (k1 _ _ hob) hcb hdb (reads_ints (by simpa using rvs)), ?_, ?_, by rw [pL1.length_eq, sizeLine_eq]; omega, fun b hb => ?_, fun out h' n a1 a2 a3 => ?_⟩
  · exact AllAlike.of fun a b => by
      show alikeAll _ _ = true
      exact alike_ints _ _
  · refine .inl fun d hd => ?_
    obtain ⟨q, hq, rfl⟩ := List.mem_map.mp hd
    obtain ⟨a, k⟩ := q
    cases k with
    | nil => exact absurd rfl (hne _ (mem _ hq))
    | cons i k => exact ⟨.int i, k.map .int, rfl⟩
  · show X.A.units + 1 + 1 + PyData.depth (.tuple _) < _
    simp only [PyData.depth, depth_ints]
    omega
  · generalize eM : L1.mergeSort (dataLe false fun q : Addr × List Int => PyData.tuple (q.2.map .int)) = M at a1
    have eo := refs_back a1
    have pM : M.Perm L := by rw [← eM]; exact (List.mergeSort_perm _ _).trans pL1
    have kM : M.map (·.2) = (L.map (·.2)).mergeSort leL := by
      have qq := List.map_mergeSort (r := dataLe false fun q : Addr × List Int => PyData.tuple (q.2.map .int)) (s := leL) (f := fun q : Addr × List Int => q.2) (l := L1) (fun a _ b _ => by
        have z := leS_tup (a := a.2) (b := b.2)
        unfold leS at z
        show dataLe false _ a b = _
        have z' : dataLe false (fun q : Addr × List Int => PyData.tuple (q.2.map .int)) a b = dataLe false encV (tupI a.2) (tupI b.2) := by
          show (!dataLt _ _) = (!dataLt _ _)
          rw [encV_tupI, encV_tupI]
        rw [z', z]; rfl)
      rw [← eM, qq]
      exact sort_perm (pL1.map _)
    have hlen : (M.map fun q => V.ref q.1).length ≤ sizeLine := by
      rw [List.length_map, pM.length_eq, sizeLine_eq]; omega
    have fr : H s1.heap.objs.size = none := I.hok.fresh hz
    have va : Vals (M.map fun q => V.ref q.1) out := by rw [eo]; exact vals_of_refs M
    have k2 : ∀ b u, s.heap.get? b = some u → h'.get? b = some u := fun b u e => a2 b u (k1 b u e)
    have I2 : Inv X pins σ (upd H s1.heap.objs.size (.lst (M.map fun q => V.ref q.1))) { s with heap := h', gens := s1.gens, drawn := s1.drawn, toks := s1.toks } :=
      I.call (ch := []) (Un.laid k2 hz fr) (I.hok.laid k2 hz ⟨hlen, out, n, va, a3⟩) (by rw [g1]; exact I.bare) (fun _ z => nomatch z)
    have es1 : ({ s1 with heap := h' } : Shared) = { s with heap := h', gens := s1.gens, drawn := s1.drawn, toks := s1.toks } := by
      rw [← o1]
    rw [es1]
    exact ⟨.ref s1.heap.objs.size, _, I2, rfl, q M _ pM kM fr⟩
end
end J
namespace J
open PySem PySem.W L2
theorem rows_of {c : Ct} {g : Gh} {H : Hp} : ∀ {xs : List VV} {ws : List V}, RVs c g.fz H xs ws → xs.all isT1 = true → ∃ ks : List (Addr × List Int), ws = ks.map (fun q => V.ref q.1) ∧ xs.filterMap intsV = ks.map (·.2) ∧ ∀ q ∈ ks, q.2 ≠ [] ∧ RV c g.fz H (tupI q.2) (.ref q.1) ∧ SqT c.K H q.1 (q.2.map V.int)
  | [], ws, r, _ => by
    rw [RVs] at r
    exact ⟨[], r, rfl, fun q z => by cases z⟩
  | x :: xs, ws, r, h => by
    rw [RVs] at r
    obtain ⟨w, q, rfl, a, b⟩ := r
    rw [List.all_cons, Bool.and_eq_true] at h
    obtain ⟨ks, e1, e2, e3⟩ := rows_of b h.2
    have h1 := h.1
    unfold isT1 at h1
    cases e : intsV x with
    | none => rw [e] at h1; cases h1
    | some k =>
      rw [e] at h1
      have ex := intsV_inv e
      subst ex
      have nk : k ≠ [] := fun z => by subst z; cases h1
      have a' := a
      unfold tupI at a'
      rw [RV] at a'
      obtain ⟨p, us, rfl, ta, rs⟩ := a'
      have eu := intL_vals rs (intL_map k)
      subst eu
      refine ⟨(p, k) :: ks, by rw [e1]; rfl, by rw [List.filterMap_cons, e, e2]; rfl, fun q hq => ?_⟩
      rcases List.mem_cons.mp hq with z | z
      · rw [z]; exact ⟨nk, a, ta.sq⟩
      · exact e3 q z
theorem nodup_eraseDups_n : ∀ (n : Nat) (l : List (List Int)), l.length ≤ n → l.eraseDups.Nodup
  | _, [], _ => by simp
  | 0, _ :: _, h => by simp at h
  | n + 1, a :: l, h => by
    rw [List.eraseDups_cons, List.nodup_cons]
    refine ⟨fun z => ?_, nodup_eraseDups_n n _ (Nat.le_trans (List.length_filter_le _ _) (by simpa using h))⟩
    rw [List.mem_eraseDups, List.mem_filter] at z
    simp at z
theorem nodup_eraseDups (l : List (List Int)) : l.eraseDups.Nodup := nodup_eraseDups_n _ l (Nat.le_refl _)
section
variable {X : Cx} {W : WX}
theorem j_sortSet {a : Expr} {fa : EF} {p p2 pos pos2 : Pos} {k : Nat} (hr : Room k X.A) (hc : X.calm = true) (g1 : Gl X "sorted") (m1 : X.mg "sorted" = none) (g2 : Gl X "set") (m2 : X.mg "set" = none) (ha : PE X a (tE (ct X) W fa))
    (s1 : starEach [a] X.env = (false, eval a X.env) :: starEach [] X.env := by rfl) (q1 : (backTo pos2 (starEach [] X.env)).any (·.1) = false := by rfl)
    (s2 : starEach [.Call (.Name "set" p2) [a] [] pos2] X.env = (false, eval (.Call (.Name "set" p2) [a] [] pos2) X.env) :: starEach [] X.env := by rfl) (q2 : (backTo pos (starEach [] X.env)).any (·.1) = false := by rfl) :
    PE X (.Call (.Name "sorted" p) [.Call (.Name "set" p2) [a] [] pos2] [] pos) (tE (ct X) W (eCall cSortSet (aCons fa aNil))) := by
  have inner := pe_callTy (T := "set") (cr_setFew (X := X) hc hr.units) g2 m2 rfl (pa_cons ha pa_nil s1) (by decide) (by decide) s1 q1 (p := p2) (pos := pos2)
  refine PE.mono (pe_callB (id := "sorted") (cr_sortFew (X := X) hc hr.units) g1 m1 rfl (pa_cons inner pa_nil s2) (by decide) (by decide) s2 q2) fun σ H Q h => ?_
  obtain ⟨g, ρ, h0, rh, rs, pp⟩ := h
  refine ⟨g, ρ, h0, rh, rs, ?_⟩
  unfold eCall aCons aNil at pp
  cases er : fa ρ h0 with
  | no => rw [er] at pp; exact pp
  | exc => rw [er] at pp; exact pp
  | ok v h1 =>
    rw [er] at pp
    simp only [Res.bind] at pp
    intro g' H' u st rh' rv
    have pp := Pst.step st pp
    cases e1 : lstOf h1 v with
    | none => simp only [cSortSet, e1, Option.bind_none, lift] at pp; exact pp.elim
    | some xs =>
      by_cases cc : xs.all isT1 = true ∧ (xs.filterMap intsV).eraseDups.length < 306
      · simp only [cSortSet, e1, Option.bind_some, if_pos cc, lift] at pp
        obtain ⟨l, ws, rfl, sq, rvs⟩ := lstOf_get rh' rv e1
        obtain ⟨ks, e2, e3, e4⟩ := rows_of rvs cc.1
        subst e2
        refine ⟨l, ks, (xs.filterMap intsV).eraseDups, rfl, sq, fun q hq => (e4 q hq).2.2, fun q hq => ?_, cc.2, fun S L hS l1 l2 l3 => ?_⟩
        · rw [List.mem_eraseDups, e3]
          exact List.mem_map.mpr ⟨q, hq, rfl⟩
        · have stS : Stp g' H' g' (upd H' S (SetWO X.prog X.w S L)) := .junk rh' hS
          have rhS := rh'.junk (o := SetWO X.prog X.w S L) hS
          refine ⟨S, L, rfl, upd_same, fun q hq => ?_, fun q hq => (e4 q (l1 q hq)).1, fun M p pM kM hp => ?_⟩
          · obtain ⟨nk, rq, _⟩ := e4 q (l1 q hq)
            have rq' := stS.rv rq
            unfold tupI at rq'
            rw [RV] at rq'
            obtain ⟨b, us, eb, ta, rs'⟩ := rq'
            cases eb
            rw [← intL_vals rs' (intL_map q.2)]
            exact ta.sq
          · have pk : (L.map (·.2)).Perm (xs.filterMap intsV).eraseDups := by
              refine (List.perm_ext_iff_of_nodup l3 (nodup_eraseDups _)).mpr fun x => ?_
              rw [List.mem_eraseDups, e3]
              constructor
              · intro hx
                obtain ⟨q, hq, e⟩ := List.mem_map.mp hx
                exact List.mem_map.mpr ⟨q, l1 q hq, e⟩
              · intro hx
                obtain ⟨q, hq, e⟩ := List.mem_map.mp hx
                rw [← e]; exact l2 q hq
            have rM : RVs (ct X) g'.fz (upd H' S (SetWO X.prog X.w S L)) ((((xs.filterMap intsV).eraseDups).mergeSort leL).map tupI) (M.map fun q => V.ref q.1) := by
              rw [← sort_perm pk, ← kM, List.map_map]
              have : ∀ N : List (Addr × List Int), (∀ q ∈ N, q ∈ L) → RVs (ct X) g'.fz (upd H' S (SetWO X.prog X.w S L)) (N.map (tupI ∘ fun q => q.2)) (N.map fun q => V.ref q.1) := by
                intro N
                induction N with
                | nil => exact fun _ => RVs.nil
                | cons q N ih => exact fun hN => RVs.cons (stS.rv (e4 q (l1 q (hN q List.mem_cons_self))).2.1) (ih fun r hr => hN r (List.mem_cons_of_mem _ hr))
              exact this M fun q hq => pM.mem_iff.mp hq
            obtain ⟨a1, a2, a3⟩ := new_lst rhS hp rM
            exact pp _ _ _ (stS.trans a1) a2 a3
      · simp only [cSortSet, e1, Option.bind_some, if_neg cc, lift] at pp
        exact pp.elim
end
end J
namespace J
open PySem L2
/-! dicts with tuples as keys, by value -/
def dOf (h : VH) : VV → Option DA
  | .dT ks vs => some (ks, vs)
  | .obj n => match h[n]? with
    | some (.dT ks vs) => some (ks, vs)
    | some (.fzn (.dT ks vs)) => some (ks, vs)
    | _ => none
  | _ => none
theorem dOf_get {c : Ct} {g : Gh} {h : VH} {H : Hp} {v : VV} {u : V} {a : DA} (rh : RH c g h H) (rv : RT c g H v u) (e : dOf h v = some a) : ∃ p us, u = .ref p ∧ Rd H p (.dT (a.1.zip us)) ∧ a.1.length = us.length ∧ RVs c g.fz H a.2 us := by
  cases v with
  | dT ks vs =>
    cases e
    have q := rv.rv rfl
    rw [RV] at q
    obtain ⟨p, us, a, b, d, l, r⟩ := q
    exact ⟨p, us, a, d, l, r⟩
  | obj n =>
    obtain ⟨b, ea, eu⟩ := rv
    unfold dOf at e
    simp only at e
    split at e
    · rename_i ks vs en
      cases e
      obtain ⟨_, us, d, l, r⟩ := rh.at' n _ b en ea
      exact ⟨b, us, eu, .inl d, l, r⟩
    · rename_i ks vs en
      cases e
      obtain ⟨_, q⟩ := rh.at' n _ b en ea
      rw [RV] at q
      obtain ⟨p, us, z, y, d, l, r⟩ := q
      cases z
      exact ⟨b, us, eu, d, l, r⟩
    · cases e
  | _ => cases e
def getD : List (List Key) → List VV → List Key → Option VV
  | k' :: ks, v :: vs, k => if k' = k then some v else getD ks vs k
  | _, _, _ => none
section
variable {X : Cx} {W : WX}
theorem j_dnew {pos : Pos} : PE X (.Dict [] [] pos) (tE (ct X) W (fun _ h => .ok (.obj h.length) (h ++ [.dT [] []]))) :=
  PE.mono pe_dnewT fun σ H Q ⟨g, ρ, h, rh, rs, p⟩ q hq => by
    have st : Stp g H g (upd H q (.dT [])) := .junk rh hq
    have rh1 : RH (ct X) g h (upd H q (.dT [])) := rh.junk hq
    have nq : q ∉ g.io := fun z => by
      obtain ⟨o, e⟩ := rh.root z
      rw [hq] at e; cases e
    refine p (g.add q) _ (.ref q) (st.trans .add) (rh1.add nq (fun z => ?_) ⟨fun z => ?_, [], upd_same, rfl, RVs.nil⟩) ⟨q, ?_, rfl⟩
    · obtain ⟨o, e⟩ := rh.kp q z; rw [hq] at e; cases e
    · obtain ⟨o, e⟩ := rh.fz q z; rw [hq] at e; cases e
    · show (g.io ++ [q])[h.length]? = some q
      rw [← rh.len, List.getElem?_append_right (Nat.le_refl _), Nat.sub_self]; rfl
/-- d[k] = v, d a root -/
def setD (h : VH) (o i v : VV) : Option VH := match o with
  | .obj n => match h[n]? with
    | some (.dT ks vs) => (keyV i).bind fun k => if v.isObj = true ∨ ks.length ≥ SZ then none else some (h.set n (.dT (putKs ks k) (putVs ks vs k v)))
    | _ => none
  | _ => none
theorem setD_ok {c : Ct} {g : Gh} {h h' : VH} {H : Hp} {o i v : VV} {uo ui uv : V} (rh : RH c g h H) (ro : RT c g H o uo) (ri : RT c g H i ui) (rv : RT c g H v uv) (e : setD h o i v = some h') (Q : Hp → Prop) (k : ∀ H', Stp g H g H' → RH c g h' H' → Q H') : rSetD uo ui uv H Q := by
  unfold setD at e
  split at e
  · rename_i n
    split at e
    · rename_i ks vs en
      obtain ⟨key, e1, e2⟩ := Option.bind_eq_some_iff.mp e
      split at e2
      · cases e2
      · rename_i cc
        rw [not_or] at cc
        cases e2
        obtain ⟨a, ea, eo⟩ := ro
        obtain ⟨nz, us, hl, ln, rvs⟩ := rh.at' n _ a en ea
        obtain ⟨b, eb, hb⟩ := keyV_at ri e1
        have nk : ¬ g.kp a := fun z => (rh.kd a z).2 (List.mem_of_getElem? ea)
        have nt : ∀ ys, H a ≠ some (.tup ys) := fun ys z => by rw [hl] at z; cases z
        have st : Stp g H g (upd H a (.dT (putK (ks.zip us) key uv))) := Stp.wr (c := c) nz nk nt
        refine ⟨a, _, eo, by rw [eb]; exact .t hl hb (by rw [List.length_zip, ← ln, Nat.min_self]; exact SZ_lt (by omega)), k _ st (rh.wr ea nz nt ⟨nz, putVs ks us key uv, ?_, put_len ln _ _, ?_⟩)⟩
        · rw [upd_same, zip_put ln]
        · exact RVs.put ln (st.rvs rvs) (st.rv (rv.rv (by simpa using cc.1)))
    · cases e
  · cases e
def sSetD (o i e : EF) : SF := fun ρ h => (e ρ h).st ρ fun v h1 => (o ρ h1).st ρ fun ov h2 => (i ρ h2).st ρ fun iv h3 => match setD h3 ov iv v with
  | some h4 => .nx ρ h4
  | none => .no
theorem js_setD {o i e : Expr} {fo fi fe : EF} {pos pos' : Pos} {k : Nat} (hr : Room k X.A) (he : PE X e (tE (ct X) W fe)) (ho : PE X o (tE (ct X) W fo)) (hi : PE X i (tE (ct X) W fi))
    (ha : ∀ v, assign (.Subscript o i pos') X.env v = (do
      let ov ← holding [v] (eval o X.env)
      let iv ← holding [v, ov] (eval i X.env)
      standAt pos'
      holding [v, ov, iv] (setItem ov iv v)
      release [v, ov, iv] []) := by intro _; rfl)
    (hs : swapsWithSole [.Subscript o i pos'] e pos.line X.env = pure false := by rfl) (hw : swappedStores [.Subscript o i pos'] e X.env = pure none := by rfl) (h1 : (assignEach [.Subscript o i pos'] X.env).map (·.2) = [assign (.Subscript o i pos') X.env] := by rfl) :
    PS X (.Assign [.Subscript o i pos'] e pos) (tS (ct X) W (sSetD fo fi fe)) :=
  PS.mono (ps_asg he (pg_sub ho hi (set_dict (by have := hr.units; omega)) ha) hs hw h1) fun D σ H ⟨g, ρ, h, rh, rs, p⟩ => by
    refine ⟨g, ρ, h, rh, rs, (Pst.st (R := RT (ct X)) rs p).imp fun u H1 ⟨g1, v, h1, st, rh1, rs1, rv1, p1⟩ => ?_⟩
    refine ⟨g1, ρ, h1, rh1, rs1, (Pst.st (R := RT (ct X)) rs1 p1).imp fun u2 H2 ⟨g2, ov, h2, st2, rh2, rs2, rv2, p2⟩ => ?_⟩
    refine ⟨g2, ρ, h2, rh2, rs2, (Pst.st (R := RT (ct X)) rs2 p2).imp fun u3 H3 ⟨g3, iv, h3, st3, rh3, rs3, rv3, p3⟩ => ?_⟩
    cases e : setD h3 ov iv v with
    | none => rw [e] at p3; exact p3.elim
    | some h4 =>
      rw [e] at p3
      exact setD_ok rh3 (rv2.stp st3) rv3 ((rv1.stp st2).stp st3) e _ fun H' st' rh' => p3 g3 H' σ st' rh' (rs3.stp st')
def rLenR : List V → Hp → VK → Prop := fun xs H Q => ∃ (p : Addr) (kvs : List (List Key × V)), xs = [.ref p] ∧ Rd H p (.dT kvs) ∧ Q (.int ((kvs.length : Nat) : Int)) H
theorem len_rd : CallR X (.builtin "len") rLenR := fun pins s σ H xs us Q I r ⟨p, kvs, e, hp, q⟩ => by
  subst e
  obtain ⟨u, rfl, rx⟩ := vals1 r
  cases (show u = Value.ref p from rx)
  obtain ⟨z, hd, ys, rel, dd⟩ := dt_rd I.hok hp
  have hl : kvs.length = ys.length := Paired.length rel
  refine call_len_dictH hd dd (by rw [← hl]; rw [sizeLine_eq] at z; omega) ?_
  rw [← hl]
  exact ⟨.int ((kvs.length : Nat) : Int), H, I.tok _, ⟨_, rfl⟩, q⟩
def cLenD : OpN := fun h vs => match vs with
  | [d] => (dOf h d).map fun a => .int a.1.length
  | _ => none
theorem cr_lenD : CallR X (.builtin "len") (RdN (ct X) cLenD) :=
  CallR.imp len_rd fun xs H Q ⟨g, h, vs, r, rh, rv, e, kk⟩ => by
    unfold cLenD at e
    split at e
    · obtain ⟨a, e1, e2⟩ := Option.map_eq_some_iff.mp e
      cases e2
      obtain ⟨u, q, rfl, ra, rfl⟩ := rv
      obtain ⟨p, us, rfl, hp, hl, _⟩ := dOf_get rh ra e1
      refine ⟨p, _, rfl, hp, ?_⟩
      rw [List.length_zip, ← hl, Nat.min_self]
      exact kk g H _ .refl rh rt_int
    · cases e
def keyB : Key → VV
  | .inl i => .int i
  | .inr x => .str x
def cListD : OpN := fun h vs => match vs with
  | [d] => (dOf h d).map fun a => .lst (a.1.map fun k => .tup (k.map keyB))
  | _ => none
theorem rvs_key {c : Ct} {z : Addr → Prop} {H : Hp} : ∀ (k : List Key), RVs c z H (k.map keyB) (k.map kV)
  | [] => RVs.nil
  | x :: k => by
    refine RVs.cons ?_ (rvs_key k)
    cases x with
    | inl i => show RV c z H (.int i) _; rw [RV]; rfl
    | inr i => show RV c z H (.str i) _; rw [RV]; rfl
theorem cr_listD (hc : X.calm = true) : CallR X (.type "list") (RdN (ct X) cListD) :=
  CallR.imp (call_list_dT hc) fun xs H Q ⟨g, h, vs, r, rh, rv, e, kk⟩ => by
    unfold cListD at e
    split at e
    · obtain ⟨a, e1, e2⟩ := Option.map_eq_some_iff.mp e
      cases e2
      obtain ⟨u, q, rfl, ra, rfl⟩ := rv
      obtain ⟨p, us, rfl, hp, hl, _⟩ := dOf_get rh ra e1
      refine ⟨p, _, rfl, hp, fun l bs hn hk => ?_⟩
      have rb : ∀ {ks : List (List Key)} {us : List V} {bs : List Addr}, ks.length = us.length → IsKeys H (ks.zip us) bs → RVs (ct X) g.fz H (ks.map fun k => .tup (k.map keyB)) (bs.map V.ref) := by
        intro ks
        induction ks with
        | nil =>
          intro us bs hl hk
          cases hk
          exact RVs.nil
        | cons k ks ih =>
          intro us bs hl hk
          cases us with
          | nil => cases hl
          | cons u us =>
            rw [List.zip_cons_cons] at hk
            cases hk with
            | cons h1 h2 =>
              refine RVs.cons ?_ (ih (Nat.succ.inj hl) h2)
              rw [RV]
              exact ⟨_, _, rfl, h1, rvs_key k⟩
      obtain ⟨s1, s2, s3⟩ := new_lst rh hn (rb hl hk)
      exact kk _ _ _ s1 s2 s3
    · cases e
end
end J
namespace J
open PySem L2
/-! instances -/
def lookN : List Str → List VV → Str → Option VV
  | n :: ns, v :: vs, f => if n = f then some v else lookN ns vs f
  | _, _, _ => none
def insOf (h : VH) : VV → Option (Str × List Str × List VV)
  | .ins c ns vs => some (c, ns, vs)
  | .obj n => match h[n]? with
    | some (.ins c ns vs) => some (c, ns, vs)
    | some (.fzn (.ins c ns vs)) => some (c, ns, vs)
    | _ => none
  | _ => none
theorem insOf_get {c : Ct} {g : Gh} {h : VH} {H : Hp} {v : VV} {u : V} {a : Str × List Str × List VV} (rh : RH c g h H) (rv : RT c g H v u) (e : insOf h v = some a) : ∃ p C dx us, u = .ref p ∧ c.mg a.1 = some (.ref C) ∧ H p = some (.ins C dx (a.2.1.zip us)) ∧ a.2.1.length = us.length ∧ RTs c g H a.2.2 us := by
  cases v with
  | ins x ns vs =>
    cases e
    have q := rv.rv rfl
    rw [RV] at q
    obtain ⟨p, C, dx, us, a, b, m, d, l, r⟩ := q
    exact ⟨p, C, dx, us, a, m, d, l, RTs.of_rvs r⟩
  | obj n =>
    obtain ⟨b, ea, eu⟩ := rv
    unfold insOf at e
    simp only at e
    split at e
    · rename_i x ns vs en
      cases e
      obtain ⟨_, C, dx, us, m, d, l, r⟩ := rh.at' n _ b en ea
      exact ⟨b, C, dx, us, eu, m, d, l, r⟩
    · rename_i x ns vs en
      cases e
      obtain ⟨_, q⟩ := rh.at' n _ b en ea
      rw [RV] at q
      obtain ⟨p, C, dx, us, z, y, m, d, l, r⟩ := q
      cases z
      exact ⟨b, C, dx, us, eu, m, d, l, RTs.of_rvs r⟩
    · cases e
  | _ => cases e
theorem lookup_cons_pos {f : Str} {n : Str} {u : V} {r : List (Str × V)} (e : n = f) : ((n, u) :: r).lookup f = some u := by
  subst e; simp
theorem lookup_cons_neg {f : Str} {n : Str} {u : V} {r : List (Str × V)} (e : ¬ n = f) : ((n, u) :: r).lookup f = r.lookup f := by
  have : (f == n) = false := by simpa using fun z => e z.symm
  simp [List.lookup_cons, this]
theorem lookN_val {c : Ct} {g : Gh} {H : Hp} {f : Str} : ∀ {ns : List Str} {vs : List VV} {us : List V}, ns.length = us.length → RTs c g H vs us → (∀ v, lookN ns vs f = some v → ∃ u, (ns.zip us).lookup f = some u ∧ RT c g H v u) ∧ (lookN ns vs f = none → (ns.zip us).lookup f = none)
  | [], vs, us, _, _ => ⟨fun v e => by simp [lookN] at e, fun _ => rfl⟩
  | x :: ns, vs, us, hl, r => by
    cases us with
    | nil => cases hl
    | cons u us =>
      cases vs with
      | nil =>
        have := RTs.len r
        simp at this
      | cons y vs =>
        obtain ⟨a1, a2, e1, a3, a4⟩ := r
        cases e1
        have ih := lookN_val (f := f) (Nat.succ.inj hl) a4
        unfold lookN
        rw [List.zip_cons_cons]
        by_cases ex : x = f
        · rw [if_pos ex, lookup_cons_pos ex]
          exact ⟨fun v e => by cases e; exact ⟨u, rfl, a3⟩, fun e => by cases e⟩
        · rw [if_neg ex, lookup_cons_neg ex]
          exact ih
def eFld (cn f : Str) (fe : EF) : EF := fun ρ h => (fe ρ h).bind fun v h1 => match insOf h1 v with
  | some a => if a.1 = cn then lift (lookN a.2.1 a.2.2 f) h1 else .no
  | none => .no
section
variable {X : Cx} {W : WX}
theorem j_fld {cn f : Str} {e : Expr} {fe : EF} {pos : Pos} (hcl : ∀ C, X.mg cn = some (.ref C) → Cls X.K C ∧ NoAttr X.K C f) (he : PE X e (tE (ct X) W fe)) (hb : attributeBase e f X.env (eval e X.env) = eval e X.env := by rfl) : PE X (.Attribute e f pos) (tE (ct X) W (eFld cn f fe)) :=
  PE.mono (pe_fld he hb) fun σ H Q ⟨g, ρ, h0, rh, rs, p⟩ => by
    refine ⟨g, ρ, h0, rh, rs, (Pst.bind (R := RT (ct X)) p).imp fun u H1 ⟨g1, v, h1, st, rh1, rv1, p1⟩ => ?_⟩
    cases e1 : insOf h1 v with
    | none => rw [e1] at p1; exact p1.elim
    | some a =>
      rw [e1] at p1
      simp only at p1
      by_cases cc : a.1 = cn
      · rw [if_pos cc] at p1
        obtain ⟨q, C, dx, us, rfl, m, hq, hl, rts⟩ := insOf_get rh1 rv1 e1
        rw [cc] at m
        obtain ⟨c1, c2⟩ := hcl C m
        cases e2 : lookN a.2.1 a.2.2 f with
        | none => rw [e2] at p1; exact p1.elim
        | some w =>
          rw [e2] at p1
          obtain ⟨u2, l2, r2⟩ := (lookN_val hl rts).1 w e2
          exact ⟨q, C, dx, _, u2, rfl, hq, c1, c2, l2, p1 g1 H1 u2 .refl rh1 r2⟩
      · rw [if_neg cc] at p1; exact p1.elim
end
end J
namespace J
open PySem L2
def putN : List Str → Str → List Str
  | [], f => [f]
  | n :: ns, f => if n = f then n :: ns else n :: putN ns f
def putW {α : Type} : List Str → List α → Str → α → List α
  | n :: ns, x :: xs, f, v => if n = f then v :: xs else x :: putW ns xs f v
  | _, _, _, v => [v]
theorem putF_zip {f : Str} {u : V} : ∀ {ns : List Str} {us : List V}, ns.length = us.length → putF f u (ns.zip us) = (putN ns f).zip (putW ns us f u) ∧ (putN ns f).length = (putW ns us f u).length
  | [], us, hl => by
    cases us with
    | nil => exact ⟨rfl, rfl⟩
    | cons => cases hl
  | n :: ns, us, hl => by
    cases us with
    | nil => cases hl
    | cons w us =>
      have ih := putF_zip (f := f) (u := u) (Nat.succ.inj hl)
      rw [List.zip_cons_cons]
      unfold putF putN putW
      by_cases e : n = f
      · rw [if_pos e, if_pos e, if_pos e]
        exact ⟨rfl, by simpa using hl⟩
      · rw [if_neg e, if_neg e, if_neg e]
        exact ⟨by rw [ih.1]; rfl, by simp [ih.2]⟩
theorem RTs.putW {c : Ct} {g : Gh} {H : Hp} {f : Str} {v : VV} {u : V} (q : RT c g H v u) : ∀ {ns : List Str} {vs : List VV} {us : List V}, ns.length = us.length → RTs c g H vs us → RTs c g H (J.putW ns vs f v) (J.putW ns us f u)
  | [], vs, us, hl, r => by
    cases us with
    | nil =>
      have : vs = [] := by
        have := r.len
        cases vs with
        | nil => rfl
        | cons => simp at this
      subst this
      exact ⟨u, [], rfl, q, rfl⟩
    | cons => cases hl
  | n :: ns, vs, us, hl, r => by
    cases us with
    | nil => cases hl
    | cons w us =>
      cases vs with
      | nil => have := r.len; simp at this
      | cons y vs =>
        obtain ⟨a1, a2, e1, a3, a4⟩ := r
        cases e1
        have ih := RTs.putW (f := f) q (Nat.succ.inj hl) a4
        unfold J.putW
        by_cases e : n = f
        · rw [if_pos e, if_pos e]; exact ⟨u, us, rfl, q, a4⟩
        · rw [if_neg e, if_neg e]; exact ⟨w, _, rfl, a3, ih⟩
def setF (h : VH) (cn f : Str) (o v : VV) : Option VH := match o with
  | .obj n => match h[n]? with
    | some (.ins c ns vs) => if c = cn ∧ ns.length < 1000 then some (h.set n (.ins c (putN ns f) (putW ns vs f v))) else none
    | _ => none
  | _ => none
def sFldS (cn f : Str) (fo fe : EF) : SF := fun ρ h => (fe ρ h).st ρ fun v h1 => (fo ρ h1).st ρ fun ov h2 => match setF h2 cn f ov v with
  | some h3 => .nx ρ h3
  | none => .no
section
variable {X : Cx} {W : WX}
theorem js_fld {cn f : Str} {o e : Expr} {fo fe : EF} {pos pos' : Pos} (hcl : ∀ C, X.mg cn = some (.ref C) → Cls X.K C ∧ NoAttr X.K C f) (ho : PE X o (tE (ct X) W fo)) (he : PE X e (tE (ct X) W fe)) (hs : swapsWith e (some (.Attribute o f pos')) pos.line X.env = pure false := by rfl) :
    PS X (.Assign [.Attribute o f pos'] e pos) (tS (ct X) W (sFldS cn f fo fe)) :=
  PS.mono (ps_fld ho he hs) fun D σ H ⟨g, ρ, h, rh, rs, p⟩ => by
    refine ⟨g, ρ, h, rh, rs, (Pst.st (R := RT (ct X)) rs p).imp fun u H1 ⟨g1, v, h1, st, rh1, rs1, rv1, p1⟩ => ?_⟩
    refine ⟨g1, ρ, h1, rh1, rs1, (Pst.st (R := RT (ct X)) rs1 p1).imp fun u2 H2 ⟨g2, ov, h2, st2, rh2, rs2, rv2, p2⟩ => ?_⟩
    cases e1 : setF h2 cn f ov v with
    | none => rw [e1] at p2; exact p2.elim
    | some h3 =>
      rw [e1] at p2
      unfold setF at e1
      split at e1
      · rename_i n
        split at e1
        · rename_i c ns vs en
          split at e1
          · rename_i cc
            cases e1
            obtain ⟨a, ea, eo⟩ := rv2
            obtain ⟨nz, C, dx, us, m, hq, hl, rts⟩ := rh2.at' n _ a en ea
            rw [cc.1] at m
            obtain ⟨c1, c2⟩ := hcl C m
            have nk : ¬ g2.kp a := fun z => (rh2.kd a z).2 (List.mem_of_getElem? ea)
            have nt : ∀ ys, H2 a ≠ some (.tup ys) := fun ys z => by rw [hq] at z; cases z
            have stw : Stp g2 H2 g2 (upd H2 a (.ins C dx (putF f u (ns.zip us)))) := Stp.wr (c := ct X) nz nk nt
            refine ⟨a, C, dx, _, eo, hq, c1, c2, by rw [List.length_zip, ← hl, Nat.min_self]; exact cc.2, ?_⟩
            obtain ⟨z1, z2⟩ := putF_zip (f := f) (u := u) hl
            exact p2 g2 _ σ stw (rh2.wr ea nz nt ⟨nz, C, dx, putW ns us f u, by rw [cc.1]; exact m, by rw [upd_same, z1], z2, RTs.putW ((rv1.stp st2).stp stw) hl (rts.stp stw)⟩) (rs2.stp stw)
          · cases e1
        · cases e1
      · cases e1
/-- a method -/
structure OkM (P : Program) (w : World) (K : PySem.W.Frag) (mg : Str → Option Value) (base : Heap) (k : Nat) (cn m : Str) (n : Nat) (dws : List VV) (Fm : FF) : Prop where
  ex : ∃ (C f : Addr) (fd : FuncData) (ps : List Str) (dvs : List V) (ds : List Value), mg cn = some (.ref C) ∧ Cls K C ∧ Meth K C m f ∧ FnOk P w K mg base (L2N.CX P w) k f fd ps (spF ⟨K, mg⟩ n Fm) ∧ Binds K fd ps ds ∧ Vals dvs ds ∧ ∀ g H, RTs ⟨K, mg⟩ g H dws dvs
def X0 : XK := fun _ _ _ => False
theorem passes0 : Passes (L2N.CX X.prog X.w) X X0 := fun pins σ H s e s' I c => (cx_no c).elim
def eMeth (cn m : Str) (n : Nat) (F : FF) (dws : List VV) (fo : EF) (fa : AF) : EF := fun ρ h => (fo ρ h).bind fun v h1 => match insOf h1 v with
  | some a => if a.1 = cn ∧ lookN a.2.1 a.2.2 m = none then (fa ρ h1).bind fun vs h2 => if (v :: (vs ++ dws)).length = n then noX (F (v :: (vs ++ dws)) h2) else .no else .no
  | none => .no
end
end J
namespace J
open PySem L2
/-! a made thing, frozen through and through -/
def optM {α β : Type} (f : α → Option β) : List α → Option (List β)
  | [] => some []
  | x :: xs => (f x).bind fun y => (optM f xs).map fun r => y :: r
def dzV (h : VH) (n0 : Nat) : Nat → VV → Option VV
  | 0, _ => none
  | k + 1, .obj n => if n < n0 then none else match h[n]? with
    | some (.fzn v) => some v
    | some (.fl xs) => some (.lst xs)
    | some (.dT ks vs) => some (.dT ks vs)
    | some (.dK ks vs) => some (.dK ks vs)
    | some (.lo xs) => (optM (dzV h n0 k) xs).map .lst
    | some (.ins c ns vs) => (optM (dzV h n0 k) vs).map (.ins c ns)
    | none => none
  | _ + 1, v => some v
/-- frozen now: all that was, and the roots from n0 on -/
def zNew (g : Gh) (n0 : Nat) : Addr → Prop := fun q => g.fz q ∨ ∃ n, n0 ≤ n ∧ g.io[n]? = some q
theorem optM_rvs {c : Ct} {g : Gh} {H : Hp} {z : Addr → Prop} {f : VV → Option VV} (hf : ∀ v u w, RT c g H v u → f v = some w → RV c z H w u) : ∀ {vs : List VV} {us : List V} {ws : List VV}, RTs c g H vs us → optM f vs = some ws → RVs c z H ws us
  | [], us, ws, r, e => by
    cases e
    rw [show us = [] from r]
    exact RVs.nil
  | v :: vs, us, ws, r, e => by
    obtain ⟨u, q, rfl, a, b⟩ := r
    unfold optM at e
    obtain ⟨y, e1, e2⟩ := Option.bind_eq_some_iff.mp e
    obtain ⟨l, e3, e4⟩ := Option.map_eq_some_iff.mp e2
    subst e4
    exact RVs.cons (hf v u y a e1) (optM_rvs hf b e3)
theorem dz_ok {c : Ct} {g : Gh} {h : VH} {H : Hp} {n0 : Nat} (rh : RH c g h H) : ∀ (k : Nat) (v : VV) (u : V) (w : VV), RT c g H v u → dzV h n0 k v = some w → RV c (zNew g n0) H w u := by
  have up : ∀ {v u}, RV c g.fz H v u → RV c (zNew g n0) H v u := fun r => RV.stp (fun _ h => .inl h) (fun _ _ => .refl) (fun _ _ h => h) _ _ r
  have ups : ∀ {v u}, RVs c g.fz H v u → RVs c (zNew g n0) H v u := fun r => RVs.stp (fun _ h => .inl h) (fun _ _ => .refl) (fun _ _ h => h) _ _ r
  intro k
  induction k with
  | zero => intro v u w _ e; simp [dzV] at e
  | succ k ih =>
    intro v u w r e
    cases v with
    | obj n =>
      obtain ⟨a, ea, eu⟩ := r
      unfold dzV at e
      split at e
      · cases e
      · rename_i hn
        have za : zNew g n0 a := .inr ⟨n, by omega, ea⟩
        split at e
        · rename_i v en
          cases e
          obtain ⟨_, rv⟩ := rh.at' n _ a en ea
          rw [eu]; exact up rv
        · rename_i xs en
          cases e
          obtain ⟨_, us, hl, rvs⟩ := rh.at' n _ a en ea
          rw [RV]
          exact ⟨a, us, eu, za, hl, ups rvs⟩
        · rename_i ks vs en
          cases e
          obtain ⟨_, us, hl, ln, rvs⟩ := rh.at' n _ a en ea
          rw [RV]
          exact ⟨a, us, eu, za, (.inl hl), ln, ups rvs⟩
        · rename_i ks vs en
          cases e
          obtain ⟨_, us, hl, ln, rvs⟩ := rh.at' n _ a en ea
          rw [RV]
          exact ⟨a, us, eu, za, .inl hl, ln, ups rvs⟩
        · rename_i xs en
          obtain ⟨ws, e1, e2⟩ := Option.map_eq_some_iff.mp e
          subst e2
          obtain ⟨_, us, hl, rts⟩ := rh.at' n _ a en ea
          rw [RV]
          exact ⟨a, us, eu, za, hl, optM_rvs (fun v u w r e => ih v u w r e) rts e1⟩
        · rename_i x ns vs en
          obtain ⟨ws, e1, e2⟩ := Option.map_eq_some_iff.mp e
          subst e2
          obtain ⟨_, C, dx, us, m, hl, ln, rts⟩ := rh.at' n _ a en ea
          rw [RV]
          exact ⟨a, C, dx, us, eu, za, m, hl, ln, optM_rvs (fun v u w r e => ih v u w r e) rts e1⟩
        · cases e
    | _ =>
      unfold dzV at e
      cases e
      exact up (r.rv rfl)
/-- the roots from n0 on are gone, frozen -/
theorem melt {c : Ct} {g : Gh} {h : VH} {H : Hp} {n0 : Nat} (rh : RH c g h H) (hn : n0 ≤ h.length) (low : (h.take n0).all (lowO n0) = true) : RH c ⟨g.io.take n0, zNew g n0, g.kp⟩ (h.take n0) H := by
  have nd := rh.nd
  have sep : ∀ {n a}, n < n0 → g.io[n]? = some a → ¬ g.fz a → ¬ zNew g n0 a := by
    intro n a hlt ha nz z
    rcases z with z | ⟨m, hm, em⟩
    · exact nz z
    · have := nodup_inj nd ha em
      omega
  refine ⟨?_, ?_, fun n o a h1 h2 => ?_, fun q z => ?_, rh.kp, fun q z => ⟨fun y => ?_, fun y => (rh.kd q z).2 (List.mem_of_mem_take y)⟩, rh.tb, fun q z ps y => ?_⟩
  rotate_left 5
  · rcases z with (z | ⟨m, hm, em⟩) | z
    · exact rh.nt q (.inl z) ps y
    · exact rh.rootNt (List.mem_of_getElem? em) ps y
    · exact rh.nt q (.inr z) ps y
  · show (g.io.take n0).length = _
    rw [List.length_take, List.length_take, rh.len]
  · exact nd.sublist (List.take_sublist _ _)
  · have hlt : n < n0 := by
      have := (List.getElem?_eq_some_iff.mp h1).1
      rw [List.length_take] at this; omega
    have h1' : h[n]? = some o := by rw [List.getElem?_take_of_lt hlt] at h1; exact h1
    have h2' : g.io[n]? = some a := by
      have h2'' : (g.io.take n0)[n]? = some a := h2
      rw [List.getElem?_take_of_lt hlt] at h2''
      exact h2''
    have ro := rh.at' n o a h1' h2'
    have lo : lowO n0 o = true := List.all_eq_true.mp low o (List.mem_of_getElem? h1)
    have ups : ∀ {v u}, RVs c g.fz H v u → RVs c (zNew g n0) H v u := fun r => RVs.stp (fun _ h => .inl h) (fun _ _ => .refl) (fun _ _ h => h) _ _ r
    have upt : ∀ {vs us}, vs.all (lowV n0) = true → RTs c g H vs us → RTs c ⟨g.io.take n0, zNew g n0, g.kp⟩ H vs us := by
      intro vs
      induction vs with
      | nil => exact fun _ r => r
      | cons v vs ih =>
        intro us l r
        rw [List.all_cons, Bool.and_eq_true] at l
        obtain ⟨u, q, e, r1, r2⟩ := r
        refine ⟨u, q, e, ?_, ih l.2 r2⟩
        cases v with
        | obj m =>
          obtain ⟨b, eb, eu⟩ := r1
          refine ⟨b, ?_, eu⟩
          show (g.io.take n0)[m]? = some b
          rw [List.getElem?_take_of_lt (of_decide_eq_true l.1)]; exact eb
        | _ => exact RT.of_rv (RV.stp (fun _ h => .inl h) (fun _ _ => .refl) (fun _ _ h => h) _ _ (r1.rv rfl))
    cases o with
    | fzn v => exact ⟨.inl ro.1, RV.stp (fun _ h => .inl h) (fun _ _ => .refl) (fun _ _ h => h) _ _ ro.2⟩
    | fl xs =>
      obtain ⟨nz, us, q1, q2⟩ := ro
      exact ⟨sep hlt h2' nz, us, q1, ups q2⟩
    | lo xs =>
      obtain ⟨nz, us, q1, q2⟩ := ro
      exact ⟨sep hlt h2' nz, us, q1, upt lo q2⟩
    | dT ks vs =>
      obtain ⟨nz, us, q1, q2, q3⟩ := ro
      exact ⟨sep hlt h2' nz, us, q1, q2, ups q3⟩
    | dK ks vs =>
      obtain ⟨nz, us, q1, q2, q3⟩ := ro
      exact ⟨sep hlt h2' nz, us, q1, q2, ups q3⟩
    | ins x ns vs =>
      obtain ⟨nz, C, dx, us, q0, q1, q2, q3⟩ := ro
      exact ⟨sep hlt h2' nz, C, dx, us, q0, q1, q2, upt lo q3⟩
  · rcases z with z | ⟨m, hm, em⟩
    · exact rh.fz q z
    · exact rh.root (List.mem_of_getElem? em)
  · rcases y with y | ⟨m, hm, em⟩
    · exact (rh.kd q z).1 y
    · exact (rh.kd q z).2 (List.mem_of_getElem? em)
/-- a class that can be made -/
structure OkC (P : Program) (w : World) (K : PySem.W.Frag) (mg : Str → Option Value) (base : Heap) (k : Nat) (cn : Str) (n : Nat) (dws : List VV) (Fm : FF) : Prop where
  ex : ∃ (C f : Addr) (fd : FuncData) (ps : List Str) (dvs : List V) (ds : List Value), mg cn = some (.ref C) ∧ Mk K C f ∧ FnOk P w K mg base (L2N.CX P w) k f fd ps (spF ⟨K, mg⟩ n Fm) ∧ Binds K fd ps ds ∧ Vals dvs ds ∧ ∀ g H, RTs ⟨K, mg⟩ g H dws dvs
/-- made, and frozen at once -/
def mkZ (n0 : Nat) (r : Res VV) : Res VV := match r with
  | .ok .non h' => if n0 ≤ h'.length ∧ (h'.take n0).all (lowO n0) = true then (match dzV h' n0 8 (.obj n0) with
    | some w => .ok w (h'.take n0)
    | none => .no) else .no
  | _ => .no
def eMakeZ (cn : Str) (n : Nat) (F : FF) (dws : List VV) (fa : AF) : EF := fun ρ h => (fa ρ h).bind fun vs h1 => if (VV.obj h1.length :: (vs ++ dws)).length = n then mkZ h1.length (F (.obj h1.length :: (vs ++ dws)) (h1 ++ [.ins cn [] []])) else .no
section
variable {X : Cx} {W : WX}
theorem tMake_of {cn : Str} {n : Nat} {Fm : FF} {dws : List VV} {dvs : List V} {fa : AF} {C : Addr} (hC : X.mg cn = some (.ref C)) (hd : ∀ g H, RTs (ct X) g H dws dvs) {σ : St} {H : Hp} {Q : VK} (h : tE (ct X) W (eMakeZ cn n Fm dws fa) σ H Q) :
    tMake C (spF (ct X) n Fm) dvs X0 (tA (ct X) W fa) σ H Q := by
  obtain ⟨g, ρ, h0, rh, rs, p⟩ := h
  refine ⟨g, ρ, h0, rh, rs, (Pst.bind (R := RTs (ct X)) p).imp fun vs H1 ⟨g1, ws, h1, st, rh1, rts, p1⟩ x dx hx hdx ne => ?_⟩
  by_cases hn : (VV.obj h1.length :: (ws ++ dws)).length = n
  · rw [if_pos hn] at p1
    have s1 : Stp g1 H1 g1 (upd H1 dx (.own x)) := .junk rh1 hdx
    have r1 : RH (ct X) g1 h1 (upd H1 dx (.own x)) := rh1.junk hdx
    have hx' : upd H1 dx (.own x) x = none := by rw [upd_ne (Ne.symm ne)]; exact hx
    have s2 : Stp g1 (upd H1 dx (.own x)) g1 (upd (upd H1 dx (.own x)) x (.ins C dx [])) := .junk r1 hx'
    have r2 : RH (ct X) g1 h1 (upd (upd H1 dx (.own x)) x (.ins C dx [])) := r1.junk hx'
    have nx : x ∉ g1.io := fun z => by
      obtain ⟨o, e⟩ := rh1.root z
      rw [hx] at e; cases e
    have s3 : Stp g1 (upd (upd H1 dx (.own x)) x (.ins C dx [])) (g1.add x) (upd (upd H1 dx (.own x)) x (.ins C dx [])) := .add
    have r3 : RH (ct X) (g1.add x) (h1 ++ [.ins cn [] []]) (upd (upd H1 dx (.own x)) x (.ins C dx [])) := r2.add nx (fun z => by
      obtain ⟨o, e⟩ := rh1.kp x z
      rw [hx] at e; cases e) ⟨(fun z => by
        obtain ⟨o, e⟩ := rh1.fz x z
        rw [hx] at e; cases e), C, dx, [], hC, upd_same, rfl, rfl⟩
    have ss := (s1.trans s2).trans s3
    have rx : RT (ct X) (g1.add x) (upd (upd H1 dx (.own x)) x (.ins C dx [])) (.obj h1.length) (.ref x) := ⟨x, by
      show (g1.io ++ [x])[h1.length]? = some x
      rw [← rh1.len, List.getElem?_append_right (Nat.le_refl _), Nat.sub_self]; rfl, rfl⟩
    refine ⟨g1.add x, .obj h1.length :: (ws ++ dws), h1 ++ [.ins cn [] []], r3, ⟨.ref x, _, rfl, rx, RTs.append (rts.stp ss) (hd _ _)⟩, hn, ?_⟩
    generalize Fm (.obj h1.length :: (ws ++ dws)) (h1 ++ [.ins cn [] []]) = r at p1 ⊢
    cases r with
    | no => exact p1
    | exc => exact p1.elim
    | ok v h' =>
      intro g' H' u st' rh' rv'
      cases v with
      | non =>
        refine ⟨non_get rv', ?_⟩
        unfold mkZ at p1
        simp only at p1
        split at p1
        · rename_i cc
          cases e : dzV h' h1.length 8 (.obj h1.length) with
          | none => rw [e] at p1; exact p1.elim
          | some w =>
            rw [e] at p1
            have rx' : RT (ct X) g' H' (.obj h1.length) (.ref x) := rx.stp st'
            have rw' := dz_ok rh' 8 _ _ _ rx' e
            have rhm := melt rh' cc.1 cc.2
            have eio : g'.io.take h1.length = g1.io := by
              obtain ⟨l, hl⟩ := (ss.trans st').io
              rw [← hl, ← rh1.len, List.take_left]
            have all := ss.trans st'
            refine p1 ⟨g'.io.take h1.length, zNew g' h1.length, g'.kp⟩ H' (.ref x) ⟨by show g1.io <+: g'.io.take h1.length; rw [eio]; exact List.prefix_rfl, fun q z => .inl (all.fz q z), all.kp, all.fH, all.kH, all.tp⟩ rhm (RT.of_rv rw')
        · exact p1.elim
      | _ => exact p1.elim
  · rw [if_neg hn] at p1; exact p1.elim
theorem j_make {k n : Nat} {cn : Str} {Fm : FF} {dws : List VV} {e : Expr} {es : List Expr} {p pos : Pos} {fa : AF} (O : OkC X.prog X.w X.K X.mg X.base k cn n dws Fm) (hr : Room (k + 1) X.A) (hg : Gl X cn) (ha : PA X (e :: es) (tA (ct X) W fa))
    (hdb : (cn == ("__debug__" : Str)) = false := by decide) (he : starEach (e :: es) X.env = (false, eval e X.env) :: starEach es X.env := by rfl) (hpl : (backTo pos (starEach es X.env)).any (·.1) = false := by rfl) :
    PE X (.Call (.Name cn p) (e :: es) [] pos) (tE (ct X) W (eMakeZ cn n Fm dws fa)) := by
  obtain ⟨C, f, fd, ps, dvs, ds, h1, h2, h4, h5, h6, h7⟩ := O.ex
  exact PE.mono (pe_make (E := X0) h2 h4 hr hg h1 h5 h6 passes0 ha hdb he hpl) fun σ H Q h => tMake_of h1 h7 h
end
end J
namespace J
open PySem L2
section
variable {X : Cx} {W : WX}
/-! xs.pop(i), xs a root -/
def popI (h : VH) (o i : VV) : Option (VV × VH) := match o, i with
  | .obj n, .int k => match h[n]? with
    | some (.fl xs) => if 0 ≤ k ∧ k < xs.length ∧ k < 2 ^ 62 then (xs[k.toNat]?).map fun v => (v, h.set n (.fl (xs.eraseIdx k.toNat))) else none
    | _ => none
  | _, _ => none
theorem popI_some {h h' : VH} {o i v : VV} (e : popI h o i = some (v, h')) : ∃ n k xs, o = .obj n ∧ i = .int k ∧ h[n]? = some (.fl xs) ∧ (0 ≤ k ∧ k < xs.length ∧ k < 2 ^ 62) ∧ xs[k.toNat]? = some v ∧ h' = h.set n (.fl (xs.eraseIdx k.toNat)) := by
  unfold popI at e
  split at e
  · split at e
    · rename_i en
      split at e
      · rename_i cc
        obtain ⟨w', e3, e4⟩ := Option.map_eq_some_iff.mp e
        cases e4
        exact ⟨_, _, _, rfl, rfl, en, cc, e3, rfl⟩
      · cases e
    · cases e
  · cases e
def ePop (fo fi : EF) : EF := fun ρ h => (fo ρ h).bind fun ov h1 => match lstOf h1 ov with
  | none => .no
  | some _ => (fi ρ h1).bind fun iv h2 => match popI h2 ov iv with
    | some (v, h3) => .ok v h3
    | none => .no
theorem RVs.eraseIdx {c : Ct} {z : Addr → Prop} {H : Hp} : ∀ {vs : List VV} {us : List V} {k : Nat}, RVs c z H vs us → RVs c z H (vs.eraseIdx k) (us.eraseIdx k)
  | [], us, k, r => by rw [RVs] at r; subst r; simp only [List.eraseIdx_nil]; exact RVs.nil
  | v :: vs, us, k, r => by
    rw [RVs] at r
    obtain ⟨u, q, rfl, a, b⟩ := r
    cases k with
    | zero => simp only [List.eraseIdx_cons_zero]; exact b
    | succ k => simp only [List.eraseIdx_cons_succ]; exact RVs.cons a (RVs.eraseIdx b)
theorem j_pop {o e : Expr} {fo fe : EF} {apos cpos : Pos} (ho : PE X o (tE (ct X) W fo)) (ha : PE X e (tE (ct X) W fe)) (hs1 : starEach (e :: []) X.env = (false, eval e X.env) :: starEach [] X.env := by rfl)
    (hbase : attributeBase o "pop" X.env (eval o X.env) = eval o X.env := by rfl)
    (hfew : ((backTo cpos (starEach [e] X.env)).all (fun x => !x.1) && (backToKw cpos (keywordEach [] X.env)).all (fun x => x.1.isSome)
      && decide ([e].length + ([] : List Keyword).length + (if ([] : List Keyword).isEmpty then 0 else 1) < 30)) = true := by rfl)
    (hline : (apos.endLine == cpos.line) = true := by rfl) (hplain : (backTo cpos (starEach [] X.env)).any (·.1) = false := by rfl) :
    PE X (.Call (.Attribute o "pop" apos) [e] [] cpos) (tE (ct X) W (ePop fo fe)) :=
  PE.mono (pe_bm PySem.F.plainAttrs_list PySem.F.slot_list_pop PySem.F.type_list_pop mt_popAt ho (pa_cons ha pa_nil hs1) hbase hfew hline hs1 hplain) fun σ H Q ⟨g, ρ, h0, rh, rs, p⟩ => by
    refine ⟨g, ρ, h0, rh, rs, (Pst.bind (R := RT (ct X)) p).imp fun u H1 ⟨g1, ov, h1, st, rh1, rv1, p1⟩ => ?_⟩
    cases e : lstOf h1 ov with
    | none => rw [e] at p1; exact p1.elim
    | some ys =>
      rw [e] at p1
      obtain ⟨a, us, eu, sq, rvs⟩ := lstOf_get rh1 rv1 e
      refine ⟨by rw [eu]; exact .inl ⟨rfl, us, sq⟩, g1, ρ, h1, rh1, rs.stp st, (Pst.bind (R := RT (ct X)) p1).imp fun u2 H2 ⟨g2, v, h2, st2, rh2, rv2, p2⟩ => ?_⟩
      cases e2 : popI h2 ov v with
      | none => rw [e2] at p2; exact p2.elim
      | some vh =>
        obtain ⟨w, h3⟩ := vh
        rw [e2] at p2
        obtain ⟨n, k, xs, rfl, rfl, en, cc, e3, rfl⟩ := popI_some e2
        obtain ⟨b, eb, eu'⟩ := rv1.stp st2
        obtain ⟨nz, ws, hl, rws⟩ := rh2.at' n _ b en eb
        have nk : ¬ g2.kp b := fun z => (rh2.kd b z).2 (List.mem_of_getElem? eb)
        have nt : ∀ ys, H2 b ≠ some (.tup ys) := fun ys z => by rw [hl] at z; cases z
        have stw : Stp g2 H2 g2 (upd H2 b (.lst (ws.eraseIdx k.toNat))) := Stp.wr (c := ct X) nz nk nt
        obtain ⟨y, ey, ry⟩ := rws.get e3
        have hln := rws.len
        refine ⟨b, ws, k, k.toNat, y, eu', by rw [int_get rv2], hl, by omega, by omega, ?_, ey, ?_⟩
        · unfold seqIndex?
          rw [← hln]
          have c1 : ¬ k < 0 := by omega
          have c2 : (0 ≤ k && k < (xs.length : Int)) = true := by
            rw [Bool.and_eq_true, decide_eq_true_eq, decide_eq_true_eq]; exact ⟨cc.1, cc.2.1⟩
          simp only [if_neg c1, c2, if_true]
        · exact p2 g2 _ y stw (rh2.wr eb nz nt ⟨nz, _, upd_same, stw.rvs (RVs.eraseIdx rws)⟩) (RT.of_rv (stw.rv ry))
end
end J
namespace J
open PySem L2
open PyProof.Rows (envOfC)
/-! a root, frozen through and through -/
def frzL (f : VH → VV → Option (VV × VH)) : VH → List VV → Option (List VV × VH)
  | h, [] => some ([], h)
  | h, v :: vs => match f h v with
    | some (w, h1) => match frzL f h1 vs with
      | some (ws, h2) => some (w :: ws, h2)
      | none => none
    | none => none
def frzV : Nat → VH → VV → Option (VV × VH)
  | 0, _, _ => none
  | k + 1, h, .obj n => match h[n]? with
    | some (.fzn w) => some (w, h)
    | some (.fl xs) => some (.lst xs, h.set n (.fzn (.lst xs)))
    | some (.dT ks vs) => some (.dT ks vs, h.set n (.fzn (.dT ks vs)))
    | some (.dK ks vs) => some (.dK ks vs, h.set n (.fzn (.dK ks vs)))
    | some (.lo xs) => match frzL (frzV k) h xs with
      | some (ys, h') => some (.lst ys, h'.set n (.fzn (.lst ys)))
      | none => none
    | some (.ins c ns vs) => match frzL (frzV k) h vs with
      | some (ys, h') => some (.ins c ns ys, h'.set n (.fzn (.ins c ns ys)))
      | none => none
    | none => none
  | _ + 1, h, v => some (v, h)
def FrzOk (c : Ct) (H : Hp) (f : VH → VV → Option (VV × VH)) : Prop := ∀ g h v u w h', RH c g h H → RT c g H v u → f h v = some (w, h') → ∃ g', Stp g H g' H ∧ g'.io = g.io ∧ RH c g' h' H ∧ RV c g'.fz H w u
theorem frzL_ok {c : Ct} {H : Hp} {f : VH → VV → Option (VV × VH)} (hf : FrzOk c H f) : ∀ (vs : List VV) (us : List V) (g : Gh) (h : VH) (ws : List VV) (h' : VH), RH c g h H → RTs c g H vs us → frzL f h vs = some (ws, h') → ∃ g', Stp g H g' H ∧ g'.io = g.io ∧ RH c g' h' H ∧ RVs c g'.fz H ws us
  | [], us, g, h, ws, h', rh, r, e => by
    unfold frzL at e
    cases e
    rw [show us = [] from r]
    exact ⟨g, .refl, rfl, rh, RVs.nil⟩
  | v :: vs, us, g, h, ws, h', rh, r, e => by
    obtain ⟨u, q, rfl, a, b⟩ := r
    unfold frzL at e
    split at e
    · rename_i w h1 e1
      obtain ⟨g1, s1, i1, r1, v1⟩ := hf g h v u w h1 rh a e1
      split at e
      · rename_i ws' h2 e2
        cases e
        obtain ⟨g2, s2, i2, r2, v2⟩ := frzL_ok hf vs q g1 h1 _ _ r1 (b.stp s1) e2
        exact ⟨g2, s1.trans s2, i2.trans i1, r2, RVs.cons (s2.rv v1) v2⟩
      · cases e
    · cases e
theorem frzV_ok {c : Ct} {H : Hp} : ∀ k : Nat, FrzOk c H (frzV k)
  | 0 => fun g h v u w h' _ _ e => by simp [frzV] at e
  | k + 1 => fun g h v u w h' rh r e => by
    cases v with
    | obj n =>
      obtain ⟨a, ea, eu⟩ := r
      unfold frzV at e
      split at e
      · rename_i w' en
        cases e
        obtain ⟨fa, rv⟩ := rh.at' n _ a en ea
        exact ⟨g, .refl, rfl, rh, by rw [eu]; exact rv⟩
      · rename_i xs en
        cases e
        obtain ⟨nz, us, hl, rvs⟩ := rh.at' n _ a en ea
        have rv : RV c (g.frz a).fz H (.lst xs) (.ref a) := by
          rw [RV]
          exact ⟨a, us, rfl, .inr rfl, hl, (Stp.kill (p := a)).rvs rvs⟩
        exact ⟨g.frz a, .kill, rfl, rh.kill ea rv, by rw [eu]; exact rv⟩
      · rename_i ks vs en
        cases e
        obtain ⟨nz, us, hl, ln, rvs⟩ := rh.at' n _ a en ea
        have rv : RV c (g.frz a).fz H (.dT ks vs) (.ref a) := by
          rw [RV]
          exact ⟨a, us, rfl, .inr rfl, .inl hl, ln, (Stp.kill (p := a)).rvs rvs⟩
        exact ⟨g.frz a, .kill, rfl, rh.kill ea rv, by rw [eu]; exact rv⟩
      · rename_i ks vs en
        cases e
        obtain ⟨nz, us, hl, ln, rvs⟩ := rh.at' n _ a en ea
        have rv : RV c (g.frz a).fz H (.dK ks vs) (.ref a) := by
          rw [RV]
          exact ⟨a, us, rfl, (.inr rfl), .inl hl, ln, (Stp.kill (p := a)).rvs rvs⟩
        exact ⟨g.frz a, .kill, rfl, rh.kill ea rv, by rw [eu]; exact rv⟩
      · rename_i xs en
        obtain ⟨nz, us, hl, rts⟩ := rh.at' n _ a en ea
        split at e
        · rename_i ys h1 e1
          cases e
          obtain ⟨g1, s1, i1, r1, v1⟩ := frzL_ok (frzV_ok k) xs us g h ys h1 rh rts e1
          have rv : RV c (g1.frz a).fz H (.lst ys) (.ref a) := by
            rw [RV]
            exact ⟨a, us, rfl, .inr rfl, hl, (Stp.kill (p := a)).rvs v1⟩
          exact ⟨g1.frz a, s1.trans .kill, i1, r1.kill (by rw [i1]; exact ea) rv, by rw [eu]; exact rv⟩
        · cases e
      · rename_i x ns vs en
        obtain ⟨nz, C, dx, us, m, hl, ln, rts⟩ := rh.at' n _ a en ea
        split at e
        · rename_i ys h1 e1
          cases e
          obtain ⟨g1, s1, i1, r1, v1⟩ := frzL_ok (frzV_ok k) vs us g h ys h1 rh rts e1
          have rv : RV c (g1.frz a).fz H (.ins x ns ys) (.ref a) := by
            rw [RV]
            exact ⟨a, C, dx, us, rfl, .inr rfl, m, hl, ln, (Stp.kill (p := a)).rvs v1⟩
          exact ⟨g1.frz a, s1.trans .kill, i1, r1.kill (by rw [i1]; exact ea) rv, by rw [eu]; exact rv⟩
        · cases e
      · cases e
    | _ =>
      unfold frzV at e
      cases e
      exact ⟨g, .refl, rfl, rh, r.rv rfl⟩
def frzR (v : VV) (h : VH) : Res VV := match frzV 4 h v with
  | some (w, h2) => .ok w h2
  | none => .no
def eFrzD (f : EF) : EF := fun ρ h => (f ρ h).bind frzR
section
variable {X : Cx} {W : WX}
theorem j_frzD {e : Expr} {f : EF} (h : PE X e (tE (ct X) W f)) : PE X e (tE (ct X) W (eFrzD f)) :=
  PE.mono h fun σ H Q ⟨g, ρ, h0, rh, rs, p⟩ => by
    refine ⟨g, ρ, h0, rh, rs, (Pst.bind (R := RT (ct X)) p).imp fun u H1 ⟨g1, v, h1, st, rh1, rv1, p1⟩ => ?_⟩
    unfold frzR at p1
    split at p1
    · rename_i w h2 e
      obtain ⟨g2, s2, _, r2, v2⟩ := frzV_ok 4 g1 h1 v u w h2 rh1 rv1 e
      exact p1 g2 H1 u s2 r2 (RT.of_rv v2)
    · exact p1.elim
end
/-! comprehensions whose elements may be roots -/
def lcGoR (b : VV → VSt → Option VSt) (t : TF) (e : EF) (ρ : VSt) : List VV → VH → Res (List VV)
  | [], h => .ok [] h
  | x :: xs, h => match b x ρ with
    | none => .no
    | some ρ' => (t ρ' h).bind fun k h1 => if k = true then (e ρ' h1).bind fun v h2 => (lcGoR b t e ρ xs h2).bind fun vs h3 => .ok (v :: vs) h3 else lcGoR b t e ρ xs h1
def eLcR (own : List Nat) (it : AF) (b : VV → VSt → Option VSt) (t : TF) (e : EF) : EF := fun ρ h => (it ρ h).bind fun xs h1 => if xs.length > SZ then .no else match lcGoR b t e (wp ρ own) xs h1 with
  | .ok vs h2 => .ok (.obj h2.length) (h2 ++ [.lo vs])
  | _ => .no
/-- the loop of a comprehension, whatever is made of the new list -/
theorem lc_runR {c : Ct} {W0 : WX} {Wx : WX} {own : List Nat} {b : VV → VSt → Option VSt} {ft : TF} {fe : EF} {tg : TG} {J : It} {xs : List VV} {ρ : VSt} {σ : St} {g : Gh} {h : VH} {H1 : Hp} {D : Addr} {Q : VK} {K : PySem.W.Frag}
    (hW : ∀ a d s h, W0 a d s h → False) (ek : c.K = K) (pat : PatOk K tg b own) (dl : Deliv c g H1 xs J) (hsz : xs.length ≤ SZ) (rh : RH c g h H1) (rs : RS c g H1 ρ σ) (hD : H1 D = none)
    (fin : match lcGoR b ft fe (wp ρ own) xs h with
      | .ok vs h' => ∀ g' H' us, Stp g H1 g' H' → RH c g' h' H' → H' D = some (.lst us) → ¬ g'.fz D → D ∉ g'.io → ¬ g'.kp D → RTs c g' H' vs us → Q (.ref D) H'
      | _ => False) :
    ∃ Wv : Nat → Nat → Hp → Prop, (∃ m, Wv 0 m (upd H1 D (.lst []))) ∧ ∀ i m H, Wv i m H →
      (J.stop i H ∧ Q (.ref D) H) ∨ (J.go i H ∧ ∃ Nx : Hp → Prop, (∀ H', Nx H' → ∃ m', m' < m ∧ Wv (i + 1) m' H') ∧ ∀ x H', J.yld i H x H' → tg x (wipe σ own) H' fun σ2 H2 => wipe σ2 own = wipe σ own ∧ tT c W0 ft σ2 H2 fun bb H3 =>
        if bb = true then tE c W0 fe σ2 H3 fun y H4 => ∃ acc, H4 D = some (.lst acc) ∧ acc.length < sizeLine ∧ Nx (upd H4 D (.lst (acc ++ [y]))) else Nx H3) := by
  -- the invariant
  let P : Nat → Hp → Prop := fun i H => ∃ (gi : Gh) (hi : VH) (acc : List VV) (us : List V), acc.length ≤ i ∧ Stp g H1 gi H ∧ RH c gi hi H ∧ H D = some (.lst us) ∧ ¬ gi.fz D ∧ D ∉ gi.io ∧ ¬ gi.kp D ∧ RTs c gi H acc us ∧
    (match lcGoR b ft fe (wp ρ own) (xs.drop i) hi with
      | .ok vs h' => ∀ g' H' us, Stp gi H g' H' → RH c g' h' H' → H' D = some (.lst us) → ¬ g'.fz D → D ∉ g'.io → ¬ g'.kp D → RTs c g' H' (acc ++ vs) us → Q (.ref D) H'
      | _ => False)
  refine ⟨fun i m H => m = xs.length - i ∧ i ≤ xs.length ∧ P i H, ⟨xs.length, by simp, Nat.zero_le _, ?_⟩, ?_⟩
  · refine ⟨g, h, [], [], Nat.le_refl _, .junk rh hD, rh.junk hD, upd_same, fun z => ?_, fun z => ?_, fun z => ?_, rfl, ?_⟩
    · obtain ⟨o, e⟩ := rh.fz D z; rw [hD] at e; cases e
    · obtain ⟨o, e⟩ := rh.root z; rw [hD] at e; cases e
    · obtain ⟨o, e⟩ := rh.kp D z; rw [hD] at e; cases e
    · rw [List.drop_zero]
      generalize lcGoR b ft fe (wp ρ own) xs h = r at fin ⊢
      cases r with
      | ok vs h' =>
        intro g' H' us st
        rw [List.nil_append]
        exact fin g' H' us ((Stp.junk rh hD).trans st)
      | no => exact fin
      | exc _ _ _ _ => exact fin
  · rintro i m H ⟨rfl, hi, gi, hh, acc, us, hacc, st, rhi, hDl, nf, ni, nk, rvs, fin⟩
    by_cases hlt : i < xs.length
    · refine .inr ⟨dl.go gi H st.f i hlt, P (i + 1), fun H' p' => ⟨xs.length - (i + 1), by omega, rfl, hlt, p'⟩, fun x H' y => ?_⟩
      have ed : xs.drop i = xs[i] :: xs.drop (i + 1) := List.drop_eq_getElem_cons hlt
      have rhk : RH c (gi.keep D) hh H := rhi.keep hDl nf ni
      have stk : Stp g H1 (gi.keep D) H := st.trans .keep
      obtain ⟨g1, st1, rh1, rt1⟩ := dl.yld (gi.keep D) H stk.f i xs[i] hh (List.getElem?_eq_getElem hlt) rhk x H' y
      rw [ed] at fin
      unfold lcGoR at fin
      cases e : b xs[i] (wp ρ own) with
      | none => rw [e] at fin; exact fin.elim
      | some ρ' =>
        rw [e] at fin
        simp only at fin
        have rs1 : RS c g1 H' (wp ρ own) (wipe σ own) := ((rs.wipe own).stp stk).stp st1
        refine pat.run c g1 hh H' _ _ _ _ ρ' ek rh1 rs1 rt1 e _ fun σ2 rs2 o2 l2 => ⟨?_, ?_⟩
        · refine wipe_same (l2.trans (wipe_length _ _)) fun j hj => (o2 j hj).trans (wipe_out hj)
        · refine ⟨g1, ρ', hh, rh1, rs2, ?_⟩
          cases et : ft ρ' hh with
          | no => rw [et] at fin; exact fin.elim
          | exc _ _ _ _ => rw [et] at fin; exact fin.elim
          | ok k h1 =>
            rw [et] at fin
            intro g2 H2 bb st2 rh2 eb
            cases (show bb = k from eb)
            -- D is kept
            have hD2 : H2 D = some (.lst us) := by rw [st2.kH D (st1.kp D (.inr rfl)), st1.kH D (.inr rfl)]; exact hDl
            have kD2 : g2.kp D := st2.kp D (st1.kp D (.inr rfl))
            have s12 : Stp (gi.keep D) H g2 H2 := st1.trans st2
            cases k with
            | false =>
              rw [if_neg Bool.false_ne_true]
              have fin' : match lcGoR b ft fe (wp ρ own) (xs.drop (i + 1)) h1 with
                | .ok vs h' => ∀ g' H' us, Stp gi H g' H' → RH c g' h' H' → H' D = some (.lst us) → ¬ g'.fz D → D ∉ g'.io → ¬ g'.kp D → RTs c g' H' (acc ++ vs) us → Q (.ref D) H'
                | _ => False := by
                simp only [Res.bind, if_neg Bool.false_ne_true] at fin; exact fin
              refine ⟨g2.back gi.kp, h1, acc, us, Nat.le_succ_of_le hacc, st.trans s12.back, rh2.back (fun p z => s12.kp p (.inl z)), hD2, (rh2.kd D kD2).1, (rh2.kd D kD2).2, nk, RTs.back ((RTs.back (k := (gi.keep D).kp) rvs).stp s12), ?_⟩
              generalize lcGoR b ft fe (wp ρ own) (xs.drop (i + 1)) h1 = r at fin' ⊢
              cases r with
              | ok vs h' => exact fun g' H' us' st' => fin' g' H' us' (s12.back.trans st')
              | no => exact fin'
              | exc _ _ _ _ => exact fin'
            | true =>
              rw [if_pos rfl]
              refine ⟨g2, ρ', h1, rh2, rs2.stp st2, ?_⟩
              simp only [Res.bind, if_pos rfl] at fin
              cases ee : fe ρ' h1 with
              | no => rw [ee] at fin; exact fin.elim
              | exc _ _ _ _ => rw [ee] at fin; exact fin.elim
              | ok v h2 =>
                rw [ee] at fin
                simp only at fin
                intro g3 H3 yv st3 rh3 rv3
                have s13 : Stp (gi.keep D) H g3 H3 := s12.trans st3
                have kD3 : g3.kp D := st3.kp D kD2
                have hD3 : H3 D = some (.lst us) := by rw [st3.kH D kD2]; exact hD2
                have rvs3 : RTs c g3 H3 acc us := (RTs.back (k := (gi.keep D).kp) rvs).stp s13
                have nf3 := (rh3.kd D kD3).1
                have ni3 := (rh3.kd D kD3).2
                refine ⟨us, hD3, by rw [← rvs.len]; exact SZ_lt (by omega), ?_⟩
                -- write D
                have sw : Stp (g3.back gi.kp) H3 (g3.back gi.kp) (upd H3 D (.lst (us ++ [yv]))) := Stp.wr (c := c) (g := g3.back gi.kp) nf3 nk (fun ys z => by rw [hD3] at z; cases z)
                have rhb : RH c (g3.back gi.kp) h2 H3 := rh3.back (fun p z => s13.kp p (.inl z))
                have rhw : RH c (g3.back gi.kp) h2 (upd H3 D (.lst (us ++ [yv]))) := by
                  refine ⟨rhb.len, rhb.nd, fun n o a q1 q2 => ?_, fun q z => ?_, fun q z => ?_, rhb.kd, rhb.tb.upd (by rw [hD3]; exact noTab_of (fun _ z => by cases z) (fun _ z => by cases z)), fun q z ps y => rhb.nt q z ps (by rw [upd_ne (show q ≠ D from fun e => z.elim (fun z => nf3 (e ▸ z)) (fun z => nk (e ▸ z)))] at y; exact y)⟩
                  · have na : a ≠ D := fun z => ni3 (z ▸ List.mem_of_getElem? q2)
                    exact RO.stp sw (fun h => h) (upd_ne na) (rhb.at' n o a q1 q2)
                  · rw [upd_ne (show q ≠ D from fun e => nf3 (e ▸ z))]; exact rhb.fz q z
                  · rw [upd_ne (show q ≠ D from fun e => nk (e ▸ z))]; exact rhb.kp q z
                refine ⟨g3.back gi.kp, h2, acc ++ [v], us ++ [yv], by rw [List.length_append]; simp; omega, (st.trans s13.back).trans sw, rhw, upd_same, nf3, ni3, nk, ?_, ?_⟩
                · exact (RTs.app (RTs.back (k := gi.kp) rvs3) (RTs.one (RT.back rfl rfl rv3))).stp sw
                · generalize lcGoR b ft fe (wp ρ own) (xs.drop (i + 1)) h2 = r at fin ⊢
                  cases r with
                  | ok vs h' =>
                    intro g' H' us' st' rh' d1 d2 d3 d4 rv'
                    rw [List.append_assoc] at rv'
                    exact fin g' H' us' ((s13.back.trans sw).trans st') rh' d1 d2 d3 d4 rv'
                  | no => exact fin
                  | exc _ _ _ _ => exact fin
    · have e : i = xs.length := by omega
      subst e
      refine .inl ⟨dl.stop gi H st.f _ (Nat.le_refl _), ?_⟩
      rw [List.drop_length] at fin
      unfold lcGoR at fin
      refine fin gi H us .refl rhi hDl nf ni nk ?_
      rw [List.append_nil]; exact rvs
section
variable {X : Cx} {W : WX}
theorem tLcR_of {own : List Nat} {it : AF} {b : VV → VSt → Option VSt} {ft : TF} {fe : EF} {tg : TG} (pat : PatOk X.K tg b own)
    {σ : St} {H : Hp} {Q : VK} (h : tE (ct X) W (eLcR own it b ft fe) σ H Q) :
    tLc (tI (ct X) W it) tg (tT (ct X) W0 ft) (tE (ct X) W0 fe) own σ H Q := by
  obtain ⟨g, ρ, h0, rh, rs, p⟩ := tG.bind (R := fun g H xs J => Deliv (ct X) g H xs J) (f := it) (k := fun (xs : List VV) ρ h1 => if xs.length > SZ then .no else (match lcGoR b ft fe (wp ρ own) xs h1 with
      | .ok vs h2 => Res.ok (VV.obj h2.length) (h2 ++ [VO.lo vs])
      | _ => .no)) h
  refine ⟨g, ρ, h0, rh, rs, p.imp fun J H1 ⟨g1, ρ1, xs, h1, rh1, rs1, dl, p1⟩ D hD => ?_⟩
  by_cases hz : xs.length > SZ
  · rw [if_pos hz] at p1; exact p1.elim
  · rw [if_neg hz] at p1
    refine lc_runR (Wx := W) (fun _ _ _ _ z => z) rfl pat dl (by omega) rh1 rs1 hD ?_
    generalize lcGoR b ft fe (wp ρ1 own) xs h1 = r at p1 ⊢
    cases r with
    | ok vs h' =>
      intro g' H' us st rh' e nf ni nk rv'
      have q := Pst.step st p1
      refine q (g'.add D) H' (.ref D) .add (rh'.add ni nk ⟨nf, us, e, rv'.stp .add⟩) ⟨D, ?_, rfl⟩
      show (g'.io ++ [D])[h'.length]? = some D
      rw [← rh'.len, List.getElem?_append_right (Nat.le_refl _), Nat.sub_self]; rfl
    | no => exact p1
    | exc _ _ _ _ => exact p1
theorem j_lcR {elt tg iter : Expr} {ifs : List Expr} {scope : Scope} {own : List (Str × Nat)} {pos : Pos} {it : AF} {g : TG} {b : VV → VSt → Option VSt} {ft : TF} {fe : EF} (hc : X.calm = true) (hN : X.N.Nodup) (hi : PI X tg iter (tI (ct X) W it)) (ok : BlkOk X.N X.env.scope scope own)
    (hg : ∀ (s : Shared) (H : Hp) (C : Addr) (cl : List (Str × Addr)) (fp : List Addr), PG (X.blk s H scope (compEnvC scope cl C X.env) fp) tg g) (pat : PatOk X.K g b (own.map (·.2)))
    (ht : ∀ (s : Shared) (H : Hp) (C : Addr) (cl : List (Str × Addr)) (fp : List Addr), PTs (X.blk s H scope (compEnvC scope cl C X.env) fp) ifs (tT (ct X) W0 ft))
    (he : ∀ (s : Shared) (H : Hp) (C : Addr) (cl : List (Str × Addr)) (fp : List Addr), PE (X.blk s H scope (compEnvC scope cl C X.env) fp) elt (tE (ct X) W0 fe)) (hs : ∀ x, foldedSetIterable iter X.env x = pure x := by intro _; rfl) :
    PE X (.ListComp elt [⟨tg, iter, ifs, 0⟩] scope pos) (tE (ct X) W (eLcR (own.map (·.2)) it b ft fe)) :=
  PE.mono (pe_lc hc hN hi ok hg ht he hs) fun σ H Q h => tLcR_of pat h
end
end J
namespace J
open PySem L2
open PyProof.Rows (envOfC)
/-! calls with keywords -/
section
variable {X : Cx} {W : WX}
theorem PK.mono {e : List Keyword} {t t' : TA} (h : PK X e t) (m : ∀ σ H Q, t' σ H Q → t σ H Q) : PK X e t' := ⟨fun pos pins s σ H Q I q => h.run pos pins s σ H Q I (m σ H Q q)⟩
/-- positional values, then the keywords' -/
def aApp (n m : Nat) (a b : AF) : AF := fun ρ h => (a ρ h).bind fun vs h1 => (b ρ h1).bind fun ws h2 => if vs.length = n ∧ ws.length = m then .ok (vs ++ ws) h2 else .no
end
section
variable {X : Cx} {W : WX}
/-! xs[i] op= e, xs a root -/
/-- o[i] += e, ints -/
def augV (fe : EF) (ρ : VSt) (ov iv : VV) (h2 : VH) : SR := if ov.isObj = true then (match opIx h2 ov iv with
  | some (.int a) => (fe ρ h2).st ρ fun v h3 => match v with
    | .int b => match setI h3 ov iv (.int (a + b)) with
      | some h4 => .nx ρ h4
      | none => .no
    | _ => .no
  | _ => .no) else .no
def sAugI (o i e : EF) : SF := fun ρ h => (o ρ h).st ρ fun ov h1 => (i ρ h1).st ρ fun iv h2 => augV e ρ ov iv h2
end
end J
namespace J
open PySem L2
open PyProof.Rows (envOfC)
/-! x in y -/
def seqV (h : VH) : VV → Option (List VV)
  | .tup xs => some xs
  | v => lstOf h v
theorem seqV_get {c : Ct} {g : Gh} {h : VH} {H : Hp} {v : VV} {u : V} {xs : List VV} (rh : RH c g h H) (rv : RT c g H v u) (e : seqV h v = some xs) : ∃ p us, u = .ref p ∧ (SqL c.K H p us ∨ SqT c.K H p us) ∧ RVs c g.fz H xs us := by
  have old : lstOf h v = some xs → ∃ p us, u = .ref p ∧ (SqL c.K H p us ∨ SqT c.K H p us) ∧ RVs c g.fz H xs us := fun e => by
    obtain ⟨p, us, a, b, r⟩ := lstOf_get rh rv e
    exact ⟨p, us, a, .inl b, r⟩
  cases v with
  | tup ys =>
    cases e
    obtain ⟨p, us, a, b, r⟩ := tup_get rv
    exact ⟨p, us, a, .inr b.sq, r⟩
  | _ => exact old e
theorem any_dec {α : Type} [DecidableEq α] (x : α) : ∀ l : List α, (l.any fun y => decide (y = x)) = decide (x ∈ l)
  | [] => rfl
  | y :: l => by
    rw [List.any_cons, any_dec x l]
    by_cases h : y = x
    · subst h; simp
    · simp [h, Ne.symm h]
section
variable {X : Cx} {W : WX}
/-! min, int -/
def cMin : OpN := fun _ vs => match vs with
  | [.int i, .int j] => some (.int (if j < i then j else i))
  | _ => none
theorem cr_minJ (hc : X.calm = true) : CallR X (.builtin "min") (RdN (ct X) cMin) :=
  CallR.imp (call_min2 hc) fun xs H Q ⟨g, h, vs, r, rh, rv, e, kk⟩ => by
    unfold cMin at e
    split at e
    · cases e
      obtain ⟨u, q, rfl, a, u2, q2, rfl, a2, rfl⟩ := rv
      exact ⟨_, _, by rw [int_get a, int_get a2], kk g H _ .refl rh rt_int⟩
    · cases e
/-! new lists as roots -/
abbrev OpL := VH → List VV → Option (List VV)
def newO (o : Option (List VV)) (h : VH) : Res VV := match o with
  | some xs => .ok (.obj h.length) (h ++ [.fl xs])
  | none => .no
def eNewO (op : OpL) (a : AF) : EF := fun ρ h => (a ρ h).bind fun v h1 => newO (op h1 v) h1
def RnN (c : Ct) (op : OpL) : List V → Hp → VK → Prop := fun xs H Q => ∃ g h vs r, RH c g h H ∧ RTs c g H vs xs ∧ op h vs = some r ∧ ∀ g' H' u, Stp g H g' H' → RH c g' (h ++ [.fl r]) H' → RT c g' H' (.obj h.length) u → Q u H'
theorem tCBO_of {r : List V → Hp → VK → Prop} {op : OpL} {fa : AF} (m : ∀ x H Q, RnN (ct X) op x H Q → r x H Q) {σ : St} {H : Hp} {Q : VK} (h : tE (ct X) W (eNewO op fa) σ H Q) : tCB r (tA (ct X) W fa) σ H Q := by
  obtain ⟨g, ρ, h0, rh, rs, p⟩ := h
  refine ⟨g, ρ, h0, rh, rs, (Pst.bind (R := RTs (ct X)) p).imp fun u H1 ⟨g1, v, h1, st, rh1, rv1, p1⟩ => ?_⟩
  unfold newO at p1
  split at p1
  · rename_i xs e
    exact m _ _ _ ⟨g1, h1, v, xs, rh1, rv1, e, fun g' H' u st' rh' rv' => p1 g' H' u st' rh' rv'⟩
  · exact p1.elim
theorem j_callTyO {x : Str} {p pos : Pos} {T : String} {op : OpL} {e : Expr} {es : List Expr} {fa : AF} (hc : CallR X (.type T) (RnN (ct X) op)) (hg : Gl X x) (hm : X.mg x = none) (hv : bootBuiltins x = some (.type T)) (ha : PA X (e :: es) (tA (ct X) W fa)) (hn : x ≠ "__name__" := by decide) (hdb : (x == ("__debug__" : Str)) = false := by decide)
    (he : starEach (e :: es) X.env = (false, eval e X.env) :: starEach es X.env := by rfl) (hpl : (backTo pos (starEach es X.env)).any (·.1) = false := by rfl) :
    PE X (.Call (.Name x p) (e :: es) [] pos) (tE (ct X) W (eNewO op fa)) :=
  PE.mono (pe_callTy hc hg hm hv ha hn hdb he hpl) fun σ H Q h => tCBO_of (fun _ _ _ q => q) h
def lList : OpL := fun h vs => match vs with
  | [v] => seqV h v
  | _ => none
theorem root_of {c : Ct} {g : Gh} {h : VH} {H : Hp} {p : Addr} {vs : List VV} {us : List V} (rh : RH c g h H) (hp : H p = none) (rv : RVs c g.fz H vs us) :
    Stp g H (g.add p) (upd H p (.lst us)) ∧ RH c (g.add p) (h ++ [.fl vs]) (upd H p (.lst us)) ∧ RT c (g.add p) (upd H p (.lst us)) (.obj h.length) (.ref p) := by
  have st : Stp g H g (upd H p (.lst us)) := .junk rh hp
  have rh1 : RH c g h (upd H p (.lst us)) := rh.junk hp
  have nq : p ∉ g.io := fun z => by
    obtain ⟨o, e⟩ := rh.root z
    rw [hp] at e; cases e
  refine ⟨st.trans .add, rh1.add nq (fun z => ?_) ⟨fun z => ?_, us, upd_same, st.rvs rv⟩, ⟨p, ?_, rfl⟩⟩
  · obtain ⟨o, e⟩ := rh.kp p z; rw [hp] at e; cases e
  · obtain ⟨o, e⟩ := rh.fz p z; rw [hp] at e; cases e
  · show (g.io ++ [p])[h.length]? = some p
    rw [← rh.len, List.getElem?_append_right (Nat.le_refl _), Nat.sub_self]; rfl
theorem cr_listO : CallR X (.type "list") (RnN (ct X) lList) :=
  CallR.imp call_list_of fun xs H Q ⟨g, h, vs, r, rh, rv, e, kk⟩ => by
    unfold lList at e
    split at e
    · obtain ⟨u, q, rfl, a, rfl⟩ := rv
      obtain ⟨p, us, ep, sp, rp⟩ := seqV_get rh a e
      refine ⟨p, us, by rw [ep], sp, fun l hl => ?_⟩
      obtain ⟨s1, s2, s3⟩ := root_of rh hl rp
      exact kk _ _ _ s1 s2 s3
    · cases e
/-- [..] * n as a root -/
def repO (v w : VV) : Option (List VV) := match v, w with
  | .lst xs, .int k => if -(2 ^ 63) ≤ k ∧ k < 2 ^ 63 ∧ xs.length * k.toNat ≤ SZ then some (List.replicate k.toNat xs).flatten else none
  | _, _ => none
def eRepO (a b : EF) : EF := fun ρ h => (a ρ h).bind fun v h1 => (b ρ h1).bind fun w h2 => newO (repO v w) h2
/-! list(range(n)) -/
theorem cr_range1 : CallR X (.type "range") (fun vs H Q => ∃ i, vs = [V.int i] ∧ ∀ p, H p = none → Q (.ref p) (upd H p (.rng 0 i))) := by
  intro pins s σ H vs us Q I r h
  obtain ⟨i, rfl, q⟩ := h
  obtain ⟨u1, rfl, ri⟩ := r.one
  obtain ⟨t, rfl⟩ := ri
  refine call_range_1 ⟨.ref s.heap.objs.size, upd H s.heap.objs.size (.rng 0 i), I.laid (t' := s.toks + 1 + 1) (fun b o e => Heap.get?_push_of_some _ e) (Nat.le_refl _) ?_, rfl, q _ (I.hok.fresh (Nat.le_refl _))⟩
  exact ⟨s.toks, t, s.toks + 1, Heap.get?_push_size _ rfl⟩
theorem vals_items {n : Nat} {acc : Array Value} (it : ItemsOf (fun i v => ∃ t, v = Value.int (0 + (i : Int) * 1) t) acc n) : Vals ((List.range n).map fun (i : Nat) => V.int ((i : Nat) : Int)) acc.toList := by
  have key : ∀ (l : List Value) (k : Nat), (∀ (j : Nat) (v : Value), l[j]? = some v → ∃ t, v = Value.int (((k + j : Nat) : Nat) : Int) t) → Vals ((List.range' k l.length).map fun (i : Nat) => V.int ((i : Nat) : Int)) l := by
    intro l
    induction l with
    | nil => intro k _; exact .nil
    | cons x l ih =>
      intro k hx
      rw [List.length_cons, List.range'_succ, List.map_cons]
      obtain ⟨t, e⟩ := hx 0 x rfl
      refine .cons ⟨t, e⟩ (ih (k + 1) fun j v hj => ?_)
      obtain ⟨t', e'⟩ := hx (j + 1) v (by simpa using hj)
      exact ⟨t', by rw [e', show k + (j + 1) = k + 1 + j by omega]⟩
  have h := key acc.toList 0 fun j v hj => by
    obtain ⟨t, e⟩ := it.2 j v (by simpa using hj)
    exact ⟨t, by rw [e]; congr 1; omega⟩
  rw [Array.length_toList, it.1, ← List.range_eq_range'] at h
  exact h
theorem cr_listRng (hc : X.calm = true) : CallR X (.type "list") (fun vs H Q => ∃ a n, vs = [V.ref a] ∧ H a = some (.rng 0 n) ∧ n ≤ SZ ∧ 0 ≤ n ∧ ∀ p, H p = none → Q (.ref p) (upd H p (.lst ((List.range n.toNat).map fun (i : Nat) => V.int ((i : Nat) : Int))))) := by
  intro pins s σ H vs us Q I r h
  obtain ⟨a, n, rfl, ha, hn, h0, q⟩ := h
  obtain ⟨u, rfl, ru⟩ := r.one
  cases ru
  obtain ⟨t, u, v, ho⟩ := (show ObjOk X.prog X.w H s.heap a (.rng 0 n) from I.hok a _ ha)
  refine call_list_range (a := 0) (b := n) (c := 1) (n := n.toNat) (I.ok.hd hc) ho ?_ ?_ ?_ fun h' tk acc c' kp e it => ?_
  · unfold Builtin.Range.small
    have : n ≤ 16777216 := hn
    have sz : Builtin.Range.rangeSize 0 n 1 = n.toNat := by
      unfold Builtin.Range.rangeSize
      simp
      omega
    have f : ∀ m : Int, 0 ≤ m → m ≤ 16777216 → Builtin.Range.rangeFitsLong m = true := fun m h1 h2 => by
      unfold Builtin.Range.rangeFitsLong
      simp
      omega
    rw [sz, f 0 (by omega) (by omega), f n h0 this, f 1 (by omega) (by omega), f _ (by omega) (by omega)]
    simp
    exact .inr (f n h0 this)
  · unfold Builtin.Range.rangeSize
    simp
    omega
  · show n.toNat ≤ 16777216
    have : n ≤ 16777216 := hn
    omega
  · have fr := I.hok.fresh (a := s.heap.objs.size) (Nat.le_refl _)
    refine ⟨.ref s.heap.objs.size, _, I.laid (o := .lst ((List.range n.toNat).map fun (i : Nat) => V.int ((i : Nat) : Int))) kp (Nat.le_refl _) ?_, rfl, q _ fr⟩
    refine ⟨?_, acc.toList, c', vals_items it, ?_⟩
    · rw [List.length_map, List.length_range]; exact SZ_le (by have : n ≤ 16777216 := hn; show n.toNat ≤ 16777216; omega)
    · rw [e]
def eListRngO (f : EF) : EF := fun ρ h => (f ρ h).bind fun v h1 => match v with
  | .int n => if 0 ≤ n ∧ n ≤ SZ then .ok (.obj h1.length) (h1 ++ [.fl (rngV 0 n.toNat)]) else .no
  | _ => .no
theorem rvs_rng {c : Ct} {z : Addr → Prop} {H : Hp} (n : Nat) : RVs c z H (rngV 0 n) ((List.range n).map fun (i : Nat) => V.int ((i : Nat) : Int)) := by
  unfold rngV
  generalize List.range n = l
  induction l with
  | nil => exact RVs.nil
  | cons x l ih =>
    refine RVs.cons ?_ ih
    show RV c z H (.int (0 + (x : Int))) _
    rw [Int.zero_add]; exact rv_int _ _ _ _
theorem j_listRngO {a : Expr} {f : EF} {p p2 pos pos2 : Pos} (hc : X.calm = true) (g1 : Gl X "list") (m1 : X.mg "list" = none) (g2 : Gl X "range") (m2 : X.mg "range" = none) (ha : PE X a (tE (ct X) W f))
    (hs : starEach [a] X.env = (false, eval a X.env) :: starEach [] X.env := by rfl) (hs2 : starEach [.Call (.Name "range" p2) [a] [] pos2] X.env = (false, eval (.Call (.Name "range" p2) [a] [] pos2) X.env) :: starEach [] X.env := by rfl)
    (hpl : (backTo pos (starEach [] X.env)).any (·.1) = false := by rfl) (hpl2 : (backTo pos2 (starEach [] X.env)).any (·.1) = false := by rfl) :
    PE X (.Call (.Name "list" p) [.Call (.Name "range" p2) [a] [] pos2] [] pos) (tE (ct X) W (eListRngO f)) :=
  PE.mono (pe_callTy (cr_listRng hc) g1 m1 (by decide +kernel) (pa_cons (pe_callTy cr_range1 g2 m2 (by decide +kernel) (pa_cons ha pa_nil hs) (by decide) (by decide) hs hpl2) pa_nil hs2) (by decide) (by decide) hs2 hpl) fun σ H Q ⟨g, ρ, h0, rh, rs, p⟩ => by
    refine ⟨g, ρ, h0, rh, rs, (Pst.bind (R := RT (ct X)) p).imp fun u H1 ⟨g1, v, h1, st, rh1, rv1, p1⟩ => ?_⟩
    split at p1
    · rename_i n
      split at p1
      · rename_i cc
        refine ⟨n, by rw [int_get rv1], fun q hq => ⟨q, n, rfl, upd_same, cc.2, cc.1, fun l hl => ?_⟩⟩
        have s0 : Stp g1 H1 g1 (upd H1 q (.rng 0 n)) := .junk rh1 hq
        obtain ⟨s1, s2, s3⟩ := root_of (rh1.junk hq) hl (rvs_rng n.toNat)
        exact p1 _ _ _ (s0.trans s1) s2 s3
      · exact p1.elim
    · exact p1.elim
/-! l.index(x), tuples of ints -/
end
end J
namespace J
open PySem L2
open PyProof.Rows (envOfC)
def eDnew : EF := fun _ h => .ok (.obj h.length) (h ++ [.dT [] []])
theorem j_dnew' {X : Cx} {W : WX} {pos : Pos} : PE X (.Dict [] [] pos) (tE (ct X) W eDnew) := j_dnew
/-! methods and classes of the text -/
structure Dm (K : PySem.W.Frag) (x q : Str) (st : Stmt) (dvs : List V) (kws : List (Str × V)) (f : Addr) (fd : FuncData) : Prop where
  F : FunD K x q (defArgs st) (defBody st) (defScope st) dvs kws f fd
/-- a class: what is read of it -/
structure ClsT (K : PySem.W.Frag) (mg : Str → Option Value) (cn : Str) (C : Addr) : Prop where
  m : mg cn = some (.ref C)
  c : Cls K C
section
variable {P : Program} {w : World} {K : PySem.W.Frag} {mg : Str → Option Value} {base : Heap}
theorem fnokM_of {x q : Str} {st : Stmt} {dvs : List V} {kws : List (Str × V)} {f : Addr} {fd : FuncData} {N ps : List Str} {k n m : Nat} {B : SF} (D : Dm K x q st dvs kws f fd) (S : FnScope N ps (defScope st)) (hn : n = N.length) (hp : ps.length ≤ n) (hm : m = ps.length)
    (hbody : ∀ (cdv : Value) (A : Around) (outer : List Env) (s : Shared) (H : Hp) (E : XK), Room k (A.deeper (envOfC q (defScope st) s.heap.objs.size f cdv)) →
      PSs (cxOf (L2N.CX P w) P w K mg base N q (defScope st) f cdv A outer s H E) (defBody st) (tS ⟨K, mg⟩ (fun a d _ H' => E a d H') B)) :
    FnOk P w K mg base (L2N.CX P w) (k + 1) f fd ps (spF ⟨K, mg⟩ m (fnF n B)) := by
  subst hm
  exact fn_ok D.F S hn hp hbody
/-- all parameters are given -/
theorem okM_of {cn x q : Str} {st : Stmt} {kws : List (Str × V)} {C f : Addr} {fd : FuncData} {ps : List Str} {k m : Nat} {Fm : FF} (T : ClsT K mg cn C) (M : Meth K C x f) (D : Dm K x q st [] kws f fd) (hF : FnOk P w K mg base (L2N.CX P w) k f fd ps (spF ⟨K, mg⟩ m Fm))
    (hb : ∀ (kV doc pm : Value) (an : Option Addr) (cdv ct : Value) (us : List Value), us.length = ps.length → bindArgs (PySem.W.fnOf x q (defArgs st) (defBody st) (defScope st) .none kV doc pm an cdv ct) ⟨us, []⟩ = pure (ps.zip us)) :
    OkM P w K mg base k cn x m [] Fm := ⟨C, f, fd, ps, [], [], T.m, T.c, M, hF, D.F.bindsN hb, .nil, fun _ _ => rfl⟩
/-- .. with defaults (the first j of them given) -/
theorem okCD_of {cn x q : Str} {st : Stmt} {dvs : List V} {C f : Addr} {fd : FuncData} {ps : List Str} {k m : Nat} {Fm : FF} {dws : List VV} (T : ClsT K mg cn C) (M : Mk K C f) (D : Dm K x q st dvs [] f fd) (hF : FnOk P w K mg base (L2N.CX P w) k f fd ps (spF ⟨K, mg⟩ m Fm)) (n j : Nat) (hd : dvs ≠ []) (hn : n + (dvs.length - j) = ps.length)
    (h : ∀ (T : Addr) (kV doc pm : Value) (an : Option Addr) (cdv ct : Value) (us its : List Value), us.length = n → its.length = dvs.length →
      ∃ k, bindArgs (PySem.W.fnOf x q (defArgs st) (defBody st) (defScope st) (.ref T) kV doc pm an cdv ct) ⟨us, []⟩ = seqItems? (.ref T) >>= k ∧ k (some its.toArray) = pure (ps.zip (us ++ its.drop j)))
    (hr : ∀ g H, RTs ⟨K, mg⟩ g H dws (dvs.drop j)) : OkC P w K mg base k cn m dws Fm := by
  obtain ⟨ds, h1, h2⟩ := D.F.binds1 n j hd hn h
  exact ⟨C, f, fd, ps, _, ds, T.m, M, hF, h2, h1, hr⟩
end
theorem fld_of {K : PySem.W.Frag} {mg : Str → Option Value} {cn f : Str} {C : Addr} (T : ClsT K mg cn C) (n : PySem.W.findIn K (.ref C) f = some none) : ∀ C', mg cn = some (.ref C') → Cls K C' ∧ NoAttr K C' f := fun C' e => by
  rw [T.m] at e
  cases e
  exact ⟨T.c, n⟩
end J
namespace J
open PySem L2
/-! evaluation of what J8 to J27 added -/
section
variable {ρ : VSt} {h : VH}
def frzO (o : Option VO) (n : Nat) (h : VH) : Res VV := match o with
  | some (.fl xs) => .ok (.lst xs) (h.set n (.fzn (.lst xs)))
  | some (.fzn w) => .ok w h
  | some (.dT ks vs) => .ok (.dT ks vs) (h.set n (.fzn (.dT ks vs)))
  | some (.dK ks vs) => .ok (.dK ks vs) (h.set n (.fzn (.dK ks vs)))
  | some (.lo xs) => frzR (.obj n) h
  | some (.ins _ _ _) => frzR (.obj n) h
  | none => .no
theorem a_frzD {f} : eFrzD f ρ h = bnd (f ρ h) frzR (tg _) := nr rfl
theorem frzR_obj {n : Nat} : frzR (.obj n) h = frzO (h[n]?) n h := by
  cases e : h[n]? with
  | none => simp only [frzO, frzR, frzV, e]
  | some o => cases o <;> simp only [frzO, frzR, frzV, e]
theorem frzO_fl {xs n} : frzO (some (.fl xs)) n h = .ok (.lst xs) (h.set n (.fzn (.lst xs))) := nr rfl
theorem frzO_fzn {w n} : frzO (some (.fzn w)) n h = .ok w h := nr rfl
theorem frzR_lst {xs} : frzR (.lst xs) h = .ok (.lst xs) h := nr rfl
theorem frzR_tup {xs} : frzR (.tup xs) h = .ok (.tup xs) h := nr rfl
theorem frzR_int {i} : frzR (.int i) h = .ok (.int i) h := nr rfl
theorem a_newO {op a} : eNewO op a ρ h = bnd (a ρ h) (fun v h1 => newO (op h1 v) h1) (tg _) := nr rfl
theorem newO_some {xs} : newO (some xs) h = .ok (.obj h.length) (h ++ [.fl xs]) := nr rfl
theorem lList_lst {xs} : lList h [.lst xs] = some xs := nr rfl
theorem lList_tup {xs} : lList h [.tup xs] = some xs := nr rfl
def lrO (v : VV) (h1 : VH) : Res VV := match v with
  | .int n => if 0 ≤ n ∧ n ≤ SZ then .ok (.obj h1.length) (h1 ++ [.fl (rngV 0 n.toNat)]) else .no
  | _ => .no
theorem a_listRngO {f} : eListRngO f ρ h = bnd (f ρ h) lrO (tg _) := nr rfl
theorem lrO_int {n : Int} : lrO (.int n) h = if 0 ≤ n ∧ n ≤ SZ then .ok (.obj h.length) (h ++ [.fl (rngV 0 n.toNat)]) else .no := nr rfl
theorem a_repO {a b} : eRepO a b ρ h = bnd (a ρ h) (fun v h1 => bnd (b ρ h1) (fun w h2 => newO (repO v w) h2) (tg _)) (tg _) := nr rfl
theorem repO_lst {xs : List VV} {k : Int} : repO (.lst xs) (.int k) = if -(2 ^ 63) ≤ k ∧ k < 2 ^ 63 ∧ xs.length * k.toNat ≤ SZ then some (List.replicate k.toNat xs).flatten else none := nr rfl
def chkL {α : Type} (o : Option (List VV)) (r : Res α) : Res α := match o with
  | none => .no
  | some _ => r
theorem chkL_some {α : Type} {xs : List VV} {r : Res α} : chkL (some xs) r = r := nr rfl
def lstO (o : Option VO) : Option (List VV) := match o with
  | some (.fl xs) => some xs
  | some (.fzn (.lst xs)) => some xs
  | _ => none
theorem lstOf_obj {n : Nat} : lstOf h (.obj n) = lstO (h[n]?) := by
  unfold lstOf lstO
  rfl
theorem lstO_fl {xs} : lstO (some (.fl xs)) = some xs := nr rfl
theorem lstO_fzn {xs} : lstO (some (.fzn (.lst xs))) = some xs := nr rfl
def lstRO (o : Option VO) : Option (List VV) := match o with
  | some (.lo xs) => some xs
  | some (.fl xs) => some xs
  | some (.fzn (.lst xs)) => some xs
  | _ => none
theorem lstR_obj {n : Nat} : lstR h (.obj n) = lstRO (h[n]?) := by
  cases e : h[n]? with
  | none => simp only [lstR, lstRO, lstOf, e]
  | some o =>
    cases o with
    | fzn w => cases w <;> simp only [lstR, lstRO, lstOf, e]
    | _ => simp only [lstR, lstRO, lstOf, e]
theorem lstRO_fl {xs} : lstRO (some (.fl xs)) = some xs := nr rfl
theorem lstRO_lo {xs} : lstRO (some (.lo xs)) = some xs := nr rfl
theorem lstRO_fzn {xs} : lstRO (some (.fzn (.lst xs))) = some xs := nr rfl
def popO (o : Option VO) (n : Nat) (k : Int) (h : VH) : Res VV := match o with
  | some (.fl xs) => if 0 ≤ k ∧ k < xs.length ∧ k < 2 ^ 62 then (match xs[k.toNat]? with
    | some v => .ok v (h.set n (.fl (xs.eraseIdx k.toNat)))
    | none => .no) else .no
  | _ => .no
def popR (h : VH) (ov iv : VV) : Res VV := match popI h ov iv with
  | some (v, h3) => .ok v h3
  | none => .no
theorem a_pop {fo fi} : ePop fo fi ρ h = bnd (fo ρ h) (fun ov h1 => chkL (lstOf h1 ov) (bnd (fi ρ h1) (fun iv h2 => popR h2 ov iv) (tg _))) (tg _) := by
  unfold ePop
  cases fo ρ h with
  | no => rfl
  | exc => rfl
  | ok ov h1 =>
    show (match lstOf h1 ov with
      | none => Res.no
      | some _ => _) = chkL (lstOf h1 ov) _
    cases lstOf h1 ov with
    | none => rfl
    | some _ => rfl
theorem popR_obj {n : Nat} {k : Int} : popR h (.obj n) (.int k) = popO (h[n]?) n k h := by
  cases e : h[n]? with
  | none => simp only [popR, popI, popO, e]
  | some o =>
    cases o with
    | fl xs =>
      simp only [popR, popI, popO, e]
      by_cases c : 0 ≤ k ∧ k < xs.length ∧ k < 2 ^ 62
      · rw [if_pos c, if_pos c]
        cases xs[k.toNat]? <;> rfl
      · rw [if_neg c, if_neg c]
    | _ => simp only [popR, popI, popO, e]
theorem popO_fl {xs : List VV} {n : Nat} {k : Int} {v : VV} (hk : 0 ≤ k) (hl : k < xs.length) (hb : k < 2 ^ 62) (e : xs[k.toNat]? = some v) : popO (some (.fl xs)) n k h = .ok v (h.set n (.fl (xs.eraseIdx k.toNat))) := by
  unfold popO
  simp only [if_pos (And.intro hk (And.intro hl hb)), e]
def appO (o : Option VO) (n : Nat) (h2 : VH) (v : VV) : Res VV := match o with
  | some (.fl xs) => if xs.length ≥ SZ then .no else if v.isObj = true then .ok .non (h2.set n (.lo (xs ++ [v]))) else .ok .non (h2.set n (.fl (xs ++ [v])))
  | some (.lo xs) => if xs.length ≥ SZ then .no else .ok .non (h2.set n (.lo (xs ++ [v])))
  | _ => .no
theorem a_app {o e} : eApp o e ρ h = bnd (o ρ h) (fun ov h1 => chkL (lstR h1 ov) (bnd (e ρ h1) (fun v h2 => appV h2 ov v) (tg _))) (tg _) := by
  unfold eApp
  cases o ρ h with
  | no => rfl
  | exc => rfl
  | ok ov h1 =>
    show (match lstR h1 ov with
      | none => Res.no
      | some _ => _) = chkL (lstR h1 ov) _
    cases lstR h1 ov with
    | none => rfl
    | some _ => rfl
theorem appV_obj {n : Nat} {v : VV} : appV h (.obj n) v = appO (h[n]?) n h v := nr rfl
theorem appO_fl {xs : List VV} {n : Nat} {v : VV} (hl : xs.length < 16777216) (hv : v.isObj = false) : appO (some (.fl xs)) n h v = .ok .non (h.set n (.fl (xs ++ [v]))) := by
  show (if xs.length ≥ 16777216 then _ else _) = _
  rw [if_neg (by omega), if_neg (by rw [hv]; decide)]
def enumI (v : List VV) (h : VH) : Res (List VV) := match v with
  | [.lst xs] => .ok (enum 0 xs) h
  | [.scr xs] => .ok (enum 0 xs) h
  | _ => .no
theorem enumI_lst {xs} : enumI [.lst xs] h = .ok (enum 0 xs) h := nr rfl
theorem s_augI {o i e} : sAugI o i e ρ h = sbd (o ρ h) ρ (fun ov h1 => sbd (i ρ h1) ρ (fun iv h2 => augV e ρ ov iv h2) (tg _)) (tg _) := nr rfl
def augO (fe : EF) (ρ : VSt) (n : Nat) (k : Int) (o : Option VV) (h2 : VH) : SR := match o with
  | some (.int a) => sbd (fe ρ h2) ρ (fun v h3 => match v with
    | .int b => onh (setI h3 (.obj n) (.int k) (.int (a + b))) ρ
    | _ => .no) (tg _)
  | _ => .no
theorem augV_obj {fe n} {k : Int} : augV fe ρ (.obj n) (.int k) h = augO fe ρ n k (opIx h (.obj n) (.int k)) h := by
  unfold augV augO
  rw [if_pos (show (VV.obj n).isObj = true from rfl)]
  rfl
theorem augO_int {fe n} {k a : Int} : augO fe ρ n k (some (.int a)) h = sbd (fe ρ h) ρ (fun v h3 => match v with
    | .int b => onh (setI h3 (.obj n) (.int k) (.int (a + b))) ρ
    | _ => .no) (tg _) := rfl
theorem s_setD {o i e} : sSetD o i e ρ h = sbd (e ρ h) ρ (fun v h1 => sbd (o ρ h1) ρ (fun ov h2 => sbd (i ρ h2) ρ (fun iv h3 => onh (setD h3 ov iv v) ρ) (tg _)) (tg _)) (tg _) := nr rfl
theorem a_dnew : eDnew ρ h = .ok (.obj h.length) (h ++ [.dT [] []]) := nr rfl
def fldR (cn f : Str) (o : Option (Str × List Str × List VV)) (h : VH) : Res VV := match o with
  | some a => if a.1 = cn then lift (lookN a.2.1 a.2.2 f) h else .no
  | none => .no
theorem a_fld {cn f fe} : eFld cn f fe ρ h = bnd (fe ρ h) (fun v h1 => fldR cn f (insOf h1 v) h1) (tg _) := nr rfl
def insO (o : Option VO) : Option (Str × List Str × List VV) := match o with
  | some (.ins c ns vs) => some (c, ns, vs)
  | some (.fzn (.ins c ns vs)) => some (c, ns, vs)
  | _ => none
theorem insOf_obj {n : Nat} : insOf h (.obj n) = insO (h[n]?) := by
  unfold insOf insO
  rfl
theorem insO_ins {c ns vs} : insO (some (.ins c ns vs)) = some (c, ns, vs) := nr rfl
theorem insOf_ins {c ns vs} : insOf h (.ins c ns vs) = some (c, ns, vs) := nr rfl
def methC (cn m : Str) (o : Option (Str × List Str × List VV)) (r : Res VV) : Res VV := match o with
  | some a => if a.1 = cn ∧ lookN a.2.1 a.2.2 m = none then r else .no
  | none => .no
theorem a_meth {cn m n F dws fo fa} : eMeth cn m n F dws fo fa ρ h = bnd (fo ρ h) (fun v h1 => methC cn m (insOf h1 v) (bnd (fa ρ h1) (fun vs h2 => if (v :: (vs ++ dws)).length = n then noX (F (v :: (vs ++ dws)) h2) else .no) (tg _))) (tg _) := by
  unfold eMeth
  cases fo ρ h with
  | no => rfl
  | exc => rfl
  | ok v h1 =>
    show (match insOf h1 v with
      | some a => _
      | none => Res.no) = methC cn m (insOf h1 v) _
    cases insOf h1 v with
    | none => rfl
    | some _ => rfl
theorem noX_ok {α : Type} {a : α} : noX (.ok a h) = .ok a h := nr rfl
theorem a_make {cn n F dws fa} : eMakeZ cn n F dws fa ρ h = bnd (fa ρ h) (fun vs h1 => if (VV.obj h1.length :: (vs ++ dws)).length = n then mkZ h1.length (F (.obj h1.length :: (vs ++ dws)) (h1 ++ [.ins cn [] []])) else .no) (tg _) := nr rfl
theorem s_fldS {cn f fo fe} : sFldS cn f fo fe ρ h = sbd (fe ρ h) ρ (fun v h1 => sbd (fo ρ h1) ρ (fun ov h2 => onh (setF h2 cn f ov v) ρ) (tg _)) (tg _) := nr rfl
def setFO (o : Option VO) (n : Nat) (h : VH) (cn f : Str) (v : VV) : Option VH := match o with
  | some (.ins c ns vs) => if c = cn ∧ ns.length < 1000 then some (h.set n (.ins c (putN ns f) (putW ns vs f v))) else none
  | _ => none
theorem setF_obj {n : Nat} {cn f v} : setF h cn f (.obj n) v = setFO (h[n]?) n h cn f v := nr rfl
theorem a_aApp {n m a b} : aApp n m a b ρ h = bnd (a ρ h) (fun vs h1 => bnd (b ρ h1) (fun ws h2 => if vs.length = n ∧ ws.length = m then .ok (vs ++ ws) h2 else .no) (tg _)) (tg _) := nr rfl
def afterR (r : Res (List VV)) : Res VV := match r with
  | .ok vs h2 => .ok (.obj h2.length) (h2 ++ [.lo vs])
  | _ => .no
theorem afterR_ok {vs : List VV} : afterR (.ok vs h) = .ok (.obj h.length) (h ++ [.lo vs]) := nr rfl
theorem a_lcR {own it b t e} : eLcR own it b t e ρ h = bnd (it ρ h) (fun xs h1 => if xs.length > SZ then .no else afterR (lcGoR b t e (wp ρ own) xs h1)) (tg _) := nr rfl
theorem a_lenSc {own it b fe} : eLenSc own it b fe ρ h = bnd (it ρ h) (fun xs h1 => bnd (noX (accGo b (stSet fe) (wp ρ own) xs h1 [])) (fun a h2 => .ok (.int a.length) h2) (tg _)) (tg _) := nr rfl
theorem a_dc2 {own it b it1 b1 vs1 fk fv} : eDc2 own it b it1 b1 vs1 fk fv ρ h = bnd (it ρ h) (fun xs h1 => bnd (noX (accGo b (stIn it1 b1 vs1 (stDict fk fv)) (wp ρ own) xs h1 ([], []))) (fun a h2 => .ok (.dT a.1 a.2) h2) (tg _)) (tg _) := nr rfl
theorem a_enum {f} : iEnum f ρ h = bnd (f ρ h) enumI (tg _) := nr rfl
end
/-! loops -/
section
variable {α : Type}
theorem lc_map {b : VV → VSt → Option VSt} {t : TF} {e : EF} {ρ : VSt} {h : VH} (f g : α → VV) {ys : List α} (hy : ∀ y ∈ ys, ∃ ρ', b (f y) ρ = some ρ' ∧ t ρ' h = .ok true h ∧ e ρ' h = .ok (g y) h ∧ (g y).isObj = false) : lcGo b t e ρ (ys.map f) h = .ok (ys.map g) h := by
  induction ys with
  | nil => rfl
  | cons y ys ih =>
    obtain ⟨ρ', h1, h2, h3, h4⟩ := hy y List.mem_cons_self
    rw [List.map_cons, lcGo, h1]
    simp only [h2, bind_ok, h3, h4, Bool.false_eq_true, if_false, if_true, ih fun z hz => hy z (List.mem_cons_of_mem _ hz), List.map_cons]
theorem lc_mapF {b : VV → VSt → Option VSt} {t : TF} {e : EF} {ρ : VSt} {h : VH} (f : α → VV) (p : α → Bool) (g : α → VV) {ys : List α} (hy : ∀ y ∈ ys, ∃ ρ', b (f y) ρ = some ρ' ∧ t ρ' h = .ok (p y) h ∧ (p y = true → e ρ' h = .ok (g y) h ∧ (g y).isObj = false)) : lcGo b t e ρ (ys.map f) h = .ok ((ys.filter p).map g) h := by
  induction ys with
  | nil => rfl
  | cons y ys ih =>
    obtain ⟨ρ', h1, h2, h3⟩ := hy y List.mem_cons_self
    have ih := ih fun z hz => hy z (List.mem_cons_of_mem _ hz)
    rw [List.map_cons, lcGo, h1]
    cases hp : p y with
    | false => simp only [h2, hp, bind_ok, Bool.false_eq_true, if_false, ih, List.filter_cons]
    | true =>
      obtain ⟨h4, h5⟩ := h3 hp
      simp only [h2, hp, bind_ok, h4, h5, Bool.false_eq_true, if_false, if_true, ih, List.filter_cons, List.map_cons]
/-- elements that draw, typed -/
theorem lc_draw {β : Type} {b : VV → VSt → Option VSt} {t : TF} {e : EF} {ρ : VSt} (f : α → VV) (g : β → VV) (I : VH → Prop) (P : β → Prop) : ∀ {ys : List α} {h : VH}, I h → (∀ y ∈ ys, ∀ h, I h → ∃ ρ' v h', b (f y) ρ = some ρ' ∧ t ρ' h = .ok true h ∧ e ρ' h = .ok (g v) h' ∧ (g v).isObj = false ∧ I h' ∧ P v) →
    ∃ (vs : List β) (h' : VH), lcGo b t e ρ (ys.map f) h = .ok (vs.map g) h' ∧ I h' ∧ vs.length = ys.length ∧ ∀ v ∈ vs, P v
  | [], h, hi, _ => ⟨[], h, rfl, hi, rfl, fun v hv => by simp at hv⟩
  | y :: ys, h, hi, hx => by
    obtain ⟨ρ', v, h1, e1, e2, e3, e4, hi1, hp⟩ := hx y List.mem_cons_self h hi
    obtain ⟨vs, h2, e5, hi2, hl, hps⟩ := lc_draw f g I P (ys := ys) hi1 fun z hz => hx z (List.mem_cons_of_mem _ hz)
    refine ⟨v :: vs, h2, ?_, hi2, by simp [hl], fun w hw => ?_⟩
    · rw [List.map_cons, lcGo, e1]
      simp only [e2, bind_ok, e3, e4, Bool.false_eq_true, if_false, if_true, e5, List.map_cons]
    · rcases List.mem_cons.mp hw with rfl | hw
      · exact hp
      · exact hps w hw
/-- a loop by what holds behind each first part of the items -/
theorem for_pre {b : VV → VSt → Option VSt} {body : SF} (f : α → VV) (I : List α → VSt → VH → Prop) (ys : List α) {ρ : VSt} {h : VH} (h0 : I [] ρ h)
    (hs : ∀ pre y post, ys = pre ++ y :: post → ∀ ρ h, I pre ρ h → ∃ ρ' ρ2 h2, b (f y) ρ = some ρ' ∧ body ρ' h = .nx ρ2 h2 ∧ I (pre ++ [y]) ρ2 h2) : ∃ ρ2 h2, forGo b body (ys.map f) ρ h = .nx ρ2 h2 ∧ I ys ρ2 h2 := by
  have key : ∀ (post pre : List α), ys = pre ++ post → ∀ ρ h, I pre ρ h → ∃ ρ2 h2, forGo b body (post.map f) ρ h = .nx ρ2 h2 ∧ I ys ρ2 h2 := by
    intro post
    induction post with
    | nil =>
      intro pre e ρ h hi
      rw [List.append_nil] at e
      subst e
      exact ⟨ρ, h, for_nil, hi⟩
    | cons y post ih =>
      intro pre e ρ h hi
      obtain ⟨ρ', ρ2, h2, e1, e2, hi2⟩ := hs pre y post e ρ h hi
      obtain ⟨ρ3, h3, e3, hi3⟩ := ih (pre ++ [y]) (by rw [e]; simp) ρ2 h2 hi2
      refine ⟨ρ3, h3, ?_, hi3⟩
      rw [List.map_cons, for_cons, e1, obd_some, e2, trn_nx, e3]
  exact key ys [] rfl ρ h h0
theorem acc_pre {β : Type} {b : VV → VSt → Option VSt} {stp : VSt → VH → β → Res β} {ρ : VSt} {h : VH} (f : α → VV) (st : List α → β) (ys : List α)
    (hs : ∀ pre y post, ys = pre ++ y :: post → ∃ ρ', b (f y) ρ = some ρ' ∧ stp ρ' h (st pre) = .ok (st (pre ++ [y])) h) : accGo b stp ρ (ys.map f) h (st []) = .ok (st ys) h := by
  have key : ∀ (post pre : List α), ys = pre ++ post → accGo b stp ρ (post.map f) h (st pre) = .ok (st ys) h := by
    intro post
    induction post with
    | nil =>
      intro pre e
      rw [List.append_nil] at e
      subst e
      rfl
    | cons y post ih =>
      intro pre e
      obtain ⟨ρ', e1, e2⟩ := hs pre y post e
      rw [List.map_cons, accGo, e1]
      simp only [e2, bind_ok]
      exact ih (pre ++ [y]) (by rw [e]; simp)
  exact key ys [] rfl
end
end J
namespace M
open J
/-! sorted lists of ints -/
def leI (a b : Int) : Bool := decide (a ≤ b)
def isort (l : List Int) : List Int := l.mergeSort leI
theorem leI_trans (a b c : Int) (h1 : leI a b = true) (h2 : leI b c = true) : leI a c = true := by
  unfold leI at *; simp only [decide_eq_true_eq] at *; omega
theorem leI_total (a b : Int) : (leI a b || leI b a) = true := by
  unfold leI; simp only [Bool.or_eq_true, decide_eq_true_eq]; omega
theorem isort_perm (l : List Int) : (isort l).Perm l := List.mergeSort_perm l leI
theorem isort_pw (l : List Int) : (isort l).Pairwise (fun a b => a ≤ b) := by
  have := List.pairwise_mergeSort (le := leI) leI_trans leI_total l
  exact this.imp fun h => by unfold leI at h; simpa using h
theorem isort_len (l : List Int) : (isort l).length = l.length := (isort_perm l).length_eq
theorem isort_mem {l : List Int} {a : Int} : a ∈ isort l ↔ a ∈ l := (isort_perm l).mem_iff
/-- strictly growing -/
abbrev Inc (l : List Int) : Prop := l.Pairwise (fun a b => a < b)
theorem Inc.le {l : List Int} (h : Inc l) : l.Pairwise (fun a b => a ≤ b) := h.imp fun h => Int.le_of_lt h
theorem inc_of {l : List Int} (h : l.Pairwise (fun a b => a ≤ b)) (n : l.Nodup) : Inc l := by
  have := (List.nodup_iff_pairwise_ne.mp n).and h
  exact this.imp fun h => by omega
theorem inc_isort {l : List Int} (n : l.Nodup) : Inc (isort l) := inc_of (isort_pw l) ((isort_perm l).nodup_iff.mpr n)
theorem Inc.sub {l m : List Int} (h : Inc m) (s : l.Sublist m) : Inc l := List.Pairwise.sublist s h
/-! all parts of a list -/
def allS (l : List Int) : List (List Int) := l.foldl (fun acc p => acc ++ acc.map (fun s => s ++ [p])) [[]]
def subs (l : List Int) : List (List Int) := (allS l).drop 1
theorem foldl_all (f : List Int) : ∀ acc : List (List Int), ∀ s, s ∈ f.foldl (fun acc p => acc ++ acc.map (fun s => s ++ [p])) acc ↔ ∃ a ∈ acc, ∃ t, t.Sublist f ∧ s = a ++ t := by
  induction f with
  | nil =>
    intro acc s
    simp only [List.foldl_nil]
    constructor
    · exact fun h => ⟨s, h, [], .slnil, by simp⟩
    · rintro ⟨a, ha, t, ht, rfl⟩
      have : t = [] := List.sublist_nil.mp ht
      subst this
      simpa using ha
  | cons p f ih =>
    intro acc s
    rw [List.foldl_cons, ih]
    constructor
    · rintro ⟨a, ha, t, ht, rfl⟩
      rcases List.mem_append.mp ha with ha | ha
      · exact ⟨a, ha, t, ht.cons p, rfl⟩
      · obtain ⟨b, hb, rfl⟩ := List.mem_map.mp ha
        exact ⟨b, hb, p :: t, ht.cons_cons p, by simp⟩
    · rintro ⟨a, ha, t, ht, rfl⟩
      cases ht with
      | cons _ h => exact ⟨a, List.mem_append_left _ ha, t, h, rfl⟩
      | cons_cons _ h => exact ⟨a ++ [p], List.mem_append_right _ (List.mem_map.mpr ⟨a, ha, rfl⟩), _, h, by simp⟩
theorem mem_allS {l s : List Int} : s ∈ allS l ↔ s.Sublist l := by
  unfold allS
  rw [foldl_all]
  constructor
  · rintro ⟨a, ha, t, ht, rfl⟩
    rw [List.mem_singleton] at ha
    subst ha
    simpa using ht
  · exact fun h => ⟨[], by simp, s, h, by simp⟩
theorem foldl_len (f : List Int) : ∀ acc : List (List Int), (f.foldl (fun acc p => acc ++ acc.map (fun s => s ++ [p])) acc).length = acc.length * 2 ^ f.length := by
  induction f with
  | nil => intro acc; simp
  | cons p f ih =>
    intro acc
    rw [List.foldl_cons, ih, List.length_append, List.length_map, List.length_cons, Nat.pow_succ]
    rw [← Nat.two_mul, Nat.mul_assoc, Nat.mul_left_comm, Nat.mul_comm 2]
theorem allS_len (l : List Int) : (allS l).length = 2 ^ l.length := by
  unfold allS; rw [foldl_len]; simp
theorem foldl_head (f : List Int) : ∀ acc : List (List Int), (∃ r, acc = [] :: r ∧ ∀ s ∈ r, s ≠ []) → ∃ r, f.foldl (fun acc p => acc ++ acc.map (fun s => s ++ [p])) acc = [] :: r ∧ ∀ s ∈ r, s ≠ [] := by
  induction f with
  | nil => intro acc h; exact h
  | cons p f ih =>
    rintro acc ⟨r, rfl, hr⟩
    rw [List.foldl_cons]
    refine ih _ ⟨r ++ ([] :: r).map (fun s => s ++ [p]), rfl, fun s hs => ?_⟩
    rcases List.mem_append.mp hs with h | h
    · exact hr s h
    · obtain ⟨b, _, rfl⟩ := List.mem_map.mp h
      simp
theorem allS_head (l : List Int) : ∃ r, allS l = [] :: r ∧ ∀ s ∈ r, s ≠ [] := foldl_head l [[]] ⟨[], rfl, by simp⟩
theorem mem_subs {l s : List Int} : s ∈ subs l ↔ s.Sublist l ∧ s ≠ [] := by
  obtain ⟨r, e, hr⟩ := allS_head l
  unfold subs
  rw [e, List.drop_succ_cons, List.drop_zero]
  constructor
  · exact fun h => ⟨mem_allS.mp (by rw [e]; exact List.mem_cons_of_mem _ h), hr s h⟩
  · rintro ⟨h1, h2⟩
    have := mem_allS.mpr h1
    rw [e] at this
    rcases List.mem_cons.mp this with h | h
    · exact absurd h h2
    · exact h
theorem subs_len {l : List Int} : (subs l).length + 1 = 2 ^ l.length := by
  obtain ⟨r, e, hr⟩ := allS_head l
  have := allS_len l
  unfold subs
  rw [e] at this ⊢
  simpa using this
/-! faces -/
/-- points told in any order -/
structure Pts (f : List Int) : Prop where
  nd : f.Nodup
  pos : f ≠ []
  le : f.length ≤ 4
  rng : ∀ p ∈ f, 0 ≤ p ∧ p ≤ 15
/-- a face: growing -/
structure Face (f : List Int) : Prop where
  inc : Inc f
  pos : f ≠ []
  le : f.length ≤ 4
  rng : ∀ p ∈ f, 0 ≤ p ∧ p ≤ 15
theorem Pts.face {f : List Int} (h : Pts f) : Face (isort f) := ⟨inc_isort h.nd, fun e => h.pos (by have := isort_len f; rw [e] at this; exact List.length_eq_zero_iff.mp this.symm), by rw [isort_len]; exact h.le, fun p hp => h.rng p (isort_mem.mp hp)⟩
theorem Face.sub {f s : List Int} (h : Face f) (hs : s.Sublist f) (n : s ≠ []) : Face s := ⟨h.inc.sub hs, n, Nat.le_trans hs.length_le h.le, fun p hp => h.rng p (hs.subset hp)⟩
/-! lists of faces, in order -/
def fsort (l : List (List Int)) : List (List Int) := l.mergeSort leL
theorem fsort_perm (l : List (List Int)) : (fsort l).Perm l := List.mergeSort_perm l leL
theorem fsort_pw (l : List (List Int)) : (fsort l).Pairwise (fun a b => leL a b = true) := List.pairwise_mergeSort leL_trans leL_total l
theorem fsort_eq {l m : List (List Int)} (p : l.Perm m) : fsort l = fsort m := sort_perm p
/-- the faces of faces, each once, in order -/
def parts (fs : List (List Int)) : List (List Int) := fs.flatMap fun f => subs (isort f)
def clo (fs : List (List Int)) : List (List Int) := fsort (parts fs).eraseDups
theorem mem_parts {fs : List (List Int)} {s : List Int} : s ∈ parts fs ↔ ∃ f ∈ fs, s.Sublist (isort f) ∧ s ≠ [] := by
  unfold parts
  rw [List.mem_flatMap]
  exact ⟨fun ⟨f, h1, h2⟩ => ⟨f, h1, mem_subs.mp h2⟩, fun ⟨f, h1, h2⟩ => ⟨f, h1, mem_subs.mpr h2⟩⟩
theorem mem_clo {fs : List (List Int)} {s : List Int} : s ∈ clo fs ↔ ∃ f ∈ fs, s.Sublist (isort f) ∧ s ≠ [] := by
  unfold clo
  rw [(fsort_perm _).mem_iff, List.mem_eraseDups, mem_parts]
theorem clo_nodup (fs : List (List Int)) : (clo fs).Nodup := (fsort_perm _).nodup_iff.mpr (nodup_eraseDups _)
theorem clo_pw (fs : List (List Int)) : (clo fs).Pairwise (fun a b => leL a b = true) := fsort_pw _
/-- a web's faces -/
structure WebF (E : List (List Int)) : Prop where
  face : ∀ f ∈ E, Face f
  nd : E.Nodup
  pw : E.Pairwise (fun a b => leL a b = true)
  down : ∀ f ∈ E, ∀ s, s.Sublist f → s ≠ [] → s ∈ E
theorem webf_clo {fs : List (List Int)} (h : ∀ f ∈ fs, Pts f) : WebF (clo fs) where
  face f hf := by
    obtain ⟨t, ht, s, n⟩ := mem_clo.mp hf
    exact (h t ht).face.sub s n
  nd := clo_nodup fs
  pw := clo_pw fs
  down f hf s hs n := by
    obtain ⟨t, ht, s', n'⟩ := mem_clo.mp hf
    exact mem_clo.mpr ⟨t, ht, hs.trans s', n⟩
theorem nodup_perm {l m : List (List Int)} (h1 : l.Nodup) (h2 : m.Nodup) (h : ∀ x, x ∈ l ↔ x ∈ m) : l.Perm m := by
  rw [List.perm_iff_count]
  intro a
  by_cases ha : a ∈ l
  · rw [h1.count, h2.count, if_pos ha, if_pos ((h a).mp ha)]
  · rw [List.count_eq_zero_of_not_mem ha, List.count_eq_zero_of_not_mem (fun z => ha ((h a).mpr z))]
/-! few faces -/
def Few (fs : List (List Int)) : Prop := ∃ D : List (List Int), D.length < 61 ∧ ∀ s ∈ parts fs, s ∈ D
theorem Few.low {fs : List (List Int)} (h : Few fs) : (parts fs).eraseDups.length < 61 := by
  obtain ⟨D, hl, hD⟩ := h
  exact Nat.lt_of_le_of_lt (few_of (nodup_eraseDups _) fun x hx => hD x (List.mem_eraseDups.mp hx)) hl
theorem Few.len {fs : List (List Int)} (h : Few fs) : (parts fs).eraseDups.length < 76 := Nat.lt_trans h.low (by decide)
/-! faces told by places -/
def pick (p : List Int) (ix : List Nat) : List Int := ix.map fun i => p.getD i 0
end M
namespace M
open J PySem L2
/-! each thing once, in the order in which they come -/
section
variable {α : Type} [DecidableEq α]
def dd (l : List α) : List α := l.foldl (fun a x => if x ∈ a then a else a ++ [x]) []
theorem dd_snoc (l : List α) (x : α) : dd (l ++ [x]) = if x ∈ dd l then dd l else dd l ++ [x] := by
  unfold dd; rw [List.foldl_append]; rfl
theorem dd_gen (l : List α) : ∀ acc : List α, (∀ x, x ∈ l.foldl (fun a x => if x ∈ a then a else a ++ [x]) acc ↔ x ∈ acc ∨ x ∈ l) ∧ (acc.Nodup → (l.foldl (fun a x => if x ∈ a then a else a ++ [x]) acc).Nodup)
    ∧ (l.foldl (fun a x => if x ∈ a then a else a ++ [x]) acc).length ≤ acc.length + l.length ∧ ((l.foldl (fun a x => if x ∈ a then a else a ++ [x]) acc).length = acc.length + l.length ↔ l.Nodup ∧ ∀ y ∈ l, y ∉ acc) := by
  induction l with
  | nil => intro acc; simp
  | cons y l ih =>
    intro acc
    rw [List.foldl_cons]
    by_cases hy : y ∈ acc
    · rw [if_pos hy]
      obtain ⟨i1, i2, i3, i4⟩ := ih acc
      refine ⟨fun x => ?_, i2, by rw [List.length_cons]; omega, ?_⟩
      · rw [i1]
        constructor
        · rintro (h | h)
          · exact .inl h
          · exact .inr (List.mem_cons_of_mem _ h)
        · rintro (h | h)
          · exact .inl h
          · rcases List.mem_cons.mp h with rfl | h
            · exact .inl hy
            · exact .inr h
      · rw [List.length_cons]
        constructor
        · intro h; omega
        · rintro ⟨_, h⟩
          exact absurd hy (h y List.mem_cons_self)
    · rw [if_neg hy]
      obtain ⟨i1, i2, i3, i4⟩ := ih (acc ++ [y])
      rw [List.length_append, List.length_singleton] at i3 i4
      refine ⟨fun x => ?_, fun hn => i2 ?_, by rw [List.length_cons]; omega, ?_⟩
      · rw [i1, List.mem_append, List.mem_singleton, List.mem_cons, or_assoc]
      · rw [List.nodup_append]
        exact ⟨hn, by simp, fun a ha b hb => by rw [List.mem_singleton] at hb; subst hb; exact fun e => hy (e ▸ ha)⟩
      · rw [List.length_cons, show acc.length + (l.length + 1) = acc.length + 1 + l.length by omega, i4, List.nodup_cons]
        constructor
        · rintro ⟨h1, h2⟩
          refine ⟨⟨fun h => h2 y h (by simp), h1⟩, fun z hz => ?_⟩
          rcases List.mem_cons.mp hz with rfl | hz
          · exact hy
          · exact fun h => h2 z hz (List.mem_append_left _ h)
        · rintro ⟨⟨h1, h2⟩, h3⟩
          refine ⟨h2, fun z hz h => ?_⟩
          rcases List.mem_append.mp h with h | h
          · exact h3 z (List.mem_cons_of_mem _ hz) h
          · rw [List.mem_singleton] at h
            subst h
            exact h1 hz
theorem mem_dd {l : List α} {x : α} : x ∈ dd l ↔ x ∈ l := by
  have := (dd_gen l []).1 x
  unfold dd; rw [this]; simp
theorem dd_nodup (l : List α) : (dd l).Nodup := (dd_gen l []).2.1 (by simp)
theorem dd_le (l : List α) : (dd l).length ≤ l.length := by
  have := (dd_gen l []).2.2.1
  unfold dd; simpa using this
theorem dd_lt (l : List α) : decide ((dd l).length < l.length) = !decide l.Nodup := by
  have h1 := (dd_gen l []).2.2.1
  have h2 := (dd_gen l []).2.2.2
  simp only [List.length_nil, Nat.zero_add, List.not_mem_nil, not_false_iff, implies_true, and_true] at h1 h2
  unfold dd
  by_cases hn : l.Nodup
  · rw [h2.mpr hn]; simp [hn]
  · have : ¬ (l.foldl (fun a x => if x ∈ a then a else a ++ [x]) []).length = l.length := fun e => hn (h2.mp e)
    rw [decide_eq_true (by omega), decide_eq_false hn]; rfl
end
theorem fsort_dd (l : List (List Int)) : fsort (dd l) = fsort l.eraseDups :=
  fsort_eq (nodup_perm (dd_nodup l) (nodup_eraseDups l) fun x => by rw [mem_dd, List.mem_eraseDups])
theorem dd_len (l : List (List Int)) : (dd l).length = l.eraseDups.length :=
  (nodup_perm (dd_nodup l) (nodup_eraseDups l) fun x => by rw [mem_dd, List.mem_eraseDups]).length_eq
/-! dict keys -/
def keyI (k : List Int) : List Key := k.map Sum.inl
theorem keyI_inj : ∀ {k l : List Int}, keyI k = keyI l → k = l
  | [], [], _ => rfl
  | [], _ :: _, h => by cases h
  | _ :: _, [], h => by cases h
  | x :: k, y :: l, h => by
    have h' : Sum.inl x :: keyI k = (Sum.inl y : Key) :: keyI l := h
    injection h' with h1 h2
    rw [Sum.inl.inj h1, keyI_inj h2]
theorem keyL_ints : ∀ k : List Int, keyL (k.map VV.int) = some (keyI k)
  | [] => rfl
  | x :: k => by rw [List.map_cons, keyL, keyL_ints k]; rfl
theorem keyV_tupI (k : List Int) : keyV (tupI k) = some (keyI k) := keyL_ints k
theorem hasK_map (ks : List (List Int)) (k : List Int) : hasK (ks.map keyI) (keyI k) = decide (k ∈ ks) := by
  unfold hasK
  rw [List.any_map]
  refine Eq.trans (congrArg ks.any (funext fun x => ?_)) ((any_dec k ks).trans (by congr))
  show decide (keyI x = keyI k) = decide (x = k)
  exact Bool.eq_iff_iff.mpr (by simp only [decide_eq_true_eq]; exact ⟨keyI_inj, fun h => by rw [h]⟩)
theorem putKs_dd (l : List (List Int)) (x : List Int) : putKs ((dd l).map keyI) (keyI x) = (dd (l ++ [x])).map keyI := by
  unfold putKs
  rw [hasK_map, dd_snoc]
  by_cases h : x ∈ dd l
  · rw [decide_eq_true h, if_pos rfl, if_pos h]
  · rw [decide_eq_false h, if_neg (by decide), if_neg h, List.map_append]; rfl
theorem putVs_dd (l : List (List Int)) (x : List Int) : putVs ((dd l).map keyI) ((dd l).map fun _ => VV.bl true) (keyI x) (.bl true) = (dd (l ++ [x])).map fun _ => VV.bl true := by
  unfold putVs
  rw [hasK_map, dd_snoc]
  by_cases h : x ∈ dd l
  · rw [decide_eq_true h, if_pos rfl, if_pos h, List.zip_map', List.map_map]
    refine List.map_congr_left fun y _ => ?_
    show (if keyI y = keyI x then VV.bl true else VV.bl true) = VV.bl true
    split <;> rfl
  · rw [decide_eq_false h, if_neg (by decide), if_neg h, List.map_append]; rfl
theorem keyB_I (k : List Int) : VV.tup ((keyI k).map keyB) = tupI k := by
  unfold keyI tupI; rw [List.map_map]; rfl
/-! a web as a value -/
def sz (E : List (List Int)) (k : Nat) : List (List Int) := E.filter fun f => decide (f.length = k)
def szL (E : List (List Int)) (k : Nat) : VV := .lst ((sz E k).map tupI)
def idxs (l : List (List Int)) : List VV := (List.range l.length).map fun (i : Nat) => VV.int (i : Int)
def ordE (E : List (List Int)) : List (List Int) := sz E 1 ++ (sz E 2 ++ (sz E 3 ++ sz E 4))
def ordV (E : List (List Int)) : List VV := idxs (sz E 1) ++ (idxs (sz E 2) ++ (idxs (sz E 3) ++ idxs (sz E 4)))
def webV (E : List (List Int)) : VV := .ins "Web" ["table", "places"] [.lst [szL E 1, szL E 2, szL E 3, szL E 4], .dT ((ordE E).map keyI) (ordV E)]
theorem mem_sz {E : List (List Int)} {k : Nat} {f : List Int} : f ∈ sz E k ↔ f ∈ E ∧ f.length = k := by
  unfold sz; rw [List.mem_filter, decide_eq_true_eq]
theorem sz_nodup {E : List (List Int)} (h : E.Nodup) (k : Nat) : (sz E k).Nodup := h.sublist List.filter_sublist
theorem mem_ordE {E : List (List Int)} (hE : ∀ f ∈ E, Face f) {f : List Int} : f ∈ ordE E ↔ f ∈ E := by
  unfold ordE
  simp only [List.mem_append, mem_sz]
  constructor
  · rintro (h | h | h | h) <;> exact h.1
  · intro h
    have h1 := (hE f h).le
    have h2 : 0 < f.length := List.length_pos_iff.mpr (hE f h).pos
    have : f.length = 1 ∨ f.length = 2 ∨ f.length = 3 ∨ f.length = 4 := by omega
    rcases this with e | e | e | e
    · exact .inl ⟨h, e⟩
    · exact .inr (.inl ⟨h, e⟩)
    · exact .inr (.inr (.inl ⟨h, e⟩))
    · exact .inr (.inr (.inr ⟨h, e⟩))
theorem idxs_len (l : List (List Int)) : (l.map keyI).length = (idxs l).length := by unfold idxs; simp
theorem not_key {l : List (List Int)} {f : List Int} (h : f ∉ l) : keyI f ∉ l.map keyI := fun z => by
  obtain ⟨g, hg, e⟩ := List.mem_map.mp z
  exact h (keyI_inj e ▸ hg)
end M
namespace J
open PySem L2 M
section
variable {ρ : VSt} {h : VH}
theorem len_obj {n : Nat} : cLen h [.obj n] = (lstRO (h[n]?)).map fun xs => .int xs.length := by
  show (lstR h (.obj n)).map _ = _
  rw [lstR_obj]
theorem omap_some {α β : Type} {f : α → β} {a : α} : (some a).map f = some (f a) := nr rfl
theorem fin_low {v : VV} {n : Nat} {h : VH} {t : VH} (hn : h.length = n) (hv : lowV n v = true) (ho : h.all (lowO n) = true) : (SR.ret v (h ++ t)).fin n = .ok v h := by
  show Res.ok v (trim n v (h ++ t)) = _
  unfold trim
  by_cases e : (h ++ t).length = n
  · rw [if_pos e]
    have : t = [] := by
      rw [List.length_append] at e
      exact List.length_eq_zero_iff.mp (by omega)
    rw [this, List.append_nil]
  · rw [if_neg e]
    have : (h ++ t).take n = h := by rw [← hn, List.take_left]
    rw [this, if_pos ⟨hv, ho⟩]
theorem fin_o {v : VV} {o : VO} {t : VH} (hv : lowV 1 v = true) (ho : lowO 1 o = true) : (SR.ret v (o :: t)).fin 1 = .ok v [o] := fin_low (h := [o]) rfl hv (by simp [ho])
theorem log2_ok {m : Int} (h1 : 0 < m) (h2 : m < 2 ^ 100) : m.natAbs.log2 < 9000 := by
  have : m.natAbs < 2 ^ 100 := by omega
  exact Nat.lt_trans ((Nat.log2_lt (by omega)).mpr this) (by decide)
/-! sorted -/
theorem all_isI (l : List Int) : (l.map VV.int).all isI = true := by simp [isI]
theorem srt_ints (l : List Int) : srt (l.map VV.int) = some (.lst ((isort l).map VV.int)) := by
  unfold srt okS
  rw [all_isI, Bool.true_or, if_pos rfl]
  congr 2
  exact (List.map_mergeSort (r := leI) (s := leS) (f := VV.int) (fun a _ b _ => by rw [leS_int]; rfl)).symm
theorem sorted_tup {l : List Int} : cSorted h [tupI l] = some (.lst ((isort l).map VV.int)) := srt_ints l
theorem isT1_tupI {k : List Int} (hk : k ≠ []) : isT1 (tupI k) = true := by
  unfold isT1
  rw [intsV_tupI]
  cases k with
  | nil => exact absurd rfl hk
  | cons => rfl
theorem all_isT1 {ks : List (List Int)} (hk : ∀ k ∈ ks, k ≠ []) : (ks.map tupI).all isT1 = true := by
  rw [List.all_map, List.all_eq_true]
  exact fun k h => isT1_tupI (hk k h)
theorem sorted_tups {ks : List (List Int)} (hk : ∀ k ∈ ks, k ≠ []) : cSorted h [.lst (ks.map tupI)] = some (.lst ((fsort ks).map tupI)) := by
  show srt (ks.map tupI) = _
  unfold srt okS
  rw [all_isT1 hk, Bool.or_true, if_pos rfl]
  congr 2
  exact (List.map_mergeSort (r := leL) (s := leS) (f := tupI) (fun a _ b _ => by rw [leS_tup]; rfl)).symm
theorem filterMap_tups (ks : List (List Int)) : (ks.map tupI).filterMap intsV = ks := by
  induction ks with
  | nil => rfl
  | cons k ks ih => rw [List.map_cons, List.filterMap_cons, intsV_tupI, ih]
theorem sortSet_tups {ks : List (List Int)} (hk : ∀ k ∈ ks, k ≠ []) (hf : ks.eraseDups.length < 306) : cSortSet h [.lst (ks.map tupI)] = some (.lst ((fsort ks.eraseDups).map tupI)) := by
  show (if _ then _ else _) = _
  rw [filterMap_tups, if_pos ⟨all_isT1 hk, hf⟩]; rfl
theorem isObj_tupI {k : List Int} : (tupI k).isObj = false := nr rfl
theorem rng_eq (n : Nat) : rngV 0 n = (List.range n).map fun (i : Nat) => VV.int (0 + (i : Int)) := nr rfl
theorem cut_tail {xs : List VV} (hl : xs ≠ []) : cut xs (some 1) none = xs.drop 1 := by
  unfold cut
  have e1 : HT.sIx xs.length 0 (some 1) = min 1 xs.length := by
    unfold HT.sIx
    simp
  have e2 : HT.sIx xs.length xs.length none = xs.length := rfl
  have : 0 < xs.length := List.length_pos_iff.mpr hl
  rw [e1, e2, Nat.min_eq_left this]
  exact List.take_of_length_le (by rw [List.length_drop]; omega)
theorem sl_lst {xs : List VV} {lo hi : Option Int} : opSl h (.lst xs) lo hi = some (.lst (cut xs lo hi)) := nr rfl
theorem sl_tup {xs : List VV} {lo hi : Option Int} : opSl h (.tup xs) lo hi = some (.tup (cut xs lo hi)) := nr rfl
theorem add_lst {xs ys : List VV} (hl : xs.length + ys.length ≤ 16777216) : opAdd h (.lst xs) (.lst ys) = some (.lst (xs ++ ys)) := by
  show (if xs.length + ys.length ≤ 16777216 then _ else _) = _
  rw [if_pos hl]
theorem add_tup {xs ys : List VV} (hl : xs.length + ys.length ≤ 16777216) : opAdd h (.tup xs) (.tup ys) = some (.tup (xs ++ ys)) := by
  show (if xs.length + ys.length ≤ 16777216 then _ else _) = _
  rw [if_pos hl]
end
end J
namespace J
end J
namespace J
open PySem L2
/-! dicts with ints or texts as keys, by value -/
abbrev DKA := List Key × List VV
def hasQ (ks : List Key) (k : Key) : Bool := ks.any fun x => decide (x = k)
def putVQ {α : Type} (ks : List Key) (vs : List α) (k : Key) (v : α) : List α := if hasQ ks k = true then (ks.zip vs).map (fun p => if p.1 = k then v else p.2) else vs ++ [v]
def putKQ (ks : List Key) (k : Key) : List Key := if hasQ ks k = true then ks else ks ++ [k]
section
variable {X : Cx} {W : WX}
def eKnew : EF := fun _ h => .ok (.obj h.length) (h ++ [.dK [] []])
/-- d[k] = v, d a root -/
def setK (h : VH) (o i v : VV) : Option VH := match o with
  | .obj n => match h[n]? with
    | some (.dK ks vs) => (keyA i).bind fun k => if v.isObj = true ∨ ks.length ≥ SZ then none else some (h.set n (.dK (putKQ ks k) (putVQ ks vs k v)))
    | _ => none
  | _ => none
def sSetK (o i e : EF) : SF := fun ρ h => (e ρ h).st ρ fun v h1 => (o ρ h1).st ρ fun ov h2 => (i ρ h2).st ρ fun iv h3 => match setK h3 ov iv v with
  | some h4 => .nx ρ h4
  | none => .no
/-! for k in d -/
def iKeysK (f : EF) : AF := fun ρ h => (f ρ h).bind fun v h1 => match v with
  | .dK ks vs => .ok (ks.map keyB) h1
  | _ => .no
end
/-! {k: v for t in xs} -/
def dcGo (b : VV → VSt → Option VSt) (fk fv : EF) (ρ : VSt) : List VV → VH → DKA → Res DKA
  | [], h, a => .ok a h
  | x :: xs, h, a => match b x ρ with
    | none => .no
    | some ρ' => (fk ρ' h).bind fun kv h2 => (fv ρ' h2).bind fun v h3 => match keyA kv with
      | some k => if v.isObj = true then .no else dcGo b fk fv ρ xs h3 (putKQ a.1 k, putVQ a.1 a.2 k v)
      | none => .no
def eDc1 (own : List Nat) (it : AF) (b : VV → VSt → Option VSt) (fk fv : EF) : EF := fun ρ h => (it ρ h).bind fun xs h1 => if xs.length > SZ then .no else match dcGo b fk fv (wp ρ own) xs h1 ([], []) with
  | .ok a h2 => .ok (.dK a.1 a.2) h2
  | _ => .no
end J
namespace J
open PySem PySem.Spec L2 PyProof.Rows
/-! sorted(set(xs)), sorted({..}): ints -/
theorem nodup_eraseDupsI_n : ∀ (n : Nat) (l : List Int), l.length ≤ n → l.eraseDups.Nodup
  | _, [], _ => by simp
  | 0, _ :: _, h => by simp at h
  | n + 1, x :: l, h => by
    rw [List.eraseDups_cons, List.nodup_cons]
    refine ⟨fun z => ?_, nodup_eraseDupsI_n n _ (Nat.le_trans (List.length_filter_le _ _) (by simpa using h))⟩
    rw [List.mem_eraseDups, List.mem_filter] at z
    simp at z
theorem nodup_eraseDupsI (l : List Int) : l.eraseDups.Nodup := nodup_eraseDupsI_n _ l (Nat.le_refl _)
def leJ (a b : Int) : Bool := decide (a ≤ b)
def srtI (l : List Int) : List Int := l.eraseDups.mergeSort leJ
end J
namespace J
open PySem L2
open PyProof.Rows (IntsAre)
/-! sorted(set(xs)), ints -/
theorem intsAre_of : ∀ {ks : List Int} {its : List Value}, Vals (ks.map V.int) its → IntsAre its ks
  | [], _, .nil => .nil
  | k :: ks, _, .cons a b => by
    obtain ⟨t, rfl⟩ := a
    exact .cons _ _ (intsAre_of b)
section
variable {X : Cx} {W : WX}
/-! sorted({e for x in xs}) -/
def eSortSc (own : List Nat) (it : AF) (b : VV → VSt → Option VSt) (fe : EF) : EF := fun ρ h => (it ρ h).bind fun xs h1 => (noX (accGo b (stSet fe) (wp ρ own) xs h1 [])).bind fun a h2 => if a.length < 64 then .ok (.lst ((srtI a).map .int)) h2 else .no
/-! xs.insert(i, e), xs a root -/
def insI (h : VH) (o i v : VV) : Option VH := match o, i with
  | .obj n, .int k => match h[n]? with
    | some (.fl xs) => if 0 ≤ k ∧ k < 2 ^ 62 ∧ xs.length < SZ ∧ v.isObj = false then some (h.set n (.fl (xs.take k.toNat ++ [v] ++ xs.drop k.toNat))) else none
    | _ => none
  | _, _ => none
def eIns (fo fi fe : EF) : EF := fun ρ h => (fo ρ h).bind fun ov h1 => match lstOf h1 ov with
  | none => .no
  | some _ => (aCons fi (aCons fe aNil) ρ h1).bind fun vs h2 => match vs with
    | [iv, v] => (match insI h2 ov iv v with
      | some h3 => .ok .non h3
      | none => .no)
    | _ => .no
/-! o.m(e, .., k=v) -/
end
end J
namespace J
open PySem L2
/-! [e for .. in .. for .. in .. if ..] -/
def lc2Go (b : VV → VSt → Option VSt) (t : TF) (it1 : AF) (b1 : VV → VSt → Option VSt) (vs1 : List Nat) (t1 : TF) (e : EF) (ρ : VSt) : List VV → VH → List VV → Res (List VV)
  | [], h, acc => .ok acc h
  | x :: xs, h, acc => match b x ρ with
    | none => .no
    | some ρ' => (t ρ' h).bind fun k h1 => if k = true then (it1 ρ' h1).bind fun ys h2 => if acc.length + ys.length > SZ then .no else (lcGo b1 t1 e (wp ρ' vs1) ys h2).bind fun vs h3 => lc2Go b t it1 b1 vs1 t1 e ρ xs h3 (acc ++ vs) else lc2Go b t it1 b1 vs1 t1 e ρ xs h1 acc
def eLc2 (own : List Nat) (it : AF) (b : VV → VSt → Option VSt) (t : TF) (it1 : AF) (b1 : VV → VSt → Option VSt) (vs1 : List Nat) (t1 : TF) (e : EF) : EF := fun ρ h => (it ρ h).bind fun xs h1 => match lc2Go b t it1 b1 vs1 t1 e (wp ρ own) xs h1 [] with
  | .ok vs h2 => .ok (.lst vs) h2
  | _ => .no
end J
namespace J
open PySem L2
/-! [e for x in xs if ..], xs a root that nothing in it changes -/
def rootL (v : VV) (h : VH) : Option (List VV) := match v with
  | .obj n => match h[n]? with
    | some (.fl xs) => some xs
    | _ => none
  | _ => none
def afterP (r : Res (List VV)) (h : VH) : Res VV := match r with
  | .ok vs _ => .ok (.lst vs) h
  | _ => .no
def eLcP (own : List Nat) (fo : EF) (b : VV → VSt → Option VSt) (t : TF) (e : EF) : EF := fun ρ h => (fo ρ h).bind fun v h1 => match rootL v h1 with
  | none => .no
  | some xs => if xs.length > SZ then .no else afterP (lcGo b t e (wp ρ own) xs h1) h1
end J
namespace J
open PySem L2
/-! len(set(xs)), ints -/
theorem set_card {w : World} {h : Heap} {a : Addr} {ks : List Int} {m : Nat} (R : SetR w h a (fun j => decide (j ∈ ks)) m) : m = ks.eraseDups.length := by
  obtain ⟨o, es, ep, t, ho, hex, hd, g, nd, hm, hb, hf, hn, hr, hl⟩ := R
  have p := (List.perm_ext_iff_of_nodup nd (nodup_eraseDupsI ks)).mpr fun k => by
    rw [List.mem_eraseDups, ← hm k, decide_eq_true_eq]
  have := p.length_eq
  rw [List.length_map, Array.length_toList] at this
  omega
end J
namespace J
open PySem L2
/-! dict(zip(xs, ys)), the keys unlike -/
def keysA : List VV → Option (List Key)
  | [] => some []
  | v :: vs => (keyA v).bind fun k => (keysA vs).map fun r => k :: r
def dzM (vs : List VV) : Option VV := match vs with
  | [.lst xs, .lst ys] => (keysA xs).bind fun ks => if ks.Nodup ∧ ks.length = ys.length ∧ ks.length ≤ 1000 then some (.dK ks ys) else none
  | _ => none
def eDictZip (a : AF) : EF := fun ρ h => (a ρ h).bind fun vs h1 => lift (dzM vs) h1
end J
namespace J
open PySem L2 M
/-! evaluation of what J28 to J31 added -/
section
variable {ρ : VSt} {h : VH}
theorem a_knew : eKnew ρ h = .ok (.obj h.length) (h ++ [.dK [] []]) := nr rfl
theorem s_setK {o i e} : sSetK o i e ρ h = sbd (e ρ h) ρ (fun v h1 => sbd (o ρ h1) ρ (fun ov h2 => sbd (i ρ h2) ρ (fun iv h3 => onh (setK h3 ov iv v) ρ) (tg _)) (tg _)) (tg _) := nr rfl
def keysI (v : VV) (h1 : VH) : Res (List VV) := match v with
  | .dK ks vs => .ok (ks.map keyB) h1
  | _ => .no
theorem a_keysK {f} : iKeysK f ρ h = bnd (f ρ h) keysI (tg _) := nr rfl
theorem keysI_dK {ks vs} : keysI (.dK ks vs) h = .ok (ks.map keyB) h := nr rfl
def afterK (r : Res DKA) : Res VV := match r with
  | .ok a h2 => .ok (.dK a.1 a.2) h2
  | _ => .no
theorem a_dc1 {own it b fk fv} : eDc1 own it b fk fv ρ h = bnd (it ρ h) (fun xs h1 => if xs.length > SZ then .no else afterK (dcGo b fk fv (wp ρ own) xs h1 ([], []))) (tg _) := nr rfl
theorem a_sortSc {own it b fe} : eSortSc own it b fe ρ h = bnd (it ρ h) (fun xs h1 => bnd (noX (accGo b (stSet fe) (wp ρ own) xs h1 [])) (fun a h2 => if a.length < 64 then .ok (.lst ((srtI a).map .int)) h2 else .no) (tg _)) (tg _) := nr rfl
def insM (o : Option VH) : Res VV := match o with
  | some h3 => .ok .non h3
  | none => .no
def insR (h2 : VH) (ov : VV) (vs : List VV) : Res VV := match vs with
  | [iv, v] => insM (insI h2 ov iv v)
  | _ => .no
theorem a_ins {fo fi fe} : eIns fo fi fe ρ h = bnd (fo ρ h) (fun ov h1 => chkL (lstOf h1 ov) (bnd (aCons fi (aCons fe aNil) ρ h1) (fun vs h2 => insR h2 ov vs) (tg _))) (tg _) := by
  unfold eIns
  cases fo ρ h with
  | no => rfl
  | exc => rfl
  | ok ov h1 =>
    show (match lstOf h1 ov with
      | none => Res.no
      | some _ => _) = chkL (lstOf h1 ov) _
    cases lstOf h1 ov with
    | none => rfl
    | some _ => rfl
theorem a_lc2 {own it b t it1 b1 vs1 t1 e} : eLc2 own it b t it1 b1 vs1 t1 e ρ h = bnd (it ρ h) (fun xs h1 => afterL (lc2Go b t it1 b1 vs1 t1 e (wp ρ own) xs h1 [])) (tg _) := nr rfl
theorem frzO_dK {ks vs n} : frzO (some (.dK ks vs)) n h = .ok (.dK ks vs) (h.set n (.fzn (.dK ks vs))) := nr rfl
theorem frzR_dK {ks vs} : frzR (.dK ks vs) h = .ok (.dK ks vs) h := nr rfl
def lcP (own : List Nat) (b : VV → VSt → Option VSt) (t : TF) (e : EF) (ρ : VSt) (h1 : VH) (o : Option (List VV)) : Res VV := match o with
  | none => .no
  | some xs => if xs.length > SZ then .no else afterP (lcGo b t e (wp ρ own) xs h1) h1
theorem a_lcP {own fo b t e} : eLcP own fo b t e ρ h = bnd (fo ρ h) (fun v h1 => lcP own b t e ρ h1 (rootL v h1)) (tg _) := nr rfl
theorem lcP_some {own b t e xs} : lcP own b t e ρ h (some xs) = if xs.length > SZ then .no else afterP (lcGo b t e (wp ρ own) xs h) h := nr rfl
def rootO (o : Option VO) : Option (List VV) := match o with
  | some (.fl xs) => some xs
  | _ => none
theorem rootL_obj {n : Nat} : rootL (.obj n) h = rootO (h[n]?) := by
  cases e : h[n]? with
  | none => simp only [rootL, rootO, e]
  | some o => cases o <;> simp only [rootL, rootO, e]
theorem rootO_fl {xs} : rootO (some (.fl xs)) = some xs := nr rfl
theorem a_dictZip {a : AF} : eDictZip a ρ h = bnd (a ρ h) (fun vs h1 => lift (dzM vs) h1) (tg _) := nr rfl
/-! points led -/
end
end J
namespace J
open PySem L2
open PyProof.Rows (envOfC)
/-! refusals: own exception classes over one own base whose __init__ sets word and at -/
structure XcK (K : PySem.W.Frag) (C : Addr) : Prop where
  o : OexC K C
  nw : PySem.W.findIn K (.ref C) "word" = some none
  na : PySem.W.findIn K (.ref C) "at" = some none
def weH (H : Hp) (e C dx : Addr) (w v : V) : Hp := upd (upd (upd H dx (exd dx [("word", w)])) e (exo e C (some dx))) dx (exd dx [("at", v), ("word", w)])
def spWE (K : PySem.W.Frag) : Sp := fun vs H Q _ => ∃ (e C : Addr) (w v : V), vs = [.ref e, w, v] ∧ XcK K C ∧ H e = some (exo e C none) ∧ ∀ dx, H dx = none → dx ≠ e → Q .non (weH H e C dx w v)
def spOX (K : PySem.W.Frag) (x : Str) : Sp := fun vs H Q _ => ∃ (e C : Addr) (v : V), vs = [.ref e, v] ∧ XcK K C ∧ H e = some (exo e C none) ∧ ∀ dx, H dx = none → dx ≠ e → Q .non (weH H e C dx (.str x) v)
section
variable {P : Program} {w : World} {K : PySem.W.Frag} {mg : Str → Option Value} {base : Heap} {q : Str} {params : Arguments} {body : List Stmt} {scope : Scope} {dvs : List V} {kws : List (Str × V)} {f : Addr} {fd : FuncData} {k : Nat}
theorem we_fn {p1 p2 p3 p4 p5 p6 p7 p8 : Pos} (F : FunD K "__init__" q params body scope dvs kws f fd) (S : FnScope ["self", "word", "at"] ["self", "word", "at"] scope)
    (hb : body = [.Assign [.Attribute (.Name "self" p1) "word" p2] (.Name "word" p3) p4, .Assign [.Attribute (.Name "self" p5) "at" p6] (.Name "at" p7) p8])
    (v0 : Vis scope "self") (v1 : Vis scope "word") (v2 : Vis scope "at") : FnOk P w K mg base (L2N.CX P w) (k + 1) f fd ["self", "word", "at"] (spWE K) := by
  subst hb
  refine F.ok S (fun vs H Q E h => by obtain ⟨e, C, a, b, rfl, _⟩ := h; rfl) fun cdv A outer s H vs Q E hr h => ?_
  refine ⟨_, pss_cons (ps_ost (pe_var (i := 0) rfl v0) (pe_var (i := 1) rfl v1)) (pss_one (ps_ost (pe_var (i := 0) rfl v0) (pe_var (i := 2) rfl v2))), ?_⟩
  obtain ⟨e, C, a, b, rfl, xc, he, k⟩ := h
  refine ⟨a, rfl, .ref e, rfl, e, C, rfl, xc.o, xc.nw, .inl ⟨he, fun dx hd ne => ?_⟩⟩
  refine ⟨b, rfl, .ref e, rfl, e, C, rfl, xc.o, xc.na, .inr ⟨dx, [("word", a)], upd_same, by rw [upd_ne ne, upd_same], by simp, ?_⟩⟩
  exact k dx hd ne
end
section
variable {X : Cx} {W : WX}
/-- B.__init__(e, ..), B an own class -/
theorem pe_binit {pl : Sem Bool} {k : Nat} {B f : Addr} {fd : FuncData} {ps : List Str} {sp : Sp} {b : Str} {e : Expr} {es : List Expr} {ta : TA} {p1 p2 pos : Pos} (hg : Gl X b) (hm : X.mg b = some (.ref B)) (rd : ClX.CRead X.K B (.type "type")) (cv : PySem.W.findCls X.K (.ref B) (.type "type") "__init__" = some (.val (.ref f)))
    (hk : PySem.W.keepIn X.K (.ref f) = true) (F : FnOk X.prog X.w X.K X.mg X.base (L2N.CX X.prog X.w) k f fd ps sp) (hr : Room k X.A) (hb : Binds X.K fd ps []) (ha : PA X (e :: es) ta)
    (hc : eval (.Call (.Attribute (.Name b p1) "__init__" p2) (e :: es) [] pos) X.env = (do
      let ov ← eval (.Name b p1) X.env
      standAt p2.atName
      let (f, first) ← holding [ov] (getMethod ov "__init__" pl)
      callWith pos f first (backTo pos (starEach (e :: es) X.env)) (backToKw pos (keywordEach [] X.env))) := by rfl)
    (hdb : (b == ("__debug__" : Str)) = false := by decide) (he : starEach (e :: es) X.env = (false, eval e X.env) :: starEach es X.env := by rfl) (hpl : (backTo pos (starEach es X.env)).any (·.1) = false := by rfl) :
    PE X (.Call (.Attribute (.Name b p1) "__init__" p2) (e :: es) [] pos) (fun σ H Q => ta σ H fun vs H1 => sp vs H1 Q X0) := by
  refine ⟨fun pins s σ H Q I h => ?_⟩
  refine PySem.W.methodCall_KW (pl := pl) (ld_glob I hg hm ?_ hdb) hc
  refine PySem.W.method_cls I.kIn rd.ga (ClX.getcval_ok I rd ⟨cv, (show RelV (.ref f) (.ref f) from rfl)⟩ fun s1 I1 => ?_)
  refine PySem.W.callWith_K (h₀ := X.base) I1.ok.mod.kin hk (thn (ha.run pos pins s1 σ H _ I1 h) fun us s2 ⟨vs, H2, I2, r, q⟩ => ⟨I2.kIn, ?_⟩) he hpl
  have hl : us.length = ps.length := by rw [← r.length]; exact F.len _ _ _ _ q
  have bb := hb s2 us I2.kIn (by rw [List.append_nil]; exact hl)
  rw [List.append_nil] at bb
  refine wpAny_call (codeAny_mono (F.run X.A X.stack s2 H2 ⟨us, []⟩ us vs Q X0 hr I2.env0 bb r q) fun rr s' hq => ?_)
  cases rr with
  | error er => exact (cx_no hq).elim
  | ok fl =>
    cases fl with
    | ret u => exact I2.after hq
    | next => exact False.elim hq
    | brk => exact False.elim hq
    | cont => exact False.elim hq
end
section
variable {P : Program} {w : World} {K : PySem.W.Frag} {mg : Str → Option Value} {base : Heap} {q : Str} {params : Arguments} {body : List Stmt} {scope : Scope} {dvs : List V} {kws : List (Str × V)} {f fB B : Addr} {fd fdB : FuncData} {k : Nat}
/-- an own class's __init__(self, at): WebError.__init__(self, x, at) -/
theorem ox_fn {x : Str} {p1 p2 p3 p4 p5 p6 p7 : Pos} {kk : Nat} (F : FunD K "__init__" q params body scope dvs kws f fd) (S : FnScope ["self", "at"] ["self", "at"] scope)
    (hb : body = [.Expr (.Call (.Attribute (.Name "WebError" p1) "__init__" p2) [.Name "self" p3, .Constant (.str x) kk p4, .Name "at" p5] [] p6) p7])
    (v0 : Vis scope "self") (v1 : Vis scope "at") (gl : scope.names.lookup ("WebError" : Str) = some NameKind.globalImplicit) (hm : mg "WebError" = some (.ref B)) (rd : ClX.CRead K B (.type "type")) (cv : PySem.W.findCls K (.ref B) (.type "type") "__init__" = some (.val (.ref fB)))
    (hk : PySem.W.keepIn K (.ref fB) = true) (FB : FnOk P w K mg base (L2N.CX P w) k fB fdB ["self", "word", "at"] (spWE K)) (hbB : Binds K fdB ["self", "word", "at"] [])
    (hc : ∀ env : Env, ∃ pl : Sem Bool, eval (.Call (.Attribute (.Name "WebError" p1) "__init__" p2) [.Name "self" p3, .Constant (.str x) kk p4, .Name "at" p5] [] p6) env = (do
      let ov ← eval (.Name "WebError" p1) env
      standAt p2.atName
      let (f, first) ← holding [ov] (getMethod ov "__init__" pl)
      callWith p6 f first (backTo p6 (starEach [.Name "self" p3, .Constant (.str x) kk p4, .Name "at" p5] env)) (backToKw p6 (keywordEach [] env)))) : FnOk P w K mg base (L2N.CX P w) (k + 1) f fd ["self", "at"] (spOX K x) := by
  subst hb
  refine F.ok S (fun vs H Q E h => by obtain ⟨e, C, b, rfl, _⟩ := h; rfl) fun cdv A outer s H vs Q E hr h => ?_
  obtain ⟨pl, hpl⟩ := hc (envOfC q scope s.heap.objs.size f cdv)
  refine ⟨_, pss_one (ps_expr (pe_binit (X := cxOf (L2N.CX P w) P w K mg base ["self", "at"] q scope f cdv A outer s H E) (pl := pl) gl hm rd cv hk FB hr hbB (pa_cons (pe_var (i := 0) rfl v0) (pa_cons pe_str (pa_cons (pe_var (i := 1) rfl v1) pa_nil))) hpl)), ?_⟩
  obtain ⟨e, C, b, rfl, xc, he, k⟩ := h
  refine ⟨.ref e, rfl, b, rfl, ?_⟩
  exact ⟨e, C, .str x, b, rfl, xc, he, k⟩
end
theorem takesN0 {X : Cx} : L2N.Takes X (fun _ _ _ _ => False) := fun _ _ x => by
  obtain ⟨_, _, _, _, _, _, _, _, _, _, _, _, _, _, _, _, z⟩ := x
  exact z.elim
/-- a refusal's class that can be made -/
structure OkX (P : Program) (w : World) (K : PySem.W.Frag) (mg : Str → Option Value) (base : Heap) (k : Nat) (x : Str) : Prop where
  ex : ∃ (C f : Addr) (fd : FuncData) (ds : List Value), mg x = some (.ref C) ∧ XcK K C ∧ PySem.W.findIn K (.ref C) "__init__" = some (some (.ref f)) ∧ PySem.W.typeIn K (.ref f) = some (.type "function") ∧
    FnOk P w K mg base (L2N.CX P w) k f fd ["self", "at"] (spOX K x) ∧ Binds K fd ["self", "at"] [] ∧ Binds K fd ["self", "at"] ds ∧ Vals [.int (-1)] ds
section
variable {X : Cx} {W : WX}
theorem weH_end {H : Hp} {e C dx : Addr} {w v : V} {O : HO} (he : H e = none) (ne : dx ≠ e) : upd (del (weH (upd H e (exo e C none)) e C dx w v) e) dx O = upd H dx O := by
  funext b
  by_cases h1 : b = dx
  · rw [h1, upd_same, upd_same]
  · rw [upd_ne h1, upd_ne h1]
    by_cases h2 : b = e
    · rw [h2, del_same, he]
    · rw [del_ne h2]
      unfold weH
      rw [upd_ne h1, upd_ne h2, upd_ne h1, upd_ne h2]
/-- the class is called -/
theorem mk_run {k : Nat} {C f : Addr} {fd : FuncData} {x : Str} {ds : List Value} {dvs : List V} (xc : XcK X.K C) (iC : PySem.W.findIn X.K (.ref C) "__init__" = some (some (.ref f))) (tI : PySem.W.typeIn X.K (.ref f) = some (.type "function"))
    (F : FnOk X.prog X.w X.K X.mg X.base (L2N.CX X.prog X.w) k f fd ["self", "at"] (spOX X.K x)) (hr : Room (k + 1) X.A) (hb : Binds X.K fd ["self", "at"] ds) (hd : Vals dvs ds)
    {pins : List (Addr × Obj)} {σ : St} {H : Hp} {Q : XK} {s : Shared} {us : List Value} {vs : List V} {v : V} (I : Inv X pins σ H s) (r : Vals vs us) (hv : vs ++ dvs = [v]) (q : ∀ d, H d = none → Q (.ref C) (some d) (upd H d (.xd [("at", v), ("word", .str x)]))) :
    wpAny (model X.prog X.w) X.A (call (.ref C) us) (L2N.MkP X pins σ Q) X.xe s := by
  obtain ⟨nm, qn, N, bs, bm, sn, sub, ab, col, dd, k0, k1, k2, k3, k5, hC, hbm⟩ := xc.o.cls
  obtain ⟨hp, g, dr, tk, os⟩ := s
  let e := hp.objs.size + 1
  let hp2 := (hp.push (PySem.W.kdv_tup us)).push (PySem.HandSPX.excO C hp.objs.size)
  have he : hp.objs.size ≤ e := Nat.le_succ _
  have hn : H e = none := I.hok.fresh he
  have kk : ∀ b o, hp.get? b = some o → hp2.get? b = some o := fun b o z => Heap.get?_push_of_some _ (Heap.get?_push_of_some _ z)
  have hget : hp2.get? e = some (PySem.HandSPX.excO C hp.objs.size) := by
    show ((hp.push (PySem.W.kdv_tup us)).push (PySem.HandSPX.excO C hp.objs.size)).get? (hp.objs.size + 1) = _
    heap_get
  have I2 : Inv X pins σ (upd H e (exo e C none)) ⟨hp2, g, dr, tk, os⟩ := I.laid (t' := tk) (a := e) (o := exo e C none) (h' := hp2) kk he (exo_ok hget)
  have r2 : Vals (V.ref e :: (vs ++ dvs)) (Value.ref e :: (us ++ ds)) := .cons rfl (r.append hd)
  have hl : (Value.ref e :: us ++ ds).length = ["self", "at"].length := by
    have z := r2.length
    rw [hv] at z
    exact z.symm
  have hus : us.length ≤ sizeLine := by
    have z := congrArg List.length hv
    rw [List.length_append, Paired.length r] at z
    rw [PySem.sizeLine_eq]
    simp at z
    omega
  have hsp : spOX X.K x (.ref e :: (vs ++ dvs)) (upd H e (exo e C none)) (fun u H2 => u = .non ∧ ∃ (d : Addr) (fs : List (Str × V)), H2 e = some (exo e C (some d)) ∧ H2 d = some (exd d fs) ∧ H d = none ∧ Q (.ref C) (some d) (upd (del H2 e) d (.xd fs))) X0 := by
    refine ⟨e, C, v, by rw [hv], xc, upd_same, fun dx hdx ne => ⟨rfl, dx, [("at", v), ("word", .str x)], ?_, ?_, ?_, ?_⟩⟩
    · unfold weH; rw [upd_ne (Ne.symm ne), upd_same]
    · unfold weH; rw [upd_same]
    · rw [upd_ne ne] at hdx; exact hdx
    · rw [weH_end hn ne]
      rw [upd_ne ne] at hdx
      exact q dx hdx
  have run := F.run _ X.stack ⟨hp2, g, dr, tk, os⟩ _ ⟨Value.ref e :: us, []⟩ (Value.ref e :: (us ++ ds)) _ _ X0 (hr.make C us []) (I2.env0.make C us []) (hb _ (Value.ref e :: us) I2.kIn hl) r2 hsp
  refine wpAny_call (PySem.HandSPX.call_own PySem.F.excBase_ValueError (fun Y => PySem.HandSPX.refsVE_contains Y bm hbm) (I.kIn _ _ hC) (PySem.W.looks_findIn I.kIn iC) (fun self => PySem.W.bind_fn I.kIn self tI) hus (codeAny_mono run fun rr s' hq => ?_))
  cases rr with
  | error er => exact (cx_no hq).elim
  | ok fl =>
    cases fl with
    | ret u =>
      obtain ⟨v2, H2, os2, bare2, un2, hok2, rv, ev, d, fs, ea, ed, hd1, q2⟩ := hq
      subst ev
      obtain ⟨h2, g2, d2, t2, os'⟩ := s'
      obtain ⟨t0, G, J, kG, ge, hoe, na⟩ := mk_end0 (d2 := d2) (t2 := t2) I he kk un2 hok2 os2 bare2 ea ed hd1
      refine ⟨rv, e, _, _, ⟨G, g2, d2, t2, os'⟩, _, .ref C, some d, rfl, J, kG, ge, hoe, ⟨rfl, rfl, fun vs z => ?_⟩, rfl, rfl, na, rfl, bare2, raises_own xc.o.exC xc.o.tyC, q2⟩
      cases z
      rfl
    | next => exact False.elim hq
    | brk => exact False.elim hq
    | cont => exact False.elim hq
def sRaise0 (x : Str) : SF := fun ρ h => .exc x ["at", "word"] [.int (-1), .str x] ρ h
def sRaise1 (x : Str) (fe : EF) : SF := fun ρ h => (fe ρ h).st ρ fun v h1 => match v with
  | .int i => .exc x ["at", "word"] [.int i, .str x] ρ h1
  | _ => .no
theorem raise_end {g : Gh} {ρ : VSt} {h : VH} {H : Hp} {σ : St} {x : Str} {i : Int} {C : Addr} {D : Ends} (hm : X.mg x = some (.ref C)) (rh : RH (ct X) g h H) (rs : RS (ct X) g H ρ σ) (p : PS1 (ct X) W g H D (.exc x ["at", "word"] [.int i, .str x] ρ h)) (d : Addr) (hd : H d = none) :
    W (.ref C) (some d) σ (upd H d (.xd [("at", V.int i), ("word", V.str x)])) := by
  have st : Stp g H g (upd H d (.xd [("at", V.int i), ("word", V.str x)])) := .junk rh hd
  exact p g _ σ C d [.int i, .str x] st (rh.junk hd) (rs.stp st) hm ⟨upd_same, (fun z => by obtain ⟨o, e⟩ := rh.fz d z; rw [hd] at e; cases e), (fun z => by obtain ⟨o, e⟩ := rh.root z; rw [hd] at e; cases e)⟩ rfl (RVs.cons (rv_int _ _ _ _) (RVs.one (by rw [RV])))
theorem js_raise0 {k : Nat} {x : Str} {p1 p2 pos : Pos} (O : OkX X.prog X.w X.K X.mg X.base k x) (hr : Room (k + 1) X.A) (hc : X.calm = true) (hg : Gl X x) (tk : L2N.Takes X W) (hdb : (x == ("__debug__" : Str)) = false := by decide) :
    PS X (.Raise (some (.Call (.Name x p1) [] [] p2)) none pos) (tS (ct X) W (sRaise0 x)) := by
  obtain ⟨C, f, fd, ds, hm, xc, iC, tI, F, b0, b1, hv⟩ := O.ex
  refine PS.mono (L2N.ps_raise (W := W) (t := fun σ H Q => ∀ d, H d = none → Q (.ref C) (some d) (upd H d (.xd [("at", V.int (-1)), ("word", .str x)]))) hc tk (fun pins s σ H Q I h => ?_)) fun D σ H ⟨g, ρ, h, rh, rs, p⟩ => ?_
  · refine wpAny_Call_Name_kw (ld_glob I hg hm ?_ hdb)
    refine PySem.W.callWith_K0 I.kIn xc.o.kC ?_
    exact mk_run (us := []) (vs := []) (dvs := [.int (-1)]) xc iC tI F hr b1 hv I .nil rfl h
  · exact raise_end hm rh rs p
theorem js_raise1 {k : Nat} {x : Str} {e : Expr} {fe : EF} {p1 p2 pos : Pos} (O : OkX X.prog X.w X.K X.mg X.base k x) (hr : Room (k + 1) X.A) (hc : X.calm = true) (hg : Gl X x) (tk : L2N.Takes X W) (he : PE X e (tE (ct X) W fe)) (hdb : (x == ("__debug__" : Str)) = false := by decide)
    (hs : starEach [e] X.env = (false, eval e X.env) :: starEach [] X.env := by rfl) (hpl : (backTo p2 (starEach [] X.env)).any (·.1) = false := by rfl) :
    PS X (.Raise (some (.Call (.Name x p1) [e] [] p2)) none pos) (tS (ct X) W (sRaise1 x fe)) := by
  obtain ⟨C, f, fd, ds, hm, xc, iC, tI, F, b0, b1, hv⟩ := O.ex
  refine PS.mono (L2N.ps_raise (W := W) (t := fun σ H Q => tE (ct X) W fe σ H fun v H1 => ∀ d, H1 d = none → Q (.ref C) (some d) (upd H1 d (.xd [("at", v), ("word", .str x)]))) hc tk (fun pins s σ H Q I h => ?_)) fun D σ H ⟨g, ρ, h, rh, rs, p⟩ => ?_
  · refine wpAny_Call_Name_kw (ld_glob I hg hm ?_ hdb)
    refine PySem.W.callWith_K (h₀ := X.base) I.ok.mod.kin xc.o.kC (thn ((pa_cons he pa_nil hs).run p2 pins s σ H (fun vs H1 => ∃ v, vs = [v] ∧ ∀ d, H1 d = none → Q (.ref C) (some d) (upd H1 d (.xd [("at", v), ("word", .str x)]))) I ?_) fun us s1 ⟨vs, H1, I1, r1, v, ev, q⟩ => ⟨I1.kIn, ?_⟩) hs hpl
    · obtain ⟨g, ρ, h0, rh, rs, p⟩ := h
      exact ⟨g, ρ, h0, rh, rs, p.imp fun u H1 z => ⟨u, rfl, z⟩⟩
    · subst ev
      exact mk_run (us := us) (vs := [v]) (dvs := []) xc iC tI F hr b0 .nil I1 r1 rfl q
  · unfold sRaise1 at p
    refine ⟨g, ρ, h, rh, rs, (Pst.st (R := RT (ct X)) rs p).imp fun u H1 ⟨g1, v, h1, st, rh1, rs1, rv1, p1⟩ => ?_⟩
    cases v with
    | int i =>
      have z := int_get rv1
      subst z
      exact raise_end hm rh1 rs1 p1
    | _ => exact p1.elim
end
end J
namespace J
open PySem L2
open PyProof.Rows (envOfC)
/-! methods and classes that let refusals out -/
abbrev Wc (E : XK) : WX := fun a d _ H' => E a d H'
def eMethX (cn m : Str) (n : Nat) (F : FF) (dws : List VV) (fo : EF) (fa : AF) : EF := fun ρ h => (fo ρ h).bind fun v h1 => match insOf h1 v with
  | some a => if a.1 = cn ∧ lookN a.2.1 a.2.2 m = none then (fa ρ h1).bind fun vs h2 => if (v :: (vs ++ dws)).length = n then F (v :: (vs ++ dws)) h2 else .no else .no
  | none => .no
def mkX (n0 : Nat) (r : Res VV) : Res VV := match r with
  | .ok .non h' => if n0 ≤ h'.length ∧ (h'.take n0).all (lowO n0) = true then (match dzV h' n0 8 (.obj n0) with
    | some w => .ok w (h'.take n0)
    | none => .no) else .no
  | .exc x ns vs h' => .exc x ns vs h'
  | _ => .no
def eMakeX (cn : Str) (n : Nat) (F : FF) (dws : List VV) (fa : AF) : EF := fun ρ h => (fa ρ h).bind fun vs h1 => if (VV.obj h1.length :: (vs ++ dws)).length = n then mkX h1.length (F (.obj h1.length :: (vs ++ dws)) (h1 ++ [.ins cn [] []])) else .no
section
variable {X : Cx} {E : XK}
theorem passX (tk : L2N.Takes X (Wc E)) : Passes (L2N.CX X.prog X.w) X E := L2N.passes_call tk fun _ _ _ _ h => h
theorem tMakeX_of {cn : Str} {n : Nat} {Fm : FF} {dws : List VV} {dvs : List V} {fa : AF} {C : Addr} (hC : X.mg cn = some (.ref C)) (hd : ∀ g H, RTs (ct X) g H dws dvs) {σ : St} {H : Hp} {Q : VK} (h : tE (ct X) (Wc E) (eMakeX cn n Fm dws fa) σ H Q) :
    tMake C (spF (ct X) n Fm) dvs E (tA (ct X) (Wc E) fa) σ H Q := by
  obtain ⟨g, ρ, h0, rh, rs, p⟩ := h
  refine ⟨g, ρ, h0, rh, rs, (Pst.bind (R := RTs (ct X)) p).imp fun vs H1 ⟨g1, ws, h1, st, rh1, rts, p1⟩ x dx hx hdx ne => ?_⟩
  by_cases hn : (VV.obj h1.length :: (ws ++ dws)).length = n
  · rw [if_pos hn] at p1
    have s1 : Stp g1 H1 g1 (upd H1 dx (.own x)) := .junk rh1 hdx
    have r1 : RH (ct X) g1 h1 (upd H1 dx (.own x)) := rh1.junk hdx
    have hx' : upd H1 dx (.own x) x = none := by rw [upd_ne (Ne.symm ne)]; exact hx
    have s2 : Stp g1 (upd H1 dx (.own x)) g1 (upd (upd H1 dx (.own x)) x (.ins C dx [])) := .junk r1 hx'
    have r2 : RH (ct X) g1 h1 (upd (upd H1 dx (.own x)) x (.ins C dx [])) := r1.junk hx'
    have nx : x ∉ g1.io := fun z => by
      obtain ⟨o, e⟩ := rh1.root z
      rw [hx] at e; cases e
    have s3 : Stp g1 (upd (upd H1 dx (.own x)) x (.ins C dx [])) (g1.add x) (upd (upd H1 dx (.own x)) x (.ins C dx [])) := .add
    have r3 : RH (ct X) (g1.add x) (h1 ++ [.ins cn [] []]) (upd (upd H1 dx (.own x)) x (.ins C dx [])) := r2.add nx (fun z => by
      obtain ⟨o, e⟩ := rh1.kp x z
      rw [hx] at e; cases e) ⟨(fun z => by
        obtain ⟨o, e⟩ := rh1.fz x z
        rw [hx] at e; cases e), C, dx, [], hC, upd_same, rfl, rfl⟩
    have ss := (s1.trans s2).trans s3
    have rx : RT (ct X) (g1.add x) (upd (upd H1 dx (.own x)) x (.ins C dx [])) (.obj h1.length) (.ref x) := ⟨x, by
      show (g1.io ++ [x])[h1.length]? = some x
      rw [← rh1.len, List.getElem?_append_right (Nat.le_refl _), Nat.sub_self]; rfl, rfl⟩
    refine ⟨g1.add x, .obj h1.length :: (ws ++ dws), h1 ++ [.ins cn [] []], r3, ⟨.ref x, _, rfl, rx, RTs.append (rts.stp ss) (hd _ _)⟩, hn, ?_⟩
    generalize Fm (.obj h1.length :: (ws ++ dws)) (h1 ++ [.ins cn [] []]) = r at p1 ⊢
    cases r with
    | no => exact p1
    | exc y ns vs h' => exact fun g' H' C d us st' rh' m e l rv => p1 g' H' C d us (ss.trans st') rh' m e l rv
    | ok v h' =>
      intro g' H' u st' rh' rv'
      cases v with
      | non =>
        refine ⟨non_get rv', ?_⟩
        unfold mkX at p1
        simp only at p1
        split at p1
        · rename_i cc
          cases e : dzV h' h1.length 8 (.obj h1.length) with
          | none => rw [e] at p1; exact p1.elim
          | some w =>
            rw [e] at p1
            have rx' : RT (ct X) g' H' (.obj h1.length) (.ref x) := rx.stp st'
            have rw' := dz_ok rh' 8 _ _ _ rx' e
            have rhm := melt rh' cc.1 cc.2
            have eio : g'.io.take h1.length = g1.io := by
              obtain ⟨l, hl⟩ := (ss.trans st').io
              rw [← hl, ← rh1.len, List.take_left]
            have all := ss.trans st'
            refine p1 ⟨g'.io.take h1.length, zNew g' h1.length, g'.kp⟩ H' (.ref x) ⟨by show g1.io <+: g'.io.take h1.length; rw [eio]; exact List.prefix_rfl, fun q z => .inl (all.fz q z), all.kp, all.fH, all.kH, all.tp⟩ rhm (RT.of_rv rw')
        · exact p1.elim
      | _ => exact p1.elim
  · rw [if_neg hn] at p1; exact p1.elim
theorem j_makeX {k n : Nat} {cn : Str} {Fm : FF} {dws : List VV} {e : Expr} {es : List Expr} {p pos : Pos} {fa : AF} (O : OkC X.prog X.w X.K X.mg X.base k cn n dws Fm) (hr : Room (k + 1) X.A) (hg : Gl X cn) (tk : L2N.Takes X (Wc E)) (ha : PA X (e :: es) (tA (ct X) (Wc E) fa))
    (hdb : (cn == ("__debug__" : Str)) = false := by decide) (he : starEach (e :: es) X.env = (false, eval e X.env) :: starEach es X.env := by rfl) (hpl : (backTo pos (starEach es X.env)).any (·.1) = false := by rfl) :
    PE X (.Call (.Name cn p) (e :: es) [] pos) (tE (ct X) (Wc E) (eMakeX cn n Fm dws fa)) := by
  obtain ⟨C, f, fd, ps, dvs, ds, h1, h2, h4, h5, h6, h7⟩ := O.ex
  exact PE.mono (pe_make (E := E) h2 h4 hr hg h1 h5 h6 (passX tk) ha hdb he hpl) fun σ H Q h => tMakeX_of h1 h7 h
end
end J
namespace J
open PySem L2
open PyProof.Rows (envOfC)
/-! within an except suite -/
/-- into a comprehension's block within an except suite -/
theorem blk_enterH {X : Cx} {pins : List (Addr × Obj)} {s : Shared} {σ : St} {H : Hp} {Q : VK} {node tg iter : Expr} {ifs : List Expr} {gs : List Comprehension} {scope : Scope} {own : List (Str × Nat)} {pos' : Pos} {wi : TI} {new : Sem Value} {o0 : Obj} {O : Addr → HO}
    (L : It → Addr → Hp → Prop) (hcl : clausesOf node = ⟨tg, iter, ifs, 0⟩ :: gs) (hN : X.N.Nodup) (I : Inv X pins σ H s) (hi : L2H.PIH X tg iter wi) (ok : BlkOk X.N X.env.scope scope own) (hs : ∀ x, foldedSetIterable iter X.env x = pure x)
    (hnew : ∀ (s : Shared) (E Q : Value → Shared → Prop), Q (.ref s.heap.objs.size) { s with heap := s.heap.push o0 } → wpAny (model X.prog X.w) X.A new Q E s)
    (hO : ∀ (h : Heap) (G : Hp), sysModules < h.objs.size → ObjOk X.prog X.w G (h.push o0) h.objs.size (O h.objs.size))
    (hst : ∀ (it acc : Value) (env : Env) (R : Result → Shared → Prop) (s : Shared), codeAny (model X.prog X.w) X.A (.compLoop node 0 it acc env) R s →
      wpAny (model X.prog X.w) X.A (pyIter it) (fun it' s' => codeAny (model X.prog X.w) X.A (.compLoop node 0 it' acc env) R s') (notedBy (model X.prog X.w) X.A env fun x s' => R (.error x) s') s → codeAny (model X.prog X.w) X.A (.compStart node 0 it acc env) R s)
    (h : wi σ H fun Jt H1 => ∀ D, H1 D = none → L Jt D (upd H1 D (O D)))
    (loop : ∀ (s3 : Shared) (H3 : Hp) (C : Addr) (cl : List (Str × Addr)) (fp : List Addr) (it D : Addr) (tn : Nat → Heap → Prop) (Jt : It) (s4 : Shared) (R : Result → Shared → Prop), L Jt D H3 → Inv (X.blk s3 H3 scope (compEnvC scope cl C X.env) fp) [] (wipe σ (own.map (·.2))) H3 s4 →
      (∀ G' s', Inv (X.blk s3 H3 scope (compEnvC scope cl C X.env) fp) [] (wipe σ (own.map (·.2))) G' s' → ∀ q ∈ X.pn, s'.heap.get? q.1 = some q.2 ∧ G' q.1 = none ∧ q.1 ≠ C ∧ q.1 ∉ frs X.stack ∧ (∀ b ∈ fp, q.1 ≠ b) ∧ ∀ v, q.2.data ≠ .cell v) →
      L2H.TurnH X.prog X.w X.K tg Jt fp it tn → tn 0 s4.heap → (∀ b ∈ fp, H3 b = none) → (∀ (b : Addr) (G : Hp), b ∈ fp → G b = none → FpOk (X.blk s3 H3 scope (compEnvC scope cl C X.env) fp) [] G b) →
      (∀ G s', Inv (X.blk s3 H3 scope (compEnvC scope cl C X.env) fp) [] (wipe σ (own.map (·.2))) G s' → Q (.ref D) G → R (.ok .next) s') →
      codeAny (model X.prog X.w) X.A (.compLoop node 0 (.ref it) (.ref D) (compEnvC scope cl C X.env)) R s4) :
    wpAny (model X.prog X.w) X.A (comprehension node scope X.env pos' new false (eval iter X.env) none) (EP X pins σ Q) X.xe s := by
  have hfree : ∀ y ∈ scope.names, y.2 = .free → ∃ c, X.env.cells.lookup y.1 = some c := by
    intro y hy e
    exact (ok.free y hy e).elim (fun k => I.ok.has _ (.inl k)) (fun k => I.ok.has _ (.inr k))
  refine wpAny_comprehension_free (use := none) hcl hs (closure_ok hfree) ok.kind (by intro y hy e; rw [ok.uniq y hy, e]) (thn (hi.run pins s σ H _ I h) fun xv s1 hx => thn hx fun itv s2 h2 => ?_)
  obtain ⟨it, fp, tn, Jt, H2, e, I2, T, st2, f2, lp⟩ := h2
  subst e
  refine hnew s2 _ _ (newEnv_comp ?_)
  have nD : H2 s2.heap.objs.size = none := I2.hok.fresh (Nat.le_refl _)
  have lp' := lp s2.heap.objs.size nD
  have I3 : Inv X pins σ (upd H2 s2.heap.objs.size (O s2.heap.objs.size)) { s2 with heap := s2.heap.push o0 } :=
    I2.laid (t' := s2.toks) (fun b o e => Heap.get?_push_of_some _ e) (Nat.le_refl _) (hO _ _ I2.big)
  have old : ∀ b ∈ fp, b < s2.heap.objs.size := by
    intro b hb
    obtain ⟨o, e, _⟩ := T.obj _ _ st2 b hb
    exact Heap.lt_size e
  have f3 : ∀ b ∈ fp, FpOk X pins (upd H2 s2.heap.objs.size (O s2.heap.objs.size)) b ∧ b < (s2.heap.push o0).objs.size := by
    intro b hb
    refine ⟨⟨?_, (f2 b hb).2⟩, by rw [Heap.size_push]; exact Nat.lt_succ_of_lt (old b hb)⟩
    rw [upd_ne (Nat.ne_of_lt (old b hb))]
    exact (f2 b hb).1
  have st3 : tn 0 (s2.heap.push o0) := T.keep _ _ _ st2 fun b _ o e => Heap.get?_push_of_some _ e
  have I4 := block_start I3 ok hN f3
  generalize hH3 : upd H2 s2.heap.objs.size (O s2.heap.objs.size) = H3 at I3 I4 f3 lp'
  have f3' : ∀ b ∈ fp, FpOk X pins H3 b ∧ b < ({ s2 with heap := s2.heap.push o0 } : Shared).heap.objs.size := f3
  have st3' : tn 0 ({ s2 with heap := s2.heap.push o0 } : Shared).heap := st3
  generalize ({ s2 with heap := s2.heap.push o0 } : Shared) = s3 at I3 I4 f3' st3' ⊢
  generalize s2.heap.objs.size = D at lp' ⊢
  clear f3 st3 nD hH3
  have st4 : tn 0 (pushCells (s3.heap.push { cls := .type "dict", data := .dict #[] }) scope.names) := T.keep _ _ _ st3' fun b _ o e => pushCells_keeps _ _ _ _ (Heap.get?_push_of_some _ e)
  have nfp : ∀ b ∈ fp, H3 b = none := fun b hb => (f3' b hb).1.1
  have stat : ∀ (b : Addr) (G : Hp), b ∈ fp → G b = none → FpOk (X.blk s3 H3 scope (compEnvC scope (cellsFrom (s3.heap.objs.size + 1) scope.names (cloFrom X.env.cells scope.names [])) s3.heap.objs.size X.env) fp) [] G b := by
    intro b G hb gn
    refine ⟨gn, (I4.ok.exf b hb).1, I4.ok.exfs b hb, .inl hb, fun x c e => (I4.ok.exf b hb).2 x c e, fun p hp => ?_⟩
    cases (show p ∈ ([] : List (Addr × Obj)) ++ [] from hp)
  have held : ∀ G' s', Inv (X.blk s3 H3 scope (compEnvC scope (cellsFrom (s3.heap.objs.size + 1) scope.names (cloFrom X.env.cells scope.names [])) s3.heap.objs.size X.env) fp) [] (wipe σ (own.map (·.2))) G' s' → ∀ q ∈ X.pn, s'.heap.get? q.1 = some q.2 ∧ G' q.1 = none ∧ q.1 ≠ s3.heap.objs.size ∧ q.1 ∉ frs X.stack ∧ (∀ b ∈ fp, q.1 ≠ b) ∧ ∀ v, q.2.data ≠ .cell v := by
    intro G' s' I' q hq
    have P := I3.pin q (List.mem_append_left _ hq)
    have nst : q.1 ∉ frs X.stack := fun hm => (List.mem_cons.mp (I3.stkSub q.1 hm)).elim P.2.2.1 P.2.2.2.1
    have nfp' : ∀ b ∈ fp, q.1 ≠ b := fun b hb => (f3' b hb).1.2.2.2.2.2 q (List.mem_append_left _ hq)
    have nex : q.1 ∉ fp := fun z => nfp' _ z rfl
    exact ⟨I'.base.keep q.1 q.2 P.1 P.2.1 nst nex, I'.base.free q.1 q.2 P.1 P.2.1 nex, Nat.ne_of_lt (Heap.lt_size P.1), nst, nfp', P.2.2.2.2⟩
  have go := loop s3 H3 s3.heap.objs.size (cellsFrom (s3.heap.objs.size + 1) scope.names (cloFrom X.env.cells scope.names [])) fp it D tn Jt _ (compPost (model X.prog X.w) X.A X.xe none (EP X pins σ Q) (.ref D) s3.heap.objs.size) lp' I4 held T st4 nfp stat fun G s' I5 q => ?_
  · exact hst _ _ _ _ _ go (T.self X.A 0 _ _ _ st4 go)
  · have cL : (X.blk s3 H3 scope (compEnvC scope (cellsFrom (s3.heap.objs.size + 1) scope.names (cloFrom X.env.cells scope.names [])) s3.heap.objs.size X.env) fp).env.locals = s3.heap.objs.size := rfl
    have I6 : Inv X pins σ G s' := I3.call' (ch := fp) I5.os I5.base I5.hok I5.bare fun b hb => by
      obtain ⟨-, q1, q2, q3, q4, q5⟩ := (f3' b hb).1
      exact ⟨q3, q1, q4, q5⟩
    have nC : G s3.heap.objs.size = none := by
      rw [← cL]; exact I5.free
    obtain ⟨m, hn, _⟩ := I5.loc
    rw [cL] at hn
    obtain ⟨q0, q1, q2, q3, q4, q5⟩ := I3.fpOk (H' := G) (Nat.le_refl _) nC
    exact ⟨m, hn, fun h' sb => ⟨.ref D, G, I6.turned (t' := s'.toks) (fun b o hb e => (sb.2 b hb).trans e) q0 q1 q3 q4 q5, rfl, q⟩⟩
abbrev pin1 (Y : Cx) (p : Addr × Obj) : Cx := { Y with pn := p :: Y.pn }
/-- the same state, with a thing that is held -/
theorem inv_pn {Y : Cx} {pins : List (Addr × Obj)} {σ : St} {H : Hp} {s : Shared} {p : Addr × Obj} (I : Inv Y pins σ H s) (h : s.heap.get? p.1 = some p.2 ∧ H p.1 = none ∧ p.1 ≠ Y.env.locals ∧ p.1 ∉ Y.fs ∧ ∀ v, p.2.data ≠ .cell v) : Inv (pin1 Y p) pins σ H s :=
  ⟨⟨I.ok.mod, I.ok.kind, I.ok.glob, I.ok.blt, I.ok.above, I.ok.inj, I.ok.has, I.ok.cab, I.ok.hd, I.ok.frames, I.ok.stk, I.ok.exf, I.ok.bs, I.ok.bsz, I.ok.noex, I.ok.exfs, I.ok.funs, I.ok.frf⟩, I.os, I.bare, I.base, I.loc, I.cell, I.free, I.freeC, fun q hq => by
    rcases List.mem_cons.mp (show q ∈ p :: (Y.pn ++ pins) from hq) with e | e
    · rw [e]; exact h
    · exact I.pin q e, I.hok, I.len⟩
theorem inv_unpn {Y : Cx} {pins : List (Addr × Obj)} {σ : St} {H : Hp} {s : Shared} {p : Addr × Obj} (I : Inv (pin1 Y p) pins σ H s) : Inv Y pins σ H s :=
  ⟨⟨I.ok.mod, I.ok.kind, I.ok.glob, I.ok.blt, I.ok.above, I.ok.inj, I.ok.has, I.ok.cab, I.ok.hd, I.ok.frames, I.ok.stk, I.ok.exf, I.ok.bs, I.ok.bsz, I.ok.noex, I.ok.exfs, I.ok.funs, I.ok.frf⟩, I.os, I.bare, I.base, I.loc, I.cell, I.free, I.freeC, fun q hq => I.pin q (List.mem_cons_of_mem p hq), I.hok, I.len⟩
/-- a list comprehension within an except suite -/
theorem hot_lc {X : Cx} {elt tg iter : Expr} {ifs : List Expr} {scope : Scope} {own : List (Str × Nat)} {pos : Pos} {wi : TI} {g : TG} {tt : TT} {te : TE} (hc : L2H.HotC X) (hN : X.N.Nodup) (hi : L2H.PIH X tg iter wi) (ok : BlkOk X.N X.env.scope scope own)
    (hg : ∀ (s : Shared) (H : Hp) (C : Addr) (cl : List (Str × Addr)) (fp : List Addr), PG (X.blk s H scope (compEnvC scope cl C X.env) fp) tg g)
    (ht : ∀ (s : Shared) (H : Hp) (C : Addr) (cl : List (Str × Addr)) (fp : List Addr), PTs (X.blk s H scope (compEnvC scope cl C X.env) fp) ifs tt)
    (he : ∀ (s : Shared) (H : Hp) (C : Addr) (cl : List (Str × Addr)) (fp : List Addr), PE (X.blk s H scope (compEnvC scope cl C X.env) fp) elt te) (hs : ∀ x, foldedSetIterable iter X.env x = pure x := by intro _; rfl) :
    PE X (.ListComp elt [⟨tg, iter, ifs, 0⟩] scope pos) (tLc wi g tt te (own.map (·.2))) := by
  refine ⟨fun pins s σ H Q I h => ?_⟩
  rw [eval_ListComp]
  obtain ⟨p, hot, hp⟩ := hc
  refine blk_enterH (O := fun _ => .lst []) (Q := Q) (o0 := { cls := .type "list", data := .seq ([] : List Value).toArray }) (fun Jt D H3 => ∃ W : Nat → Nat → Hp → Prop, (∃ m, W 0 m H3) ∧ ∀ i m H, W i m H → (Jt.stop i H ∧ Q (.ref D) H) ∨ (Jt.go i H ∧ ∃ Nx : Hp → Prop, (∀ H', Nx H' → ∃ m', m' < m ∧ W (i + 1) m' H') ∧ ∀ x H', Jt.yld i H x H' → g x (wipe σ (own.map (·.2))) H' fun σ2 H2 => wipe σ2 (own.map (·.2)) = wipe σ (own.map (·.2)) ∧ tt σ2 H2 fun b H3 =>
    if b = true then te σ2 H3 fun y H4 => ∃ acc, H4 D = some (.lst acc) ∧ acc.length < sizeLine ∧ Nx (upd H4 D (.lst (acc ++ [y]))) else Nx H3)) rfl hN I hi ok hs (fun s E Q q => wpAny_newObj_type q (by show 0 ≤ sizeLine; decide)) ?_ (fun it acc env R s a b => codeAny_compStart_list a b) h ?_
  · intro h0 G _
    exact ⟨Nat.zero_le _, [], 0, .nil, Heap.get?_push_size _ rfl⟩
  · rintro s3 H3 C cl fp it D tn Jt s4 R ⟨W, ⟨m0, w0⟩, turn⟩ I4 held T st4 nfp stat done
    refine compLoop_any (fun m s' => ∃ i H', Inv (X.blk s3 H3 scope (compEnvC scope cl C X.env) fp) [] (wipe σ (own.map (·.2))) H' s' ∧ tn i s'.heap ∧ (∀ b ∈ fp, H' b = none) ∧ W i m H') ?_ m0 ⟨0, H3, I4, st4, nfp, w0⟩
    rintro m s5 ⟨i, H5, I5, st5, n5, w5⟩
    have hpn := held H5 s5 I5 p hp
    have I5p := inv_pn (p := p) I5 ⟨hpn.1, hpn.2.1, hpn.2.2.1, hpn.2.2.2.1, hpn.2.2.2.2.2⟩
    have hc' : L2H.HotC (pin1 (X.blk s3 H3 scope (compEnvC scope cl C X.env) fp) p) := ⟨p, hot, List.mem_cons_self ..⟩
    have stat' : ∀ b ∈ fp, FpOk (pin1 (X.blk s3 H3 scope (compEnvC scope cl C X.env) fp) p) [] H5 b := fun b hb => by
      obtain ⟨q0, q1, q2, q3, q4, q5⟩ := stat b H5 hb (n5 b hb)
      refine ⟨q0, q1, q2, q3, q4, fun q hq => ?_⟩
      have e : q = p := by simpa using hq
      rw [e]
      exact hpn.2.2.2.2.1 b hb
    rcases turn i m H5 w5 with ⟨stop, fin⟩ | ⟨go, Nx, hNx, step⟩
    · refine thnF (T.done (pin1 (X.blk s3 H3 scope (compEnvC scope cl C X.env) fp) p) rfl rfl rfl hc' i [] s5 _ H5 (fun _ _ => False) I5p stat' st5 stop) fun r s6 ⟨hr, I6p⟩ => ?_
      subst hr
      exact done H5 s6 (inv_unpn I6p) fin
    · refine thnF (T.item (pin1 (X.blk s3 H3 scope (compEnvC scope cl C X.env) fp) p) rfl rfl rfl hc' i [] s5 _ H5 (fun _ _ => False) I5p stat' st5 go) fun r s6 ⟨u, hr, h6⟩ => ?_
      subst hr
      refine thnF h6 fun _ s7 ⟨x, H7, I7p, r7, y7, st7, n7⟩ => ?_
      have I7 := inv_unpn I7p
      have I7' := I7.pinned (fun b hb => stat b _ hb (n7 b hb)) (T.obj _ _ st7)
      refine thnF ((hg s3 H3 C cl fp).run _ s7 _ _ _ u _ I7' r7 (step x H7 y7)) fun _ s8 ⟨σ8, H8, I8, hw8, q8⟩ => ?_
      refine thnF ((ht s3 H3 C cl fp).run _ s8 σ8 H8 _ I8 q8) fun b s9 ⟨H9, I9, q9⟩ => ?_
      have turned : ∀ {s' : Shared} {H' : Hp}, Inv (X.blk s3 H3 scope (compEnvC scope cl C X.env) fp) ([] ++ pinsAt fp s7.heap) σ8 H' s' → Nx H' → ∃ m1, m1 < m ∧ ∃ i H', Inv (X.blk s3 H3 scope (compEnvC scope cl C X.env) fp) [] (wipe σ (own.map (·.2))) H' s' ∧ tn i s'.heap ∧ (∀ b ∈ fp, H' b = none) ∧ W i m1 H' := by
        intro s' H' I' nx
        obtain ⟨m', hm, w'⟩ := hNx H' nx
        have still : ∀ b ∈ fp, ∀ o, s7.heap.get? b = some o → s'.heap.get? b = some o ∧ H' b = none := by
          intro b hb o e
          have z := I'.pin (b, o) (List.mem_append_right _ (List.mem_append_right _ (mem_pinsAt hb e)))
          exact ⟨z.1, z.2.1⟩
        have hl : (wipe σ (own.map (·.2))).length = σ8.length := by rw [← hw8, wipe_length]
        refine ⟨m', hm, i + 1, H', (I'.unpinned (pins := [])).weak hl (fun j v e => ?_), T.keep _ _ _ st7 fun b hb o e => (still b hb o e).1, fun b hb => ?_, w'⟩
        · rw [← hw8] at e
          exact (wipe_some e).1
        · obtain ⟨o, e, _⟩ := T.obj _ _ st7 b hb
          exact (still b hb o e).2
      cases b with
      | false =>
        simp only [Bool.false_eq_true, if_false] at q9 ⊢
        exact turned I9 q9
      | true =>
        simp only [if_true] at q9 ⊢
        refine thnF ((he s3 H3 C cl fp).run _ s9 σ8 H9 _ I9 q9) fun z s10 ⟨yv, H10, I10, r10, acc, hD10, hz10, nx⟩ => ?_
        exact app_ok (X := X.blk s3 H3 scope (compEnvC scope cl C X.env) fp) I10 hD10 hz10 r10 fun s11 I11 => turned I11 nx
end J
namespace J
open PySem L2
open PyProof.Rows (envOfC)
theorem PIH.mono {X : Cx} {tg e : Expr} {t t' : TI} (h : L2H.PIH X tg e t) (m : ∀ σ H R, t' σ H R → t σ H R) : L2H.PIH X tg e t' := ⟨fun pins s σ H R I q => h.run pins s σ H R I (m σ H R q)⟩
section
variable {X : Cx} {W : WX}
theorem ji_range1H {tg a : Expr} {f : EF} {p pos : Pos} (hg : Gl X "range") (hm : X.mg "range" = none) (ha : PE X a (tE (ct X) W f)) (hs : starEach [a] X.env = [(false, eval a X.env)] := by rfl) : L2H.PIH X tg (.Call (.Name "range" p) [a] [] pos) (tI (ct X) W (iRange1 f)) :=
  PIH.mono (L2H.pi_range1H hg hm (pa_cons ha pa_nil hs) hs) fun σ H R h => by
    obtain ⟨g, ρ, h0, rh, rs, p⟩ := h
    unfold iRange1 at p
    refine ⟨g, ρ, h0, rh, rs, ?_⟩
    cases e : f ρ h0 with
    | no => rw [e] at p; exact p.elim
    | exc x ns vs h' => rw [e] at p; exact p
    | ok v h1 =>
      rw [e] at p
      cases v with
      | int n =>
        simp only [Res.bind] at p
        by_cases hn : -(2 ^ 62) ≤ n ∧ n < 2 ^ 62
        · rw [if_pos hn] at p
          intro g' H' u st rh' rv
          exact ⟨n, by rw [int_get rv], hn.1, hn.2, p g' H' _ st rh' deliv_rng⟩
        · rw [if_neg hn] at p; exact p.elim
      | _ => exact p.elim
theorem j_lcH {elt tg iter : Expr} {ifs : List Expr} {scope : Scope} {own : List (Str × Nat)} {pos : Pos} {it : AF} {g : TG} {b : VV → VSt → Option VSt} {ft : TF} {fe : EF} (hc : L2H.HotC X) (hN : X.N.Nodup) (hi : L2H.PIH X tg iter (tI (ct X) W it)) (ok : BlkOk X.N X.env.scope scope own)
    (hg : ∀ (s : Shared) (H : Hp) (C : Addr) (cl : List (Str × Addr)) (fp : List Addr), PG (X.blk s H scope (compEnvC scope cl C X.env) fp) tg g) (pat : PatOk X.K g b (own.map (·.2)))
    (ht : ∀ (s : Shared) (H : Hp) (C : Addr) (cl : List (Str × Addr)) (fp : List Addr), PTs (X.blk s H scope (compEnvC scope cl C X.env) fp) ifs (tT (ct X) W0 ft))
    (he : ∀ (s : Shared) (H : Hp) (C : Addr) (cl : List (Str × Addr)) (fp : List Addr), PE (X.blk s H scope (compEnvC scope cl C X.env) fp) elt (tE (ct X) W0 fe)) (hs : ∀ x, foldedSetIterable iter X.env x = pure x := by intro _; rfl) :
    PE X (.ListComp elt [⟨tg, iter, ifs, 0⟩] scope pos) (tE (ct X) W (eLc (own.map (·.2)) it b ft fe)) :=
  PE.mono (hot_lc hc hN hi ok hg ht he hs) fun σ H Q h => by
    exact tLc_of (mk := fun vs h => .ok (.lst vs) h) pat mk_lst h
/-! text.split(sep) -/
def eSplit (o e : EF) : EF := fun ρ h => (o ρ h).bind fun v h1 => match v with
  | .str a => (e ρ h1).bind fun w h2 => (match w with
    | .str b => if (b.length == 0) = false ∧ a.length + 2 ≤ SZ then .ok (.lst ((Txt.split a b).map .str)) h2 else .no
    | _ => .no)
  | _ => .no
theorem rvs_strs {c : Ct} {z : Addr → Prop} {H : Hp} : ∀ ys : List Str, RVs c z H (ys.map VV.str) (ys.map V.str)
  | [] => RVs.nil
  | y :: ys => RVs.cons (by rw [RV]) (rvs_strs ys)
theorem j_split {o e : Expr} {fo fe : EF} {apos pos : Pos} (ho : PE X o (tE (ct X) W fo)) (he : PE X e (tE (ct X) W fe)) (hs : starEach [e] X.env = [(false, eval e X.env)] := by rfl) (hbase : attributeBase o "split" X.env (eval o X.env) = eval o X.env := by rfl) (hline : (apos.endLine == pos.line) = true := by rfl) :
    PE X (.Call (.Attribute o "split" apos) [e] [] pos) (tE (ct X) W (eSplit fo fe)) :=
  PE.mono (pe_split ho he hs hbase hline) fun σ H Q ⟨g, ρ, h0, rh, rs, p⟩ => by
    refine ⟨g, ρ, h0, rh, rs, (Pst.bind (R := RT (ct X)) p).imp fun u H1 ⟨g1, v, h1, st, rh1, rv1, p1⟩ => ?_⟩
    cases v with
    | str a =>
      refine ⟨⟨a, str_get rv1⟩, g1, ρ, h1, rh1, rs.stp st, (Pst.bind (R := RT (ct X)) p1).imp fun u2 H2 ⟨g2, w, h2, st2, rh2, rv2, p2⟩ => ?_⟩
      cases w with
      | str b =>
        simp only at p2
        by_cases cc : (b.length == 0) = false ∧ a.length + 2 ≤ SZ
        · rw [if_pos cc] at p2
          refine ⟨a, b, str_get rv1, by rw [str_get rv2], cc.1, SZ_le cc.2, fun q hq => ?_⟩
          obtain ⟨s1, s2, s3⟩ := new_lst rh2 hq (rvs_strs (Txt.split a b))
          exact p2 _ _ _ s1 s2 s3
        · rw [if_neg cc] at p2; exact p2.elim
      | _ => exact p2.elim
    | _ => exact p1.elim
end
/-! isinstance of the handled exception (which has a dict) -/
section
open PySem.W PySem.Calls PyProof.Rows
variable {prog : Program} {w : World} {A : Around} {E : Value → Shared → Prop} {s : Shared} {K : Frag} {x D : Addr} {ox od : Obj}
theorem ca_exc {Q : Option Value → Shared → Prop} (T : L2.ExcC K D) (X : K.In s.heap) (I : InstAt s.heap x ox D (some od)) (h : Q (some (.ref D)) { s with toks := s.toks + 1 }) : wpAny (model prog w) A (getAttr? (.ref x) "__class__") Q E s := by
  obtain ⟨cdD, hcD, _⟩ := any_some T.hd
  have hf : findObj K D (some od) "__class__" = some (.bind (.builtin "getset_descriptor.__get__") (.builtin "object.__class__")) := findObj_data (by rw [hcD]; rfl) T.ha T.hn T.ht
  obtain ⟨hp, gs, dr, tk, os⟩ := s
  have la := I.type (M := model prog w)
  have lb := looks_findIn (M := model prog w) X T.hg
  have lc := looks_findIn (M := model prog w) X T.hk
  have ld := looks_find (M := model prog w) X I hf
  have isB : Looks (model prog w) hp (isInstance (.ref x) (.type "BaseException")) true := la.andThen (looks_subIn X T.hs)
  have n2 : (onTheHeap (Value.ref D) && Value.builtin "BaseException.__getattribute__" == Value.builtin "object.__getattribute__") = false := by
    have n1 : (Value.builtin "BaseException.__getattribute__" == Value.builtin "object.__getattribute__") = false := by decide +kernel
    rw [n1]; rfl
  unfold getAttr? getAttrBy? getAttrBy
  apply wpAny_bind; apply wpAny_mkText; apply wpAny_bind; apply wpAny_attempt; apply wpAny_holding; apply wpAny_bind
  refine la.at ?_
  apply wpAny_bind
  refine lb.at ?_
  show wpAny _ _ (if (onTheHeap (Value.ref D) && Value.builtin "BaseException.__getattribute__" == Value.builtin "object.__getattribute__") = true then _ else _) _ _ _
  rw [n2, if_neg Bool.false_ne_true]
  unfold getAttrByItsOwn hookBefore
  apply wpAny_bind
  rw [if_pos (show onTheHeap (Value.ref D) = true from rfl)]
  refine lc.at ?_
  apply wpAny_bind; apply wpAny_attempt; apply wpAny_holding
  unfold callGetattribute
  rw [show (false && onTheHeap (Value.builtin "BaseException.__getattribute__")) = false from rfl, if_neg Bool.false_ne_true]
  unfold boundAndCalled
  rw [PySem.F.excAttr_ValueError.ga.bind (.ref x)]
  apply wpAny_bind; apply wpAny_pure
  show wpAny _ _ (call (.builtin "BaseException.__getattribute__") [.ref x, .str "__class__" tk]) _ _ _
  apply wpAny_call
  refine codeAny_call_builtin PySem.F.excAttr_ValueError.ga.plain PySem.F.entry_bexc_ga ?_
  refine @check_slot (model prog w) _ _ ⟨hp, gs, dr, tk + 1, os⟩ "BaseException.__getattribute__" "BaseException" "__getattribute__" (.ref x) [.str "__class__" tk] [] _ (by decide +kernel) (by decide +kernel) isB (PySem.F.args_bexc_ga (.ref x) (.str "__class__" tk)) ?_
  unfold Builtin.«object.__getattribute__»
  apply wpAny_bind
  refine wpAny_of_eq (a := ((Value.ref x : Value), [Value.str "__class__" tk])) (by first | rfl | (simp only [slotArgs]; rfl)) ?_
  apply wpAny_bind; apply wpAny_pure; apply wpAny_bind
  refine la.at ?_
  apply wpAny_bind
  refine ld.at ?_
  show wpAny _ _ (holding [Value.builtin "object.__class__"] (call (.builtin "getset_descriptor.__get__") [.builtin "object.__class__", .ref x, .ref D]) >>= ret) _ _ _
  apply wpAny_bind; apply wpAny_holding; apply wpAny_call
  refine class_get (s := ⟨hp, gs, dr, tk + 1, os⟩) (ox := ox) (od := some od) X I T.hm ?_
  apply wpAny_pure
  show wpAny _ _ (handedOut (.ref D)) _ _ _
  rw [handedOut_of (v := .ref D) rfl]
  first
    | exact wpAny_pure (wpAny_pure h)
    | exact wpAny_pure h
theorem kitx_excD (T : L2.ExcC K D) : KitX K (.ref x) (.ref D) (fun h => ∃ ox od, InstAt h x ox D (some od)) where
  ty := fun _ _ _ ⟨_, _, I⟩ => I.type
  it := fun _ _ X _ => by
    obtain ⟨cdD, hcD, _⟩ := any_some T.hd
    unfold clsIn at hcD
    split at hcD
    · rename_i ho
      intro A' Q' E' s' k q
      unfold isType loadHead
      apply wpAny_bind
      exact wpAny_loadPart (k _ _ (X _ _ ho)) (wpAny_pure q)
    · cases hcD
  ne := fun h tp dd its n sl X htp => by
    obtain ⟨cdD, hcD, _⟩ := any_some T.hd
    apply Bool.eq_false_iff.mpr
    intro q
    have e : D = tp := Value.ref.inj (beq_iff_eq.mp q)
    subst e
    unfold clsIn at hcD
    split at hcD
    · rename_i ho
      have z := (X _ _ ho).symm.trans htp
      cases z
    · cases hcD
  ca := fun X ⟨ox, od, I⟩ k => ca_exc T X I k
end
/-- isinstance(e, c): e held by a pin, its dict at dd -/
def rIsD (Y : Cx) (D a dd : Addr) : List V → Hp → VK → Prop := fun xs H Q => ∃ (c : V) (cv : Value) (b : Bool), xs = [.ref a, c] ∧ (∀ u, RelV c u → u = cv) ∧ PySem.W.kitOne Y.K (.ref D) cv = some b ∧ ((∃ fs, H dd = some (.xd fs)) ∨ ∃ o, Y.s_0.heap.get? dd = some o ∧ dd ∉ Y.ex) ∧ Q (.bl b) H
theorem call_isD {Y : Cx} {a D dd : Addr} {oe : Obj} (hp : (a, oe) ∈ Y.pn) (T : ExcC Y.K D) (hz : Zc (.ref D) (some dd) oe) (hf : ∃ vs, oe.data = .fields vs) : CallR Y (.builtin "isinstance") (rIsD Y D a dd) := by
  intro pins s σ H xs us Q I r h
  obtain ⟨c, cv, b, rfl, hcv, e, hd, q⟩ := h
  cases r with
  | cons rx rr =>
    cases rr with
    | cons rt rr =>
      cases rr
      cases rx
      have ec := hcv _ rt
      subst ec
      have hget := (I.pin (a, oe) (List.mem_append_left _ hp)).1
      obtain ⟨vs, hv⟩ := hf
      have hod : ∃ od, s.heap.get? dd = some od := by
        rcases hd with ⟨fs, hfs⟩ | ⟨o, ho, hx⟩
        · have z : ObjOk Y.prog Y.w H s.heap dd (.xd fs) := I.hok dd _ hfs
          obtain ⟨mA, hns, _⟩ := z
          obtain ⟨o, _, _, e1, _⟩ := hns
          exact ⟨o, e1⟩
        · exact I.base.there dd o ho hx
      obtain ⟨od, hod⟩ := hod
      have J : PySem.W.InstAt s.heap a oe D (some od) := ⟨hget, hz.1, by unfold PySem.W.notCls; rw [hv] <;> rfl, by rw [hz.2]; exact hod⟩
      exact PySem.W.kia_one (kitx_excD T) I.kIn ⟨oe, od, J⟩ e (fun z => nomatch z) fun tk => ⟨.bl b, H, I.kept (t' := tk) fun _ _ z => z, rfl, q⟩
def eIsE (i : Nat) (a : Addr) (b : Bool) : EF := fun ρ h => match ρ[i]? with
  | some (some (.raw a')) => if a' = a then .ok (.bl b) h else .no
  | _ => .no
theorem j_isE {Y : Cx} {W : WX} {a D dd C : Addr} {oe : Obj} {i : Nat} {x y : Str} {b : Bool} {p1 p2 p3 pos : Pos} (hp : (a, oe) ∈ Y.pn) (T : ExcC Y.K D) (hz : Zc (.ref D) (some dd) oe) (hf : ∃ vs, oe.data = .fields vs) (hd : ∃ o, Y.s_0.heap.get? dd = some o) (hx : dd ∉ Y.ex)
    (hg : Gl Y "isinstance") (hm : Y.mg "isinstance" = none) (hN : Y.N[i]? = some x) (hv : Vis Y.env.scope x) (hgy : Gl Y y) (hmy : Y.mg y = some (.ref C)) (hk : PySem.W.kitOne Y.K (.ref D) (.ref C) = some b)
    (h1 : (x == ("__debug__" : Str)) = false := by decide) (h2 : (x == ("__classdict__" : Str)) = false := by decide) (h3 : (y == ("__debug__" : Str)) = false := by decide)
    (he : starEach [.Name x p2, .Name y p3] Y.env = (false, eval (.Name x p2) Y.env) :: starEach [.Name y p3] Y.env := by rfl) :
    PE Y (.Call (.Name "isinstance" p1) [.Name x p2, .Name y p3] [] pos) (tE (ct Y) W (eIsE i a b)) :=
  PE.mono (pe_callB (call_isD hp T hz hf) hg hm (by decide +kernel) (pa_cons (pe_var (i := i) hN hv h1 h2) (pa_cons (pe_glob (v := .ref C) hgy hmy rfl h3) pa_nil)) (by decide) (by decide) he) fun σ H Q ⟨g, ρ, h0, rh, rs, p⟩ => by
    unfold eIsE at p
    split at p
    · rename_i a' er
      split at p
      · rename_i ea
        subst ea
        obtain ⟨u, eu, ru⟩ := rs.get i _ er
        have eu2 : u = .ref a' := by have q := ru.rv rfl; rw [RV] at q; exact q
        subst eu2
        obtain ⟨o, ho⟩ := hd
        exact ⟨.ref a', eu, .ref C, .ref C, b, rfl, fun u r => r, hk, .inr ⟨o, ho, hx⟩, p g H _ .refl rh rt_bl⟩
      · exact p.elim
    · exact p.elim
end J
namespace J
open PySem L2
open PyProof.Rows (envOfC)
/-- x(e, ..) within the except suite, x a def: the exception at p.1 is held, its dict stands at dd -/
def tHot (dd : Addr) (N ps : List Str) (tb : TS) (t : TA) : TE := fun σ H Q => t σ H fun vs H1 => vs.length = ps.length ∧ (∃ fs, H1 dd = some (.xd fs)) ∧ tb { nx := fun _ H' => Q .non H', rt := Q } (L2.start N vs) H1
theorem pe_hot {X : Cx} {k : Nat} {f dd : Addr} {x : Str} {params : Arguments} {body : List Stmt} {scope : Scope} {fd : FuncData} {N ps : List Str} {p : Addr × Obj} {e : Expr} {es : List Expr} {t : TA} {tb : TS} {q pos : Pos} (F : FunD X.K x x params body scope [] [] f fd) (S : FnScope N ps scope) (hm : X.mg x = some (.ref f)) (hg : Gl X x)
    (hr : L2H.RoomH (k + 1) X.A) (hot : L2H.Hot1 X.A p) (hp : p ∈ X.pn) (hb : Binds X.K fd ps []) (ha : PA X (e :: es) t)
    (hbody : ∀ (cdv : Value) (s : Shared) (H : Hp), (∃ o, s.heap.get? dd = some o) → L2H.RoomH k (X.A.deeper (envOfC x scope s.heap.objs.size f cdv)) → PSs (L2H.cxH (L2N.CX X.prog X.w) X.prog X.w X.K X.mg X.base N x scope f cdv X.A X.stack s H X0 p) body tb)
    (hdb : (x == ("__debug__" : Str)) = false := by decide) (he : starEach (e :: es) X.env = (false, eval e X.env) :: starEach es X.env := by rfl) (hpl : (backTo pos (starEach es X.env)).any (·.1) = false := by rfl) :
    PE X (.Call (.Name x q) (e :: es) [] pos) (tHot dd N ps tb t) := by
  refine ⟨fun pins s σ H Q I h => ?_⟩
  have kp := F.kp
  obtain ⟨oc, od, dV, kV, doc, pm, an, cdv, ctv, osl, efd, lk, hcd, _, _⟩ := F.ex
  subst efd
  refine wpAny_Call_Name_kw (ld_glob I hg hm ?_ hdb)
  refine PySem.W.callWith_K (h₀ := X.base) I.ok.mod.kin kp (thn (ha.run pos pins s σ H _ I h) fun us s1 ⟨vs, H1, I1, r, hl, ⟨fs, hfs⟩, qb⟩ => ⟨I1.kIn, ?_⟩) he hpl
  have hdd : ∃ o, s1.heap.get? dd = some o := by
    have z : ObjOk X.prog X.w H1 s1.heap dd (.xd fs) := I1.hok dd _ hfs
    obtain ⟨mA, ⟨o, _, _, e1, _⟩, _⟩ := z
    exact ⟨o, e1⟩
  have P1 := I1.pin p (List.mem_append_left _ hp)
  have held : L2H.PinOk X.stack H1 s1 p := ⟨P1.1, P1.2.1, fun z => (List.mem_cons.mp (I1.stkSub p.1 z)).elim P1.2.2.1 P1.2.2.2.1, P1.2.2.2.2⟩
  have lu : us.length = ps.length := by rw [← r.length]; exact hl
  have bb := hb s1 us I1.kIn (by rw [List.append_nil]; exact lu)
  rw [List.append_nil] at bb
  have e0 := I1.env0
  have KX : X.K.In s1.heap := I1.kIn
  have noL : s1.heap.NoLimit := e0.mod.nolimit.keeps fun b o z => (e0.bs b o z).1
  have kinds : ∀ y ∈ ps.zip us, scope.names.lookup y.1 = some .local ∨ (scope.names.lookup y.1 = some .cell ∧ ((cellsFrom (s1.heap.objs.size + 1) scope.names []).lookup y.1).isSome = true) := by
    rintro ⟨n, v⟩ hy
    exact (S.par n (List.of_mem_zip hy).1).elim .inl fun z => .inr ⟨z, PySem.W.cellsFrom_some _ _ _ (.inl z)⟩
  have run : codeAny (model X.prog X.w) X.A (.call (.ref f) ⟨us, []⟩) (CR (L2N.CX X.prog X.w) X.stack X.prog X.w H1 s1 Q X0) s1 := by
    apply codeAny_call_function hr.depth (KX _ _ lk) rfl S.co S.gen rfl (PySem.W.codeRec_of KX hcd)
    apply bb
    apply wpAny_newFunctionEnv_cells S.kind kinds
    intro env henv s2 ic
    subst henv
    refine ⟨noL.keeps ic.toInCall.keep, codeAny_func ?_⟩
    have pb := hbody cdv s1 H1 hdd (hr.deeper _)
    have I2 := L2H.inv_startH (CX := L2N.CX X.prog X.w) (E := X0) S held e0 hl r ic
    apply wpAny_mono (pb.run [] s2 (L2.start N vs) H1 { nx := fun _ H' => Q .non H', rt := Q } I2 qb)
    · intro fl s3 z
      cases fl with
      | ret u =>
        obtain ⟨v, σ3, H3, I3, rv, q3⟩ := z
        exact ⟨v, H3, I3.os, I3.bare, I3.base, I3.hok, rv, q3⟩
      | next =>
        obtain ⟨σ3, H3, I3, q3⟩ := z
        exact ⟨.non, H3, I3.os, I3.bare, I3.base, I3.hok, rfl, q3⟩
      | brk => obtain ⟨_, _, _, z⟩ := z; exact z.elim
      | cont => obtain ⟨_, _, _, z⟩ := z; exact z.elim
    · exact fun _ _ z => z
  apply wpAny_call
  apply codeAny_mono run
  intro rr s' z
  cases rr with
  | error er => exact (cx_no z).elim
  | ok fl =>
    cases fl with
    | ret u => exact I1.after z
    | next => exact z.elim
    | brk => exact z.elim
    | cont => exact z.elim
end J
namespace J
open PySem L2
def kindNames : List Str := ["BadFace", "Full", "BadSize", "BadRow", "BadRests", "NotShut", "BadMap", "NotFace", "NotNear", "NoFace", "NotFree", "BadName", "Taken", "NoWeb", "NoRow", "BadKind", "Unlike", "Had", "NothingLeft", "BadText"]
def isL (a : Addr) (i k : Nat) : EF := eLst (aCons (eIsE 0 a (i == 4 * k)) (aCons (eIsE 0 a (i == 4 * k + 1)) (aCons (eIsE 0 a (i == 4 * k + 2)) (aCons (eIsE 0 a (i == 4 * k + 3)) aNil))))
def B_kinds (a : Addr) (i : Nat) : SF := sSeq (sSet 1 (isL a i 0)) (sSeq (sSet 1 (eBin opAdd (eVar 1) (isL a i 1))) (sSeq (sSet 1 (eBin opAdd (eVar 1) (isL a i 2))) (sSeq (sSet 1 (eBin opAdd (eVar 1) (isL a i 3))) (sSeq (sSet 1 (eBin opAdd (eVar 1) (isL a i 4)))
  (sSeq (sSet 2 (eC (.str "BadFace Full BadSize BadRow BadRests NotShut BadMap NotFace NotNear NoFace NotFree BadName Taken NoWeb"))) (sSeq (sSet 2 (eSplit (eBin opAdd (eVar 2) (eC (.str " NoRow BadKind Unlike Had NothingLeft BadText"))) (eC (.str " "))))
  (sRet (eLc [3] (iRange1 (eC (.int 20))) (bNm 3) (tVal (eBin opIx (eVar 1) (eVar 3))) (eBin opIx (eVar 2) (eVar 3))))))))))
theorem isE_eval {a : Addr} {b : Bool} {r : VSt} {h : VH} : eIsE 0 a b (some (.raw a) :: r) h = .ok (.bl b) h := by
  unfold eIsE
  simp
theorem isL_eval {a : Addr} {i k : Nat} {r : VSt} {h : VH} : isL a i k (some (.raw a) :: r) h = .ok (.lst [.bl (i == 4 * k), .bl (i == 4 * k + 1), .bl (i == 4 * k + 2), .bl (i == 4 * k + 3)]) h := by
  unfold isL eLst aCons aNil
  simp only [isE_eval, Res.bind]
  rfl
def ksAt (i : Nat) : List VV := (List.range 20).map fun j => VV.bl (i == j)
theorem kinds_first {a : Addr} {i : Nat} {r : VSt} {h : VH} : sSet 1 (isL a i 0) (some (.raw a) :: none :: r) h = .nx (some (.raw a) :: some (.lst ((ksAt i).take 4)) :: r) h := by
  unfold sSet
  rw [isL_eval]
  rfl
theorem kinds_next {a : Addr} {i k : Nat} {xs : List VV} {r : VSt} {h : VH} (hx : xs.length ≤ 20) : sSet 1 (eBin opAdd (eVar 1) (isL a i k)) (some (.raw a) :: some (.lst xs) :: r) h = .nx (some (.raw a) :: some (.lst (xs ++ [.bl (i == 4 * k), .bl (i == 4 * k + 1), .bl (i == 4 * k + 2), .bl (i == 4 * k + 3)])) :: r) h := by
  unfold sSet eBin eVar
  simp only [List.getElem?_cons_succ, List.getElem?_cons_zero, Res.bind]
  rw [isL_eval]
  unfold opAdd
  simp only [Res.bind]
  have z : (24 : Nat) ≤ SZ := by decide
  rw [if_pos (by simp; omega)]
  rfl
def kinds3 : SF := sSeq (sSet 2 (eC (.str "BadFace Full BadSize BadRow BadRests NotShut BadMap NotFace NotNear NoFace NotFree BadName Taken NoWeb"))) (sSeq (sSet 2 (eSplit (eBin opAdd (eVar 2) (eC (.str " NoRow BadKind Unlike Had NothingLeft BadText"))) (eC (.str " "))))
  (sRet (eLc [3] (iRange1 (eC (.int 20))) (bNm 3) (tVal (eBin opIx (eVar 1) (eVar 3))) (eBin opIx (eVar 2) (eVar 3)))))
theorem kinds_rest {a : Addr} {h : VH} : ∀ i, i < 20 → kinds3 [some (.raw a), some (.lst (ksAt i)), none, none] h = .ret (.lst [.str (kindNames.getD i "")]) h
  | 0, _ => by kernel_rfl
  | 1, _ => by kernel_rfl
  | 2, _ => by kernel_rfl
  | 3, _ => by kernel_rfl
  | 4, _ => by kernel_rfl
  | 5, _ => by kernel_rfl
  | 6, _ => by kernel_rfl
  | 7, _ => by kernel_rfl
  | 8, _ => by kernel_rfl
  | 9, _ => by kernel_rfl
  | 10, _ => by kernel_rfl
  | 11, _ => by kernel_rfl
  | 12, _ => by kernel_rfl
  | 13, _ => by kernel_rfl
  | 14, _ => by kernel_rfl
  | 15, _ => by kernel_rfl
  | 16, _ => by kernel_rfl
  | 17, _ => by kernel_rfl
  | 18, _ => by kernel_rfl
  | 19, _ => by kernel_rfl
  | n + 20, hn => absurd hn (by omega)
theorem kinds_eval {a : Addr} {h : VH} {i : Nat} (hi : i < 20) : B_kinds a i [some (.raw a), none, none, none] h = .ret (.lst [.str (kindNames.getD i "")]) h := by
  unfold B_kinds
  unfold sSeq
  simp only [kinds_first]
  rw [kinds_next (by simp [ksAt])]
  simp only
  rw [kinds_next (by simp [ksAt])]
  simp only
  rw [kinds_next (by simp [ksAt])]
  simp only
  rw [kinds_next (by simp [ksAt])]
  simp only
  exact kinds_rest i hi
end J
namespace J
open PySem L2
open PyProof.Rows (envOfC)
/-! _law_refusal(lambda: ..) -/
theorem ext_ok {c : Ct} {g : Gh} {h : VH} {H H1 : Hp} (rh : RH c g h H) (e : LamX.ExtN H H1) (t : LTab c H1) : Stp g H g H1 ∧ RH c g h H1 := by
  have keep : ∀ q, (∃ o, H q = some o) → (∀ ps, H q ≠ some (.tbl ps)) → H1 q = H q := fun q ⟨o, ho⟩ n => by
    rw [ho]
    exact e q o ho (fun ps z => n ps (by rw [ho, z]))
  have hfz : ∀ q, g.fz q → H1 q = H q := fun q z => keep q (rh.fz q z) (rh.nt q (.inl z))
  have hkp : ∀ q, g.kp q → H1 q = H q := fun q z => keep q (rh.kp q z) (rh.nt q (.inr z))
  have hio : ∀ a ∈ g.io, H1 a = H a := fun a z => keep a (rh.root z) (rh.rootNt z)
  have st : Stp g H g H1 := ⟨List.prefix_rfl, fun _ h => h, fun _ h => h, fun q z => .inl (hfz q z), hkp, fun q us z => e q _ z (fun _ y => by cases y)⟩
  refine ⟨st, rh.len, rh.nd, fun n o a h1 h2 => RO.stp st (fun h => h) (hio a (List.mem_of_getElem? h2)) (rh.at' n o a h1 h2), fun q z => ?_, fun q z => ?_, rh.kd, t, fun q z ps => ?_⟩
  · rw [hfz q z]; exact rh.fz q z
  · rw [hkp q z]; exact rh.kp q z
  · rw [z.elim (hfz q) (hkp q)]; exact rh.nt q z ps
theorem or_eqU {X : Cx} (hu : X.A.units + 64 < cLine) : OpR X (compareOp .Eq) (Rd2 (ct X) opEq) :=
  OpR.imp (OpR.or op_eq (op_eqD hu)) fun x y H Q ⟨g, h, v, w, r, rh, rv, rw', e, kk⟩ => by
    obtain ⟨b, e1, e2⟩ := Option.map_eq_some_iff.mp e
    cases e2
    rcases eqD_cases rv rw' e1 with ⟨q1, q2⟩ | ⟨d, e, q1, q2, q3, q4, q5⟩
    · exact .inl ⟨q1, by rw [q2]; exact kk g H _ .refl rh rt_bl⟩
    · exact .inr ⟨d, e, q1, q2, q3, q4, by rw [q5]; exact kk g H _ .refl rh rt_bl⟩
/-- what the written part says of a refusal that is told -/
structure RefC (K : PySem.W.Frag) (mg : Str → Option Value) (WE : Addr) (x : Str) (i : Nat) (C : Addr) : Prop where
  m : mg x = some (.ref C)
  lt : i < 20
  nm : kindNames.getD i "" = x
  ec : ExcC K C
  xf : XfC K C
  nw : PySem.W.findIn K (.ref C) "word" = some none
  na : PySem.W.findIn K (.ref C) "at" = some none
  ex : PySem.W.exmOne K (.ref C) (.ref WE) = some true
  ve : PySem.W.kitOne K (.ref C) (.type "ValueError") = some true
  ks : ∀ j, j < 20 → ∃ Cj, mg (kindNames.getD j "") = some (.ref Cj) ∧ PySem.W.kitOne K (.ref C) (.ref Cj) = some (i == j)
/-- the body of _law_kinds, walked within the except suite -/
def KindsOk (P : Program) (w : World) (K : PySem.W.Frag) (mg : Str → Option Value) (base : Heap) (WE : Addr) (k : Nat) (body : List Stmt) (scope : Scope) (f : Addr) : Prop :=
  ∀ (cdv : Value) (A : Around) (outer : List Env) (s : Shared) (H : Hp) (a C dd : Addr) (oe : Obj) (x : Str) (i : Nat), RefC K mg WE x i C → Zc (.ref C) (some dd) oe → (∃ vs, oe.data = .fields vs) → (∃ o, s.heap.get? dd = some o) → L2H.Hot1 A (a, oe) → L2H.RoomH k (A.deeper (envOfC "_law_kinds" scope s.heap.objs.size f cdv)) →
    PSs (L2H.cxH (L2N.CX P w) P w K mg base ["_law_e", "_law_h", "_law_w", "_law_at"] "_law_kinds" scope f cdv A outer s H X0 (a, oe)) body (tS ⟨K, mg⟩ W0 (B_kinds a i))
/-- the wish at the except suite -/
def tSuite (c : Ct) (WE : Addr) (a : Addr) (cls : Value) (d : Option Addr) : TS := fun D σ H => ∃ (C dd : Addr) (x : Str) (i : Nat) (n : Int) (g : Gh) (h : VH), cls = .ref C ∧ d = some dd ∧ RefC c.K c.mg WE x i C ∧ H dd = some (.xd [("at", .int n), ("word", .str x)]) ∧ RH c g h H ∧ ¬ g.fz dd ∧ dd ∉ g.io ∧
  σ.length = 4 ∧ σ[3]? = some (some (.ref a)) ∧ ∀ g' H' σ' p, Stp g H g' H' → RH c g' h H' → H' p = some (.tup [.str x, .int n]) → σ'.length = 4 → σ'[1]? = some (some (.ref p)) → D.nx σ' H'
theorem kinds_ok : ∀ i, i < 20 → PyData.strOk (kindNames.getD i "") = true := by decide +kernel
theorem eq_strs {h : VH} {x : Str} (hx : PyData.strOk x = true) : opEq h (.lst [.str x]) (.lst [.str x]) = some (.bl true) := by
  have sh : SeqAt.shaped (toD (.lst [.str x])) = true := by
    unfold SeqAt.shaped
    simp [toD, toDs, PyData.canLay0, PyData.canLayAll0, PyData.depth, PyData.depthAll, hx]
  have ev : PyData.eqv (toD (.lst [.str x])) (toD (.lst [.str x])) = true := by
    simp [toD, toDs, PyData.eqv, PyData.eqvAll]
  unfold opEq eqD
  simp only
  rw [if_pos ⟨by simp [isD, isDs], by simp [isD, isDs], sh, sh⟩, ev]; rfl
section
variable {X : Cx}
theorem suite_ok {WE fk : Addr} {k : Nat} {pk : Arguments} {bk : List Stmt} {sk : Scope} {fdk : FuncData} {p1 p2 p3 p4 p5 p6 p7 p8 p9 p10 p11 p12 p13 p14 p15 p16 p17 p18 p19 p20 p21 p22 p23 p24 p25 p26 p27 p28 p29 p30 : Pos} {i1 i2 i3 i4 i5 : Nat}
    (hN : X.N = (["_law_ask", "_law_found", "_law_kinds_here", "_law_e"] : List Str)) (l1 : X.env.scope.names.lookup ("_law_found" : Str) = some NameKind.local) (l2 : X.env.scope.names.lookup ("_law_kinds_here" : Str) = some NameKind.local) (l3 : X.env.scope.names.lookup ("_law_e" : Str) = some NameKind.local)
    (gk : Gl X "_law_kinds") (gi : Gl X "isinstance") (gv : Gl X "ValueError") (mi : X.mg "isinstance" = none) (mv : X.mg "ValueError" = none) (Fk : FunD X.K "_law_kinds" "_law_kinds" pk bk sk [] [] fk fdk) (Sk : FnScope ["_law_e", "_law_h", "_law_w", "_law_at"] ["_law_e"] sk) (mk : X.mg "_law_kinds" = some (.ref fk)) (hbk : Binds X.K fdk ["_law_e"] [])
    (hr : L2H.RoomH (k + 1) X.A) (KB : KindsOk X.prog X.w X.K X.mg X.base WE k bk sk fk) (a : Addr) (oe : Obj) (cls : Value) (d : Option Addr) (pn : List (Addr × Obj)) (hz : L2N.Zn cls d oe) (hf : ∃ vs, oe.data = .fields vs) :
    PSs (X.suite a ((a, oe) :: pn)) [.Assign [.Name "_law_kinds_here" p1] (.Call (.Name "_law_kinds" p2) [.Name "_law_e" p3] [] p4) p5,
      .Assign [.Name "_law_found" p6] (.Tuple [.Constant (.str "other") i1 p7, .UnaryOp .USub (.Constant (.int 1) i2 p8) p9] i3 p10) p11,
      .If (.BoolOp .And [.Compare (.Name "_law_kinds_here" p12) [.Eq] [.List [.Attribute (.Name "_law_e" p13) "word" p14] p15] p16, .Call (.Name "isinstance" p17) [.Name "_law_e" p18, .Name "ValueError" p19] [] p20] p21)
        [.Assign [.Name "_law_found" p22] (.Tuple [.Subscript (.Name "_law_kinds_here" p23) (.Constant (.int 0) i4 p24) p25, .Attribute (.Name "_law_e" p26) "at" p27] i5 p28) p29] [] p30] (tSuite (ct X) WE a cls d) := by
  refine ⟨fun pins s σ H D I pre => ?_⟩
  obtain ⟨C, dd, x, i, n, g, h, rfl, rfl, R, hdd, rh, nf, ni, hl, h3, fin⟩ := pre
  have hzc : Zc (.ref C) (some dd) oe := hz.zc
  have hot : L2H.Hot1 (X.suite a ((a, oe) :: pn)).A (a, oe) := by
    obtain ⟨vs, hv⟩ := hf
    exact ⟨rfl, vs, hv, hz.2.2 vs hv⟩
  have hN' : (X.suite a ((a, oe) :: pn)).N.Nodup := by show X.N.Nodup; rw [hN]; decide +kernel
  have n1 : (X.suite a ((a, oe) :: pn)).N[1]? = some ("_law_found" : Str) := by show X.N[1]? = _; rw [hN]; rfl
  have n2 : (X.suite a ((a, oe) :: pn)).N[2]? = some ("_law_kinds_here" : Str) := by show X.N[2]? = _; rw [hN]; rfl
  have n3 : (X.suite a ((a, oe) :: pn)).N[3]? = some ("_law_e" : Str) := by show X.N[3]? = _; rw [hN]; rfl
  have hrS : L2H.RoomH (k + 1) (X.suite a ((a, oe) :: pn)).A := ⟨hr.dp, hr.un⟩
  have hu : (X.suite a ((a, oe) :: pn)).A.units + 64 < cLine := by have := hr.un; show X.A.units + 64 < cLine; omega
  have d0 := ps_set (X := X.suite a ((a, oe) :: pn)) (i := 2) (pos := p5) (pos' := p1) hN' n2 (.inl l2) (pe_hot (X := X.suite a ((a, oe) :: pn)) (dd := dd) (q := p2) (pos := p4) Fk Sk mk gk hrS hot (List.mem_cons_self ..) hbk (pa_cons (pe_var (i := 3) (pos := p3) n3 (.inl l3)) pa_nil)
    (fun cdv s H hd hr2 => KB cdv _ _ s H a C dd oe x i R hzc hf hd hot hr2)) (hf := .inr l2)
  have d1 := ps_set (X := X.suite a ((a, oe) :: pn)) (i := 1) (pos := p11) (pos' := p6) hN' n1 (.inl l1) (pe_tup (x1 := i3) (pos := p10) (pa_cons (pe_str (j := i1) (pos := p7) (x := "other")) (pa_cons (pe_un (pos := p9) un_neg (pe_int (j := i2) (pos := p8) (i := 1))) pa_nil))) (hf := .inr l1)
  have xw := pe_xf (X := X) (pn := pn) (n := "word") (pos := p14) R.xf R.nw hzc hf (pe_var (i := 3) (pos := p13) n3 (.inl l3))
  have xa := pe_xf (X := X) (pn := pn) (n := "at") (pos := p27) R.xf R.na hzc hf (pe_var (i := 3) (pos := p26) n3 (.inl l3))
  have tv := pt_val (pe_callB (X := X.suite a ((a, oe) :: pn)) (p := p17) (pos := p20) (call_isD (List.mem_cons_self ..) R.ec hzc hf) gi mi (by decide +kernel) (pa_cons (pe_var (i := 3) (pos := p18) n3 (.inl l3)) (pa_cons (pe_bltn (v := .ty "ValueError") (pos := p19) gv mv PyProof.Rows.Boot.«ValueError» rfl) pa_nil)))
  have d2 := ps_if (pos := p30) (PW.pt (pw_and (pos := p21) (pt_cmpR (pos := p16) (or_eqU hu) (pe_var (i := 2) (pos := p12) n2 (.inl l2)) (pe_lst (pos := p15) (pa_cons xw pa_nil)) (nomark _)) (pw_and1 (pos := p21) tv)))
    (pss_one (ps_set (X := X.suite a ((a, oe) :: pn)) (i := 1) (pos := p29) (pos' := p22) hN' n1 (.inl l1) (pe_tup (x1 := i5) (pos := p28) (pa_cons (j_ix (W := W0) (X := X.suite a ((a, oe) :: pn)) (pos := p25) ir_ix (j_var 2 (pe_var (i := 2) (pos := p23) n2 (.inl l2))) (j_int (i := 0) (j := i4) (pos := p24)) (fun _ _ => rfl)) (pa_cons xa pa_nil))) (hf := .inr l1))) pss_nil
  refine (pss_cons d0 (pss_cons d1 (pss_one d2))).run pins s σ H D I ?_
  have lenS : ∀ (i : Nat) (v : Option V), (σ.set i v).length = 4 := fun i v => by rw [List.length_set]; exact hl
  refine ⟨.ref a, h3, rfl, ⟨_, hdd⟩, g.keep dd, [some (.raw a), none, none, none], h, rh.keep hdd nf ni, ⟨rfl, ?_⟩, ?_⟩
  · intro j v e
    match j, e with
    | 0, e =>
      cases e
      exact ⟨.ref a, rfl, RT.of_rv (by rw [RV])⟩
    | 1, e => cases e
    | 2, e => cases e
    | 3, e => cases e
    | j + 4, e => simp at e
  rw [kinds_eval R.lt, R.nm]
  intro g2 H2 u st rh2 rv
  have kp2 : g2.kp dd := st.kp dd (.inr rfl)
  have hdd2 : H2 dd = some (.xd [("at", .int n), ("word", .str x)]) := (st.kH dd (.inr rfl)).trans hdd
  refine ⟨1, rfl, by show 2 ≤ sizeLine; rw [PySem.sizeLine_eq]; decide, fun p hp => ?_⟩
  have st3 : Stp g2 H2 g2 (upd H2 p (.tup [.str "other", .int (-1)])) := .junk rh2 hp
  have rh3 : RH (ct X) g2 h (upd H2 p (.tup [.str "other", .int (-1)])) := rh2.junk hp
  have hdd3 : upd H2 p (.tup [.str "other", .int (-1)]) dd = some (.xd [("at", .int n), ("word", .str x)]) := (st3.kH dd kp2).trans hdd2
  have s2 : ((σ.set 2 (some u)).set 1 (some (V.ref p)))[2]? = some (some u) := by
    rw [List.getElem?_set_ne (by decide), List.getElem?_set_self (by omega)]
  have s3 : ((σ.set 2 (some u)).set 1 (some (V.ref p)))[3]? = some (some (.ref a)) := by
    rw [List.getElem?_set_ne (by decide), List.getElem?_set_ne (by decide)]; exact h3
  have l3' : ((σ.set 2 (some u)).set 1 (some (V.ref p))).length = 4 := by rw [List.length_set, List.length_set]; exact hl
  revert st3 rh3 hdd3
  generalize upd H2 p (.tup [.str "other", .int (-1)]) = H3
  intro st3 rh3 hdd3
  refine ⟨u, s2, .ref a, s3, rfl, rfl, dd, _, .str x, rfl, hdd3, rfl, by show 1 ≤ sizeLine; rw [PySem.sizeLine_eq]; decide, fun p4 hp4 => ?_⟩
  obtain ⟨st4, rh4, rt4⟩ := new_lst (xs := [.str x]) rh3 hp4 (RVs.one (by rw [RV]))
  refine ⟨g2.frz p4, h, .lst [.str x], .lst [.str x], .bl true, rh4, (rv.stp st3).stp st4, rt4, eq_strs (by rw [← R.nm]; exact kinds_ok i R.lt), fun g5 H5 u5 st5 rh5 rv5 => ⟨true, bl_get rv5, ?_⟩⟩
  show (if (true : Bool) = true then _ else _)
  rw [if_pos rfl]
  have kp5 : g5.kp dd := st5.kp dd (st4.kp dd kp2)
  have hdd5 : H5 dd = some (.xd [("at", .int n), ("word", .str x)]) := ((st5.kH dd (st4.kp dd kp2)).trans (st4.kH dd kp2)).trans hdd3
  refine ⟨.ref a, s3, .ty "ValueError", .type "ValueError", true, rfl, fun u r => r, R.ve, .inl ⟨_, hdd5⟩, true, rfl, ?_⟩
  show (if (true : Bool) = true then _ else _)
  rw [if_pos rfl]
  have ru5 : RT (ct X) g5 H5 (.lst [.str x]) u := ((rv.stp st3).stp st4).stp st5
  refine ⟨g5, [none, none, some (.lst [.str x]), none], h, rh5, ⟨l3'.symm, ?_⟩, ?_⟩
  · intro j v e
    match j, e with
    | 0, e => cases e
    | 1, e => cases e
    | 2, e =>
      cases e
      exact ⟨u, s2, ru5⟩
    | 3, e => cases e
    | j + 4, e => simp at e
  intro g6 H6 u6 st6 rh6 rv6
  have e6 := str_get rv6
  subst e6
  have hdd6 : H6 dd = some (.xd [("at", .int n), ("word", .str x)]) := (st6.kH dd kp5).trans hdd5
  refine ⟨.ref a, s3, rfl, rfl, dd, _, .int n, rfl, hdd6, rfl, by show 2 ≤ sizeLine; rw [PySem.sizeLine_eq]; decide, fun p7 hp7 => ?_⟩
  have all : Stp (g.keep dd) H g6 (upd H6 p7 (.tup [.str x, .int n])) := ((((st.trans st3).trans st4).trans st5).trans st6).trans (.junk rh6 hp7)
  refine fin (g6.back g.kp) _ _ p7 all.back ((rh6.junk hp7).back (fun q z => all.kp q (.inl z))) upd_same ?_ ?_
  · rw [List.length_set]; exact l3'
  · rw [List.getElem?_set_self (by omega)]
end
end J
namespace J
open PySem L2
open PyProof.Rows (envOfC)
/-- the context of a lambda's body; what it lets out has no context of its own -/
abbrev lamN (X : Cx) (A : Around) (outer : List Env) (s : Shared) (H : Hp) (E : XK) (scope : Scope) (f c' : Addr) : Cx := (LamX.lamCx X A outer s H E scope f c').wish fun e s' =>
  wpAny (model X.prog X.w) (A.deeper (LamX.lamEnv X scope s.heap.objs.size f c')) (leaving (LamX.lamEnv X scope s.heap.objs.size f c') e) (fun _ s2 => L2N.CX X.prog X.w outer H s E e s2) (fun e2 s2 => L2N.CX X.prog X.w outer H s E e2 s2) s'
theorem pe_actN {X : Cx} {pins : List (Addr × Obj)} {σ : L2.St} {H : Hp} {s : Shared} {Ng : List Str} {qg : Str} {sg : Scope} {gA f c' : Addr} {cdg pm ctv : Value} {params : Arguments} {body : Expr} {scope : Scope} {k i : Nat} {a : Str} {pn : List (Addr × Obj)} {xe : Value → Shared → Prop} {W : WX} {tb : XK → TE} {p1 p2 : Pos}
    (I : Inv X pins σ H s) (L : LamX.LamS X.env.scope scope) (hf : s.heap.get? f = some (PySem.W.kla_obj "<lambda>" (X.env.qual ++ "<lambda>") params body scope (cloFrom X.env.cells scope.names []) pm c' ctv)) (hfn : H f = none) (hfr : f ∉ frs X.stack)
    (hbind : bindArgs (PySem.W.kla_fn "<lambda>" (X.env.qual ++ "<lambda>") params body scope (cloFrom X.env.cells scope.names []) pm (.ref c') ctv) ⟨[], []⟩ = pure [])
    (tk : L2N.Takes ((cxOf C8.CX0 X.prog X.w X.K X.mg X.base Ng qg sg gA cdg X.A X.stack s H C8.E0).tr pn xe) W) (hr : Room (k + 1) (X.A.deeper (envOfC qg sg s.heap.objs.size gA cdg)))
    (hbody : ∀ (A : Around) (outer : List Env) (s : Shared) (H : Hp) (E : XK), Room k (A.deeper (LamX.lamEnv X scope s.heap.objs.size f c')) → PE (lamN X A outer s H E scope f c') body (tb E))
    (hN : Ng[i]? = some a) (hv : Vis sg a) (hd : (a == ("__debug__" : Str)) = false := by decide) (hcd : (a == ("__classdict__" : Str)) = false := by decide) :
    PE ((cxOf C8.CX0 X.prog X.w X.K X.mg X.base Ng qg sg gA cdg X.A X.stack s H C8.E0).tr pn xe) (.Call (.Name a p1) [] [] p2)
      (fun τ G Q => τ[i]? = some (some (.ref f)) ∧ G c' = some (LamX.CodeO c' (X.env.qual ++ "<lambda>")) ∧ tb (fun cls d G' => W cls d τ G') σ G Q) := by
  refine ⟨fun qs s0 τ G Q I0 h => ?_⟩
  obtain ⟨hs, hc, ht⟩ := h
  have rd := (pe_var (pos := p1) (i := i) hN hv hd hcd).run qs s0 τ G (fun v G1 => v = .ref f ∧ G1 = G) I0 ⟨.ref f, hs, rfl, rfl⟩
  refine wpAny_Call_Name_kw (thn rd fun u s1 z => ?_)
  obtain ⟨v, G1, I1, r1, ev, eG⟩ := z
  subst ev
  subst eG
  obtain rfl : u = Value.ref f := r1
  have hf1 : s1.heap.get? f = some (PySem.W.kla_obj "<lambda>" (X.env.qual ++ "<lambda>") params body scope (cloFrom X.env.cells scope.names []) pm c' ctv) := by
    refine I1.base.keep f _ hf hfn hfr fun z => ?_
    cases z
  apply PySem.W.callWith_F0 ⟨_, _, _, _, hf1⟩
  have kept : Un (frs X.stack) [] H G1 s.heap s1.heap := I1.base
  obtain ⟨⟨oc, vs, t, hoc, hdc, hvc⟩, _, _⟩ := I1.hok c' _ hc
  have run : codeAny (model X.prog X.w) (X.A.deeper (envOfC qg sg s.heap.objs.size gA cdg)) (.call (.ref f) ⟨[], []⟩) (CR (L2N.CX X.prog X.w) (envOfC qg sg s.heap.objs.size gA cdg :: X.stack) X.prog X.w G1 s1 Q fun cls d G' => W cls d τ G') s1 := by
    apply PySem.W.kla_callFunE hr.depth hf1 rfl L.co L.gen rfl ⟨c', oc, vs, t, rfl, hoc, hdc, hvc⟩
    rw [hbind]
    apply wpAny_pure
    refine wpAny_newFunctionEnv (fun y hy => (L.own y hy).2) (fun y hy => absurd hy (by simp)) (fun h1 hns hsb => ?_) L.kind
    refine ⟨I1.nolimit.fresh _ hsb, ?_⟩
    show codeAny _ _ (.expr body (LamX.lamEnv X scope s1.heap.objs.size f c')) _ _
    have old : ∀ b o, s1.heap.get? b = some o → h1.get? b = some o := by
      intro b o z
      exact hsb.extBut b o (Nat.ne_of_lt (Heap.lt_size z)) (Heap.get?_push_of_some _ z)
    have J0 := LamX.lam_start2 (E := fun cls d G' => W cls d τ G') (f := f) (c' := c') (tk := s1.toks + ([] : List (Str × Value)).length) I L I1.env0 hr.hd kept hns old
    have J : Inv (lamN X (X.A.deeper (envOfC qg sg s.heap.objs.size gA cdg)) (envOfC qg sg s.heap.objs.size gA cdg :: X.stack) s1 G1 (fun cls d G' => W cls d τ G') scope f c') [] σ G1 { s1 with heap := h1, toks := s1.toks + ([] : List (Str × Value)).length } := J0.wish _
    apply PySem.W.kla_codeExpr
    refine wpAny_mono ((hbody _ _ s1 G1 _ (hr.deeper _)).run [] _ _ G1 Q J ht) (fun v s2 hq => ?_) fun e s2 hq => hq
    obtain ⟨w2, G2, J2, rv, q⟩ := hq
    exact ⟨w2, G2, J2.os, J2.bare, J2.base, J2.hok, rv, q⟩
  apply wpAny_call
  apply codeAny_mono run
  intro rr s2 hq
  cases rr with
  | error e => exact L2N.passAt tk τ qs G1 s1 e s2 I1 hq
  | ok fl =>
    cases fl with
    | ret u => exact I1.after hq
    | next => exact hq.elim
    | brk => exact hq.elim
    | cont => exact hq.elim
def eRef (xs : List Str) (fb : EF) : EF := fun ρ h => match fb ρ h with
  | .no => .no
  | .ok _ h' => .ok (.tup [.str "let", .int (-1)]) (trim h.length .non h')
  | .exc x ns vs h' => if x ∈ xs ∧ ns = (["at", "word"] : List Str) then (match vs with
    | [.int n, .str y] => if y = x then .ok (.tup [.str x, .int n]) (trim h.length .non h') else .no
    | _ => .no) else .no
theorem rt_pair {c : Ct} {g : Gh} {H : Hp} {p : Addr} {x : Str} {n : Int} (e : H p = some (.tup [.str x, .int n])) : RT c g H (.tup [.str x, .int n]) (.ref p) := by
  refine RT.of_rv ?_
  rw [RV]
  exact ⟨p, _, rfl, e, RVs.cons (by rw [RV]) (RVs.one (rv_int _ _ _ _))⟩
theorem ref_run {X : Cx} {W : WX} {xs : List Str} {fb : EF} {WE g0 fk : Addr} {k kk : Nat} {pg pk : Arguments} {bg bk : List Stmt} {sg sk : Scope} {fdg fdk : FuncData} {params : Arguments} {body : Expr} {scope : Scope}
    {p1 p2 p3 p4 p5 p6 p7 p8 p9 p10 p11 p12 p13 p14 p15 p16 p17 p18 p19 p20 p21 p22 p23 p24 p25 p26 p27 p28 p29 p30 q1 q2 q3 q4 q5 q6 q7 q8 q9 q10 q11 q12 q13 q14 : Pos} {i1 i2 i3 i4 i5 i6 i7 i8 : Nat}
    (hm : X.mg "_law_refusal" = some (.ref g0)) (FD : FunD X.K "_law_refusal" "_law_refusal" pg bg sg [] [] g0 fdg) (Sg : FnScope ["_law_ask", "_law_found", "_law_kinds_here", "_law_e"] ["_law_ask"] sg) (hbg : Binds X.K fdg ["_law_ask"] [])
    (ebg : bg = [.Assign [.Name "_law_found" q1] (.Tuple [.Constant (.str "let") i6 q2, .UnaryOp .USub (.Constant (.int 1) i7 q3) q4] i8 q5) q6,
      .Try [.Expr (.Call (.Name "_law_ask" q7) [] [] q8) q9] [.ExceptHandler (some (.Name "WebError" q10)) (some "_law_e") [.Assign [.Name "_law_kinds_here" p1] (.Call (.Name "_law_kinds" p2) [.Name "_law_e" p3] [] p4) p5,
      .Assign [.Name "_law_found" p6] (.Tuple [.Constant (.str "other") i1 p7, .UnaryOp .USub (.Constant (.int 1) i2 p8) p9] i3 p10) p11,
      .If (.BoolOp .And [.Compare (.Name "_law_kinds_here" p12) [.Eq] [.List [.Attribute (.Name "_law_e" p13) "word" p14] p15] p16, .Call (.Name "isinstance" p17) [.Name "_law_e" p18, .Name "ValueError" p19] [] p20] p21)
        [.Assign [.Name "_law_found" p22] (.Tuple [.Subscript (.Name "_law_kinds_here" p23) (.Constant (.int 0) i4 p24) p25, .Attribute (.Name "_law_e" p26) "at" p27] i5 p28) p29] [] p30] q11] [] [] q12,
      .Return (some (.Name "_law_found" q13)) q14])
    (l0 : sg.names.lookup ("_law_ask" : Str) = some NameKind.local) (l1 : sg.names.lookup ("_law_found" : Str) = some NameKind.local) (l2 : sg.names.lookup ("_law_kinds_here" : Str) = some NameKind.local) (l3 : sg.names.lookup ("_law_e" : Str) = some NameKind.local)
    (gk : sg.names.lookup ("_law_kinds" : Str) = some NameKind.globalImplicit) (gi : sg.names.lookup ("isinstance" : Str) = some NameKind.globalImplicit) (gv : sg.names.lookup ("ValueError" : Str) = some NameKind.globalImplicit) (gw : sg.names.lookup ("WebError" : Str) = some NameKind.globalImplicit)
    (mi : X.mg "isinstance" = none) (mv : X.mg "ValueError" = none) (mw : X.mg "WebError" = some (.ref WE)) (Fk : FunD X.K "_law_kinds" "_law_kinds" pk bk sk [] [] fk fdk) (Sk : FnScope ["_law_e", "_law_h", "_law_w", "_law_at"] ["_law_e"] sk) (mk : X.mg "_law_kinds" = some (.ref fk)) (hbk : Binds X.K fdk ["_law_e"] [])
    (KB : KindsOk X.prog X.w X.K X.mg X.base WE kk bk sk fk) (RX : ∀ x ∈ xs, ∃ i C, RefC X.K X.mg WE x i C)
    (hr : Room (k + 2) X.A) (hk : kk ≤ k) (L : LamX.LamS X.env.scope scope)
    (hbind : ∀ (q : Str) (cl : List (Str × Addr)) (pm cv ctv : Value), bindArgs (PySem.W.kla_fn "<lambda>" q params body scope cl pm cv ctv) ⟨[], []⟩ = pure [])
    (hbody : ∀ (A : Around) (outer : List Env) (s : Shared) (H : Hp) (E : XK) (f c' : Addr), Room k (A.deeper (LamX.lamEnv X scope s.heap.objs.size f c')) → PE (lamN X A outer s H E scope f c') body (tE (ct X) (Wc E) fb))
    {pins : List (Addr × Obj)} {s1 : Shared} {σ : St} {H1 : Hp} {Q : VK} {g : Gh} {ρ : VSt} {h0 : VH} {f c' : Addr} {pm2 ctv : Value} (I1 : Inv X pins σ H1 s1) (hf : s1.heap.get? f = some (PySem.W.kla_obj "<lambda>" (X.env.qual ++ "<lambda>") params body scope (cloFrom X.env.cells scope.names []) pm2 c' ctv)) (hfn : H1 f = none) (hfr : f ∉ frs X.stack) (hco : H1 c' = some (LamX.CodeO c' (X.env.qual ++ "<lambda>")))
    (rh1 : RH (ct X) g h0 H1) (rs : RS (ct X) g H1 ρ σ) (pp : Pst (ct X) W σ (RT (ct X)) g H1 Q (eRef xs fb ρ h0)) : wpAny (model X.prog X.w) X.A (call (.ref g0) [.ref f]) (EP X pins σ Q) X.xe s1 := by
  obtain ⟨oc, od, dV, kV, doc, pm, an, cdg, ctv0, osl, efd, lk, hcg, _, _⟩ := FD.ex
  subst efd
  subst ebg
  have run : codeAny (model X.prog X.w) X.A (.call (.ref g0) ⟨[.ref f], []⟩) (CR C8.CX0 X.stack X.prog X.w H1 s1 Q C8.E0) s1 := by
    refine LamX.run_ofS (N := ["_law_ask", "_law_found", "_law_kinds_here", "_law_e"]) (ps := ["_law_ask"]) (us := [.ref f]) (vs := [.ref f]) lk hcg Sg hr I1.env0 (hbg s1 [.ref f] I1.kIn rfl) (.cons rfl .nil) rfl fun hr' => ?_
    generalize hZ : cxOf C8.CX0 X.prog X.w X.K X.mg X.base ["_law_ask", "_law_found", "_law_kinds_here", "_law_e"] "_law_refusal" sg g0 cdg X.A X.stack s1 H1 C8.E0 = Z
    have eN' : Z.N = (["_law_ask", "_law_found", "_law_kinds_here", "_law_e"] : List Str) := by rw [← hZ]; rfl
    have eS : Z.env.scope = sg := by rw [← hZ]; rfl
    have nd : Z.N.Nodup := by rw [eN']; decide +kernel
    have n1 : Z.N[1]? = some ("_law_found" : Str) := by rw [eN']; rfl
    have n3 : Z.N[3]? = some ("_law_e" : Str) := by rw [eN']; rfl
    have v1 : Z.env.scope.names.lookup ("_law_found" : Str) = some NameKind.local := by rw [eS]; exact l1
    have v3 : Z.env.scope.names.lookup ("_law_e" : Str) = some NameKind.local := by rw [eS]; exact l3
    have glob : ∀ y : Str, sg.names.lookup y = some NameKind.globalImplicit → Gl Z y := fun y hy => by rw [← hZ]; exact hy
    have d1 := ps_set (X := Z) (i := 1) (pos := q6) (pos' := q1) nd n1 (.inl v1) (pe_tup (x1 := i8) (pos := q5) (pa_cons (pe_str (j := i6) (pos := q2) (x := "let")) (pa_cons (pe_un (pos := q4) un_neg (pe_int (j := i7) (pos := q3) (i := 1))) pa_nil))) (hf := .inr v1)
    have rZ : L2H.RoomH (kk + 1) Z.A := by
      have z := L2H.roomH_of (hr'.mono (show kk + 1 ≤ k + 1 by omega))
      rw [← hZ]
      exact z
    have d2 := L2N.ps_try_as (X := Z) (x := "WebError") (n := "_law_e") (c := .ref WE) (i := 3) (np := q10) (pos := q12) (pos' := q11) (Wout := fun _ _ _ _ => False) (ts := tSuite (ct X) WE)
      (tb := fun Wi => tDrop fun τ G Q => τ[0]? = some (some (.ref f)) ∧ G c' = some (LamX.CodeO c' (X.env.qual ++ "<lambda>")) ∧ tE (ct X) (Wc fun cls d G' => Wi cls d τ G') fb σ G Q) (body := [.Expr (.Call (.Name "_law_ask" q7) [] [] q8) q9])
      (by rw [← hZ]; rfl) (by rw [← hZ]; rfl) nd n3 v3 ⟨glob _ gw, by decide, .inl (by rw [← hZ]; exact mw)⟩ takesN0
      (fun Wi pn xe tk _ => by
        subst hZ
        exact pss_one (ps_expr (pe_actN (i := 0) (tb := fun E => tE (ct X) (Wc E) fb) I1 L hf hfn hfr (hbind _ _ _ _ _) tk hr' (fun A outer s H E hr2 => hbody A outer s H E f c' hr2) rfl (.inl l0))))
      (fun a oe cls d pn hz hfl => by
        subst hZ
        exact suite_ok (X := cxOf C8.CX0 X.prog X.w X.K X.mg X.base ["_law_ask", "_law_found", "_law_kinds_here", "_law_e"] "_law_refusal" sg g0 cdg X.A X.stack s1 H1 C8.E0) (WE := WE) (k := kk) (p1 := p1) (p2 := p2) (p3 := p3) (p4 := p4) (p5 := p5) (p6 := p6) (p7 := p7) (p8 := p8) (p9 := p9) (p10 := p10) (p11 := p11) (p12 := p12) (p13 := p13) (p14 := p14) (p15 := p15) (p16 := p16) (p17 := p17) (p18 := p18) (p19 := p19) (p20 := p20) (p21 := p21) (p22 := p22) (p23 := p23) (p24 := p24) (p25 := p25) (p26 := p26) (p27 := p27) (p28 := p28) (p29 := p29) (p30 := p30) (i1 := i1) (i2 := i2) (i3 := i3) (i4 := i4) (i5 := i5) rfl l1 l2 l3 gk gi gv mi mv Fk Sk mk hbk rZ KB a oe cls d pn hz hfl)
    refine ⟨_, pss_cons d1 (pss_cons d2 (pss_one (ps_ret (pos := q14) (pe_var (i := 1) (pos := q13) n1 (.inl v1))))), ?_⟩
    refine ⟨1, rfl, by show 2 ≤ sizeLine; rw [PySem.sizeLine_eq]; decide, fun p0 hp0 => ?_⟩
    have st2 : Stp g H1 g (upd H1 p0 (.tup [.str "let", .int (-1)])) := .junk rh1 hp0
    have rh2 : RH (ct X) g h0 (upd H1 p0 (.tup [.str "let", .int (-1)])) := rh1.junk hp0
    refine ⟨rfl, by rw [upd_ne (ne_of_none hco hp0)]; exact hco, g, ρ, h0, rh2, rs.stp st2, ?_⟩
    have hp2 : upd H1 p0 (.tup [.str "let", .int (-1)]) p0 = some (.tup [.str "let", .int (-1)]) := upd_same
    revert st2 rh2 hp2
    generalize upd H1 p0 (.tup [.str "let", .int (-1)]) = H2
    intro st2 rh2 hp2
    unfold eRef at pp
    cases er : fb ρ h0 with
    | no => rw [er] at pp; exact pp
    | ok v h' =>
      rw [er] at pp
      intro g' H' u st rh' rv
      have all : Stp g H1 g' H' := st2.trans st
      obtain ⟨g3, s3, r3, _⟩ := trim_ok rh1 all rh' (rt_non (c := ct X))
      exact ⟨.ref p0, rfl, pp g3 H' _ s3 r3 (rt_pair (st.tp _ _ hp2))⟩
    | exc x ns vs h' =>
      rw [er] at pp
      simp only at pp
      intro g' H' C d us st rh' m e l rvs
      have all : Stp g H1 g' H' := st2.trans st
      by_cases cc : x ∈ xs ∧ ns = (["at", "word"] : List Str)
      · rw [if_pos cc] at pp
        obtain ⟨hx, rfl⟩ := cc
        split at pp
        · rename_i n y
          by_cases ey : y = x
          · rw [if_pos ey] at pp
            subst ey
            rw [RVs] at rvs
            obtain ⟨u1, r1, rfl, a1, rvs⟩ := rvs
            rw [RVs] at rvs
            obtain ⟨u2, r2, rfl, a2, rvs⟩ := rvs
            rw [RVs] at rvs
            subst rvs
            rw [RV] at a1
            rw [RV] at a2
            subst a1
            subst a2
            obtain ⟨i, C0, R⟩ := RX y hx
            have eC : C0 = C := by
              have z := R.m.symm.trans m
              cases z
              rfl
            subst eC
            refine ⟨true, by rw [← hZ]; exact R.ex, fun _ a ha => ?_, fun z => by cases z⟩
            refine ⟨C0, d, y, i, n, g', h', rfl, rfl, R, e.1, rh', e.2.1, e.2.2, rfl, rfl, fun g2 H3 σ' p7 st7 rh7 hp7 hl7 h17 => ?_⟩
            obtain ⟨g3, s3, r3, _⟩ := trim_ok rh1 (all.trans st7) rh7 (rt_non (c := ct X))
            refine ⟨.ref p7, ?_, pp g3 H3 _ s3 r3 (rt_pair hp7)⟩
            rw [List.getElem?_set_ne (by decide)]
            exact h17
          · rw [if_neg ey] at pp; exact pp.elim
        · exact pp.elim
      · rw [if_neg cc] at pp; exact pp.elim
  apply wpAny_call
  apply codeAny_mono run
  intro rr s2 hq2
  cases rr with
  | error e => exact hq2.elim
  | ok fl =>
    cases fl with
    | ret u => exact I1.after hq2
    | next => exact hq2.elim
    | brk => exact hq2.elim
    | cont => exact hq2.elim
end J
namespace J
open PySem L2
open PyProof.Rows (envOfC)
/-- what _law_refusal makes of a lambda, at the def g0 -/
def RefRun (X : Cx) (g0 : Addr) (xs : List Str) (kk : Nat) : Prop := ∀ (W : WX) (fb : EF) (k : Nat) (params : Arguments) (body : Expr) (scope : Scope), Room (k + 2) X.A → kk ≤ k → LamX.LamS X.env.scope scope →
  (∀ (q : Str) (cl : List (Str × Addr)) (pm cv ctv : Value), bindArgs (PySem.W.kla_fn "<lambda>" q params body scope cl pm cv ctv) ⟨[], []⟩ = pure []) →
  (∀ (A : Around) (outer : List Env) (s : Shared) (H : Hp) (E : XK) (f c' : Addr), Room k (A.deeper (LamX.lamEnv X scope s.heap.objs.size f c')) → PE (lamN X A outer s H E scope f c') body (tE (ct X) (Wc E) fb)) →
  ∀ (pins : List (Addr × Obj)) (s1 : Shared) (σ : St) (H1 : Hp) (Q : VK) (g : Gh) (ρ : VSt) (h0 : VH) (f c' : Addr) (pm2 ctv : Value), Inv X pins σ H1 s1 → s1.heap.get? f = some (PySem.W.kla_obj "<lambda>" (X.env.qual ++ "<lambda>") params body scope (cloFrom X.env.cells scope.names []) pm2 c' ctv) → H1 f = none → f ∉ frs X.stack → H1 c' = some (LamX.CodeO c' (X.env.qual ++ "<lambda>")) →
    RH (ct X) g h0 H1 → RS (ct X) g H1 ρ σ → Pst (ct X) W σ (RT (ct X)) g H1 Q (eRef xs fb ρ h0) → wpAny (model X.prog X.w) X.A (call (.ref g0) [.ref f]) (EP X pins σ Q) X.xe s1
structure OkR (P : Program) (w : World) (K : PySem.W.Frag) (mg : Str → Option Value) (base : Heap) (xs : List Str) (kk : Nat) : Prop where
  ex : ∃ g0, mg "_law_refusal" = some (.ref g0) ∧ PySem.W.keepIn K (.ref g0) = true ∧ ∀ X : Cx, X.prog = P → X.w = w → X.K = K → X.mg = mg → X.base = base → RefRun X g0 xs kk
section
variable {X : Cx} {W : WX} {xs : List Str} {fb : EF} {c P : Addr} {k kk : Nat} {params : Arguments} {body : Expr} {scope : Scope}
theorem tabs1 {g : Gh} {h : VH} {H : Hp} (rh : RH (ct X) g h H) (hTab : PySem.W.tabIn X.K lamFn = some (c, P)) (hq : X.env.qual ++ "<lambda>" = lamQ) : LamX.Tabs [(P, X.env.qual ++ "<lambda>")] H := fun q hq' => by
  have e : q = (P, X.env.qual ++ "<lambda>") := by simpa using hq'
  rw [e, hq]
  exact rh.tb c P hTab
theorem tabs2 {H : Hp} (T : LamX.Tabs [(P, X.env.qual ++ "<lambda>")] H) (hTab : PySem.W.tabIn X.K lamFn = some (c, P)) (hq : X.env.qual ++ "<lambda>" = lamQ) : LTab (ct X) H := fun c2 P2 e2 => by
  have e3 := hTab.symm.trans e2
  cases e3
  rw [← hq]
  exact T _ (List.mem_singleton.mpr rfl)
/-- _law_refusal(lambda: ..) -/
theorem j_ref {p lpos pos : Pos} (O : OkR X.prog X.w X.K X.mg X.base xs kk) (hg : Gl X "_law_refusal") (TB : LamX.TabB X.base X.mg c P) (hcode : X.env.code = .ref c) (hTab : PySem.W.tabIn X.K lamFn = some (c, P)) (hq : X.env.qual ++ "<lambda>" = lamQ) (hr : Room (k + 2) X.A) (hk : kk ≤ k) (L : LamX.LamS X.env.scope scope) (hdef : defaultsOf params X.env = ([], []))
    (hbind : ∀ (q : Str) (cl : List (Str × Addr)) (pm cv ctv : Value), bindArgs (PySem.W.kla_fn "<lambda>" q params body scope cl pm cv ctv) ⟨[], []⟩ = pure [])
    (hbody : ∀ (A : Around) (outer : List Env) (s : Shared) (H : Hp) (E : XK) (f c' : Addr), Room k (A.deeper (LamX.lamEnv X scope s.heap.objs.size f c')) → PE (lamN X A outer s H E scope f c') body (tE (ct X) (Wc E) fb)) :
    PE X (.Call (.Name "_law_refusal" p) [.Lambda params body scope lpos] [] pos) (tE (ct X) W (eRef xs fb)) := by
  obtain ⟨g0, hm, kp, run⟩ := O.ex
  refine ⟨fun pins s σ H Q I ⟨g, ρ, h0, rh, rs, pp⟩ => ?_⟩
  refine wpAny_Call_Name_kw (ld_glob I hg hm ?_ (by decide))
  refine PySem.W.callWith_K (h₀ := X.base) I.ok.mod.kin kp ?_ (by rfl) (by rfl)
  show wpAny _ _ (spliced ((false, eval (.Lambda params body scope lpos) X.env) :: backTo pos (starEach [] X.env))) _ _ s
  apply Calls.spliced_cons
  refine LamX.lam_make2 I TB hcode (List.mem_singleton.mpr rfl) (fun q hq' _ => by rw [List.mem_singleton.mp hq']) (tabs1 rh hTab hq) hdef (L.has I.ok) fun f c' pm2 ctv H1 s1 I1 eN T1 hf hfn hfr hco => ?_
  apply Calls.spliced_nil
  refine ⟨I1.kIn, ?_⟩
  obtain ⟨st1, rh1⟩ := ext_ok rh eN (tabs2 T1 hTab hq)
  exact run X rfl rfl rfl rfl rfl W fb k params body scope hr hk L hbind hbody pins s1 σ H1 Q g ρ h0 f c' pm2 ctv I1 hf hfn hfr hco rh1 (rs.stp st1) (Pst.step st1 pp)
end
end J
namespace J
open PySem L2
open PyProof.Rows (envOfC)
section
variable {P : Program} {w : World} {K : PySem.W.Frag} {mg : Str → Option Value} {base : Heap}
theorem fn_okC {x qual : Str} {params : Arguments} {body : List Stmt} {scope : Scope} {f : Addr} {N ps : List Str} {k n : Nat} {B : SF} {oc dV kV doc pm cdv ctv : Value} {od an : Option Addr} {osl : Array (Option Value)} (lk : K.lookup f = some ⟨oc, od, .func (PySem.W.fnOf x qual params body scope dV kV doc pm an cdv ctv), osl⟩) (hcd : PySem.W.codeIn K cdv qual = true)
    (S : FnScope N ps scope) (hn : n = N.length) (hp : ps.length ≤ n)
    (hbody : ∀ (A : Around) (outer : List Env) (s : Shared) (H : Hp) (E : XK), Room k (A.deeper (envOfC qual scope s.heap.objs.size f cdv)) → PSs (cxOf (L2N.CX P w) P w K mg base N qual scope f cdv A outer s H E) body (tS ⟨K, mg⟩ (fun a d _ H' => E a d H') B)) :
    FnOk P w K mg base (L2N.CX P w) (k + 1) f (PySem.W.fnOf x qual params body scope dV kV doc pm an cdv ctv) ps (spF ⟨K, mg⟩ ps.length (fnF n B)) := by
  refine fn_of lk hcd S (fun vs H Q E h => ?_) (fun A outer s H vs Q E hr h => ?_)
  · obtain ⟨g, ws, hh, rh, rt, l, _⟩ := h
    rw [← rt.len]; exact l
  · refine ⟨_, hbody A outer s H E hr, ?_⟩
    obtain ⟨g, ws, hh, rh, rt, l, p⟩ := h
    have rs := rt.start n
    refine ⟨g, ws.map some ++ List.replicate (n - ws.length) none, hh, rh, ?_, ?_⟩
    · rw [hn] at rs ⊢; exact rs
    · unfold fnF at p
      generalize B (ws.map some ++ List.replicate (n - ws.length) none) hh = r at p ⊢
      cases r with
      | no => exact p
      | brk => exact p.elim
      | cnt => exact p.elim
      | nx ρ h' =>
        intro g' H' σ' st rh' rs'
        obtain ⟨g2, s2, rh2, rv2⟩ := trim_ok rh st rh' (rt_non (c := ⟨K, mg⟩))
        exact p g2 H' .non s2 rh2 rv2
      | ret v h' =>
        intro g' H' u st rh' rv
        obtain ⟨g2, s2, rh2, rv2⟩ := trim_ok rh st rh' rv
        exact p g2 H' u s2 rh2 rv2
      | exc x ns vs ρ h' => exact fun g' H' σ' C d us st rh' rs' m e l rv => p g' H' C d us st rh' m e l rv
/-- the def that makes lambdas: its code object is known -/
theorem fn_okL {params : Arguments} {body : List Stmt} {scope : Scope} {dvs : List V} {kws : List (Str × V)} {f c T : Addr} {fd : FuncData} {N ps : List Str} {k n m : Nat} {B : SF} (F : FunD K lamFn lamFn params body scope dvs kws f fd) (hns : PySem.W.nsIn K mainGlobals lamFn = some (some (.ref f))) (hT : PySem.W.tabIn K lamFn = some (c, T))
    (S : FnScope N ps scope) (hn : n = N.length) (hp : ps.length ≤ n) (hm : m = ps.length)
    (hbody : ∀ (A : Around) (outer : List Env) (s : Shared) (H : Hp) (E : XK), Room k (A.deeper (envOfC lamFn scope s.heap.objs.size f (.ref c))) →
      PSs (cxOf (L2N.CX P w) P w K mg base N lamFn scope f (.ref c) A outer s H E) body (tS ⟨K, mg⟩ (fun a d _ H' => E a d H') B)) :
    FnOk P w K mg base (L2N.CX P w) (k + 1) f fd ps (spF ⟨K, mg⟩ m (fnF n B)) := by
  subst hm
  have ec : ∀ cdv A outer s H E, Room k (A.deeper (envOfC lamFn scope s.heap.objs.size f cdv)) → cdv = .ref c → PSs (cxOf (L2N.CX P w) P w K mg base N lamFn scope f cdv A outer s H E) body (tS ⟨K, mg⟩ (fun a d _ H' => E a d H') B) := by
    intro cdv A outer s H E hr e
    subst e
    exact hbody A outer s H E hr
  obtain ⟨oc, od, dV, kV, doc, pm, an, cdv, ctv, osl, efd, lk, hcd, h1, h2⟩ := F.ex
  have e : cdv = .ref c := by
    subst efd
    unfold PySem.W.tabIn at hT
    rw [hns] at hT
    simp only [lk] at hT
    split at hT
    · split at hT
      · split at hT
        · cases hT
          first | rfl | assumption
        · cases hT
      · cases hT
    · cases hT
  subst efd
  exact fn_okC lk hcd S hn hp fun A outer s H E hr => ec cdv A outer s H E hr e
end
/-- what is read of a refusal's class, checked at once -/
def refB (K : PySem.W.Frag) (WE : Addr) (x : Str) (i : Nat) (C : Addr) : Bool :=
  decide (i < 20) && (decide (kindNames.getD i "" = x) && (decide (PySem.W.findIn K (.ref C) "__getattribute__" = some (some (.builtin "BaseException.__getattribute__"))) && (decide (PySem.W.findIn K (.ref C) "__getattr__" = some none) && (decide (PySem.W.subIn K (.ref C) (.type "BaseException") = some true) && (PySem.W.hasDictIn K C && (decide (PySem.W.findIn K (.ref C) "__class__" = some (some (.builtin "object.__class__"))) &&
  (decide (PySem.W.specialIn K (.builtin "object.__class__") "__get__" = some (some (.builtin "getset_descriptor.__get__"))) && (decide (PySem.W.takesIn K (.builtin "object.__class__") = some true) && (decide (PySem.W.mroIn K C (.type "object") = some true) && (decide (PySem.W.findIn K (.ref C) "word" = some none) && (decide (PySem.W.findIn K (.ref C) "at" = some none) &&
  (decide (PySem.W.exmOne K (.ref C) (.ref WE) = some true) && (decide (PySem.W.kitOne K (.ref C) (.type "ValueError") = some true) && (List.range 20).all fun j => match PySem.W.nsIn K mainGlobals (kindNames.getD j "") with
    | some (some (.ref D)) => decide (PySem.W.kitOne K (.ref C) (.ref D) = some (i == j))
    | _ => false)))))))))))))
theorem refB_ok {K : PySem.W.Frag} {mg : Str → Option Value} {h : Heap} {WE C : Addr} {x : Str} {i : Nat} (X : K.In h) (G : h.Ns mainGlobals mg) (m : mg x = some (.ref C)) (b : refB K WE x i C = true) : RefC K mg WE x i C := by
  unfold refB at b
  obtain ⟨b1, b⟩ := Bool.and_eq_true_iff.mp b
  obtain ⟨b2, b⟩ := Bool.and_eq_true_iff.mp b
  obtain ⟨b3, b⟩ := Bool.and_eq_true_iff.mp b
  obtain ⟨b4, b⟩ := Bool.and_eq_true_iff.mp b
  obtain ⟨b5, b⟩ := Bool.and_eq_true_iff.mp b
  obtain ⟨b6, b⟩ := Bool.and_eq_true_iff.mp b
  obtain ⟨b7, b⟩ := Bool.and_eq_true_iff.mp b
  obtain ⟨b8, b⟩ := Bool.and_eq_true_iff.mp b
  obtain ⟨b9, b⟩ := Bool.and_eq_true_iff.mp b
  obtain ⟨b10, b⟩ := Bool.and_eq_true_iff.mp b
  obtain ⟨b11, b⟩ := Bool.and_eq_true_iff.mp b
  obtain ⟨b12, b⟩ := Bool.and_eq_true_iff.mp b
  obtain ⟨b13, b⟩ := Bool.and_eq_true_iff.mp b
  obtain ⟨b14, b⟩ := Bool.and_eq_true_iff.mp b
  refine ⟨m, of_decide_eq_true b1, of_decide_eq_true b2, ⟨of_decide_eq_true b3, of_decide_eq_true b4, of_decide_eq_true b5, b6, of_decide_eq_true b7, of_decide_eq_true b8, of_decide_eq_true b9, of_decide_eq_true b10⟩, ⟨of_decide_eq_true b3, of_decide_eq_true b4, of_decide_eq_true b5, b6⟩, of_decide_eq_true b11, of_decide_eq_true b12, of_decide_eq_true b13, of_decide_eq_true b14, fun j hj => ?_⟩
  have q := List.all_eq_true.mp b j (List.mem_range.mpr hj)
  split at q
  · rename_i D e
    exact ⟨D, PySem.W.mg_of X G e, of_decide_eq_true q⟩
  · cases q
theorem okX_mk {P : Program} {w : World} {K : PySem.W.Frag} {mg : Str → Option Value} {base : Heap} {k : Nat} {x q : Str} {st : Stmt} {C f : Addr} {fd : FuncData} (D : Dm K "__init__" q st [.int (-1)] [] f fd) (hF : FnOk P w K mg base (L2N.CX P w) k f fd ["self", "at"] (spOX K x)) (m : mg x = some (.ref C)) (xc : XcK K C)
    (iC : PySem.W.findIn K (.ref C) "__init__" = some (some (.ref f))) (tI : PySem.W.typeIn K (.ref f) = some (.type "function"))
    (h1 : ∀ (T : Addr) (kV doc pm : Value) (an : Option Addr) (cdv ct : Value) (us its : List Value), us.length = 1 → its.length = 1 →
      ∃ k, bindArgs (PySem.W.fnOf "__init__" q (defArgs st) (defBody st) (defScope st) (.ref T) kV doc pm an cdv ct) ⟨us, []⟩ = seqItems? (.ref T) >>= k ∧ k (some its.toArray) = pure ((["self", "at"] : List Str).zip (us ++ its.drop 0)))
    (h2 : ∀ (T : Addr) (kV doc pm : Value) (an : Option Addr) (cdv ct : Value) (us its : List Value), us.length = 2 → its.length = 1 →
      ∃ k, bindArgs (PySem.W.fnOf "__init__" q (defArgs st) (defBody st) (defScope st) (.ref T) kV doc pm an cdv ct) ⟨us, []⟩ = seqItems? (.ref T) >>= k ∧ k (some its.toArray) = pure ((["self", "at"] : List Str).zip (us ++ its.drop 1))) : OkX P w K mg base k x := by
  obtain ⟨ds, v1, b1⟩ := D.F.binds1 (ps := ["self", "at"]) 1 0 (by simp) rfl h1
  obtain ⟨ds2, v2, b2⟩ := D.F.binds1 (ps := ["self", "at"]) 2 1 (by simp) rfl h2
  cases v2
  exact ⟨C, f, fd, ds, m, xc, iC, tI, hF, b2, b1, v1⟩
end J
namespace J
open PySem L2
open PyProof.Rows (envOfC)
/-! x = [a]; x.append(b): a list of two, as data -/
def sSetApp (i : Nat) (fa fb : EF) : SF := fun ρ h => (fa ρ h).st ρ fun v h1 => (fb (ρ.set i none) h1).st (ρ.set i none) fun w h2 => if (v.isObj || w.isObj) = true then .no else .nx (ρ.set i (some (.lst [v, w]))) h2
end J
namespace J
open PySem L2
variable {ρ : VSt} {h h' : VH}
theorem s_setApp {i fa fb} : sSetApp i fa fb ρ h = sbd (fa ρ h) ρ (fun v h1 => sbd (fb (ρ.set i none) h1) (ρ.set i none) (fun w h2 => if (v.isObj || w.isObj) = true then .no else .nx (ρ.set i (some (.lst [v, w]))) h2) (tg _)) (tg _) := nr rfl
theorem s_raise0 {x} : sRaise0 x ρ h = .exc x ["at", "word"] [.int (-1), .str x] ρ h := nr rfl
theorem ref_exc {xs : List Str} {fb : EF} {x : Str} {n : Int} (e : fb ρ h = .exc x ["at", "word"] [.int n, .str x] h') (hx : x ∈ xs) : eRef xs fb ρ h = .ok (.tup [.str x, .int n]) (trim h.length .non h') := by
  unfold eRef
  rw [e]
  simp only
  simp [hx]
end J
namespace J
open PySem L2
open PyProof.Rows (envOfC)
/-! == and != of instances, by the class's own __eq__ -/
section
variable {X : Cx} {W : WX} {k : Nat} {cn : Str} {Fm : FF}
def ownR (ne : Bool) (cn : Str) (F : FF) (v w : VV) (h2 : VH) : Res VV := match insOf h2 v, insOf h2 w with
  | some a, some b => if a.1 = cn ∧ b.1 = cn then (noX (F [v, w] h2)).bind fun r h3 => (match r with
    | .bl r => .ok (.bl (if ne = true then !r else r)) h3
    | _ => .no) else .no
  | _, _ => .no
def eOwn (ne : Bool) (cn : Str) (F : FF) (fa fb : EF) : EF := fun ρ h => (fa ρ h).bind fun v h1 => (fb ρ h1).bind fun w h2 => ownR ne cn F v w h2
end
end J
namespace J
open PySem PySem.Spec L2 PyProof.Rows
end J
namespace J
open PySem PySem.Spec L2 PyProof.Rows
section
variable {X : Cx} {W : WX}
def rSetIt (K : PySem.W.Frag) (w : World) : List V → Hp → VK → Prop := fun xs H Q => ∃ (l : Addr) (ks : List Int), xs = [V.ref l] ∧ SqT K H l (ks.map V.int) ∧ ks.length < 64 ∧
  ∀ S, H S = none → Q (.ref S) (upd H S (SetO w S (fun j => decide (j ∈ ks)) ks.eraseDups.length))
theorem cr_setIt (hc : X.calm = true) : CallR X (.type "set") (rSetIt X.K X.w) := by
  intro pins s σ H xs us Q I r h
  obtain ⟨l, ks, rfl, hl, hf, q⟩ := h
  rw [Vals.ref1 r]
  obtain ⟨its, rv, pl, hz⟩ := I.tuple hl
  have fr : H s.heap.objs.size = none := I.hok.fresh (Nat.le_refl _)
  refine call_set_tupI (P := X.prog) (w := X.w) ks (I.ok.hd hc) pl (by simpa using intsAre_of rv) (show ks.length + 1 < 4096 by omega) fun h' tk m R hm k => ?_
  obtain rfl := set_card R
  have I2 := I.laid (t' := tk) (o := SetO X.w s.heap.objs.size (fun j => decide (j ∈ ks)) ks.eraseDups.length) k (Nat.le_refl _) (setO_new R)
  exact ⟨.ref s.heap.objs.size, _, I2, rfl, q _ fr⟩
def tupN : VV → Option (List Int)
  | .tup xs => intL xs
  | _ => none
theorem tupN_get {c : Ct} {g : Gh} {H : Hp} {v : VV} {u : V} {ks : List Int} (r : RT c g H v u) (e : tupN v = some ks) : ∃ p, u = .ref p ∧ H p = some (.tup (ks.map V.int)) := by
  cases v with
  | tup xs =>
    have q := r.rv rfl
    rw [RV] at q
    obtain ⟨p, us, eu, ta, rvs⟩ := q
    obtain rfl := intL_vals rvs e
    exact ⟨p, eu, ta⟩
  | _ => cases e
end
end J
namespace J
open PySem L2
/-! len(x) by the class's own __len__; isinstance(x, own class) -/
def lenR (cn : Str) (F : FF) (v : VV) (h1 : VH) : Res VV := match insOf h1 v with
  | some a => if a.1 = cn then (noX (F [v] h1)).bind fun r h2 => (match r with
    | .int n => if 0 ≤ n ∧ n < 1000000 then .ok (.int n) h2 else .no
    | _ => .no) else .no
  | none => .no
def eLenOwn (cn : Str) (F : FF) (fa : EF) : EF := fun ρ h => (fa ρ h).bind fun v h1 => lenR cn F v h1
def RdL (c : Ct) (cn : Str) (Fm : FF) : List V → Hp → VK → Prop := fun xs H Q => ∃ g h v a x, xs = [x] ∧ RH c g h H ∧ RT c g H v x ∧ insOf h v = some a ∧ a.1 = cn ∧
  Pst c W0 [] (RT c) g H (fun u H' => ∃ n : Int, u = .int n ∧ 0 ≤ n ∧ n < 1000000 ∧ Q (.int n) H') (Fm [v] h)
/-- is a thing of this kind one of C? -/
def isiK (h : VH) (cn : Str) (cs : List Str) (v : VV) : Option Bool := match insOf h v with
  | some a => if a.1 = cn then some true else if a.1 ∈ cs then some false else none
  | none => match v with
    | .non => some false
    | .int _ => some false
    | .str _ => some false
    | .tup _ => some false
    | .lst _ => some false
    | .dK _ _ => some false
    | _ => none
def eIsiC (cn : Str) (cs : List Str) (fa : EF) : EF := fun ρ h => (fa ρ h).bind fun v h1 => lift ((isiK h1 cn cs v).map .bl) h1
section
variable {X : Cx} {W : WX} {k : Nat} {cn : Str} {Fm : FF}
theorem cr_lenOwn (O : OkM X.prog X.w X.K X.mg X.base k cn "__len__" 1 [] Fm) (hr : Room (k + 1) X.A) : CallR X (.builtin "len") (RdL (ct X) cn Fm) := by
  intro pins s σ H xs us Q I r ⟨g, h, v, a, x, ex, rh, rv, ea, ca, pp⟩
  subst ex
  obtain ⟨p, C, dx, ws, rfl, mC, hp, _, _⟩ := insOf_get rh rv ea
  rw [ca] at mC
  rw [Vals.ref1 r]
  obtain ⟨C', f, fd, ps, dvs, ds, m, cl, me, F, bi, vd, rd⟩ := id O.ex
  have eC : C' = C := by have z := m.symm.trans mC; cases z; rfl
  subst eC
  obtain ⟨mA, J1, _⟩ := ins_get I.hok hp
  obtain ⟨od1, J1, _⟩ := J1.look
  obtain ⟨mm, hF⟩ := I.fr
  refine PySem.W.len_K hF I.ok.mod.kin J1 me.at_ me.fn ?_
  have e0 := rd g H
  have dn : dvs = [] := e0
  subst dn
  cases vd
  have hsp : spF (ct X) 1 Fm [.ref p] H (fun u H' => ∃ n : Int, u = .int n ∧ 0 ≤ n ∧ n < 1000000 ∧ Q (.int n) H') X0 := ⟨g, [v], h, rh, ⟨_, _, rfl, rv, rfl⟩, rfl, pp⟩
  have r2 : Vals [V.ref p] [Value.ref p] := .cons rfl .nil
  have hl := F.len _ _ _ _ hsp
  have bb := bi s [.ref p] I.kIn (by simpa using hl)
  have env : Env0 X.prog X.w X.K X.mg X.base X.A.in1 X.stack s H := by
    have e := I.env0
    exact ⟨e.frames, e.mod, e.bs, e.bsz, e.funs, e.frf, e.hok, e.bare⟩
  refine wpAny_call (codeAny_mono (F.run X.A.in1 X.stack s H ⟨[.ref p], []⟩ [.ref p] [.ref p] _ X0 hr.in1 env (by simpa using bb) r2 hsp) fun rr s' z => ?_)
  cases rr with
  | error er => exact (cx_no z).elim
  | ok fl =>
    cases fl with
    | ret u =>
      have z2 := I.after z
      obtain ⟨zz, H', I', rz, n, ez, n0, n1, qq⟩ := z2
      subst ez
      obtain ⟨t, rfl⟩ := rz
      exact ⟨⟨n0, by omega⟩, ⟨.int n, H', I'.tok _, ⟨_, rfl⟩, qq⟩⟩
    | next => exact z.elim
    | brk => exact z.elim
    | cont => exact z.elim
theorem j_lenOwn {e : Expr} {fa : EF} {p pos : Pos} (O : OkM X.prog X.w X.K X.mg X.base k cn "__len__" 1 [] Fm) (hr : Room (k + 1) X.A) (hg : Gl X "len") (hm : X.mg "len" = none) (ha : PE X e (tE (ct X) W fa))
    (he : starEach [e] X.env = (false, eval e X.env) :: starEach [] X.env := by rfl) (hpl : (backTo pos (starEach [] X.env)).any (·.1) = false := by rfl) : PE X (.Call (.Name "len" p) [e] [] pos) (tE (ct X) W (eLenOwn cn Fm fa)) :=
  PE.mono (pe_callB (id := "len") (cr_lenOwn O hr) hg hm rfl (pa_cons ha pa_nil he) (by decide) (by decide) he hpl) fun σ H Q ⟨g, ρ, h0, rh, rs, pp⟩ => by
    refine ⟨g, ρ, h0, rh, rs, (Pst.bind (R := RT (ct X)) pp).imp fun u H1 ⟨g1, v, h1, st, rh1, rv1, p1⟩ => ?_⟩
    unfold lenR at p1
    cases ea : insOf h1 v with
    | none => rw [ea] at p1; exact p1.elim
    | some a =>
      rw [ea] at p1
      simp only at p1
      by_cases cc : a.1 = cn
      · rw [if_pos cc] at p1
        refine ⟨g1, h1, v, a, u, rfl, rh1, rv1, ea, cc, ?_⟩
        cases er : Fm [v] h1 with
        | no => rw [er] at p1; exact p1
        | exc => rw [er] at p1; exact p1.elim
        | ok r h3 =>
          rw [er] at p1
          cases r with
          | int n =>
            simp only [noX, Res.bind] at p1
            by_cases c2 : 0 ≤ n ∧ n < 1000000
            · rw [if_pos c2] at p1
              exact fun g' H' u st rh' rv' => ⟨n, int_get rv', c2.1, c2.2, p1 g' H' _ st rh' rt_int⟩
            · rw [if_neg c2] at p1; exact p1.elim
          | _ => exact p1.elim
      · rw [if_neg cc] at p1; exact p1.elim
end
end J
namespace J
open PySem L2
/-! == and != of dicts with ints as values -/
section
variable {X : Cx} {W : WX}
/-! for k, v in d.items() -/
def iItemsK (f : EF) : AF := fun ρ h => (f ρ h).bind fun v h1 => match v with
  | .dK ks vs => .ok ((ks.zip vs).map fun p => .tup [keyB p.1, p.2]) h1
  | _ => .no
end
end J
namespace J
open PySem L2
/-- what isinstance asks of a class, checked at once -/
def isB (K : PySem.W.Frag) (C : Addr) : Bool :=
  decide (PySem.W.findIn K (.ref C) "__class__" = some (some (.builtin "object.__class__"))) && (decide (PySem.W.specialIn K (.builtin "object.__class__") "__get__" = some (some (.builtin "getset_descriptor.__get__"))) && (decide (PySem.W.takesIn K (.builtin "object.__class__") = some true) && (decide (PySem.W.mroIn K C (.type "object") = some true) &&
  (decide (PySem.W.kitOne K (.ref C) (.ref C) = some true) && (["NoneType", "int", "str", "tuple", "list", "dict"] : List String).all fun n => decide (PySem.W.kitOne K (.type n) (.ref C) = some false)))))
/-! list(range(n)), as data -/
def eListRng (f : EF) : EF := fun ρ h => (f ρ h).bind fun v h1 => match v with
  | .int n => if 0 ≤ n ∧ n ≤ SZ then .ok (.lst (rngV 0 n.toNat)) h1 else .no
  | _ => .no
section
variable {X : Cx} {W : WX}
theorem j_listRng {a : Expr} {f : EF} {p p2 pos pos2 : Pos} (hc : X.calm = true) (g1 : Gl X "list") (m1 : X.mg "list" = none) (g2 : Gl X "range") (m2 : X.mg "range" = none) (ha : PE X a (tE (ct X) W f))
    (hs : starEach [a] X.env = (false, eval a X.env) :: starEach [] X.env := by rfl) (hs2 : starEach [.Call (.Name "range" p2) [a] [] pos2] X.env = (false, eval (.Call (.Name "range" p2) [a] [] pos2) X.env) :: starEach [] X.env := by rfl)
    (hpl : (backTo pos (starEach [] X.env)).any (·.1) = false := by rfl) (hpl2 : (backTo pos2 (starEach [] X.env)).any (·.1) = false := by rfl) :
    PE X (.Call (.Name "list" p) [.Call (.Name "range" p2) [a] [] pos2] [] pos) (tE (ct X) W (eListRng f)) :=
  PE.mono (pe_callTy (cr_listRng hc) g1 m1 (by decide +kernel) (pa_cons (pe_callTy cr_range1 g2 m2 (by decide +kernel) (pa_cons ha pa_nil hs) (by decide) (by decide) hs hpl2) pa_nil hs2) (by decide) (by decide) hs2 hpl) fun σ H Q ⟨g, ρ, h0, rh, rs, p⟩ => by
    refine ⟨g, ρ, h0, rh, rs, (Pst.bind (R := RT (ct X)) p).imp fun u H1 ⟨g1, v, h1, st, rh1, rv1, p1⟩ => ?_⟩
    split at p1
    · rename_i n
      split at p1
      · rename_i cc
        refine ⟨n, by rw [int_get rv1], fun q hq => ⟨q, n, rfl, upd_same, cc.2, cc.1, fun l hl => ?_⟩⟩
        have s0 : Stp g1 H1 g1 (upd H1 q (.rng 0 n)) := .junk rh1 hq
        obtain ⟨s1, s2, s3⟩ := new_lst (rh1.junk hq) hl (rvs_rng n.toNat)
        exact p1 _ _ _ (s0.trans s1) s2 s3
      · exact p1.elim
    · exact p1.elim
end
end J
namespace J
open PySem L2
variable {ρ : VSt} {h h' : VH}
theorem a_own {ne c F fa fb} : eOwn ne c F fa fb ρ h = bnd (fa ρ h) (fun v h1 => bnd (fb ρ h1) (fun w h2 => ownR ne c F v w h2) (tg _)) (tg _) := nr rfl
theorem a_lenOwn {c F fa} : eLenOwn c F fa ρ h = bnd (fa ρ h) (fun v h1 => lenR c F v h1) (tg _) := nr rfl
theorem lenR_of {cn : Str} {F : FF} {v : VV} {a : Str × List Str × List VV} {n : Int} (ea : insOf h v = some a) (ca : a.1 = cn) (er : F [v] h = .ok (.int n) h') (n0 : 0 ≤ n) (n1 : n < 1000000) : lenR cn F v h = .ok (.int n) h' := by
  unfold lenR
  rw [ea]
  simp only
  rw [if_pos ca, er]
  simp only [noX, Res.bind]
  rw [if_pos ⟨n0, n1⟩]
theorem a_isiC {c cs fa} : eIsiC c cs fa ρ h = bnd (fa ρ h) (fun v h1 => lift ((isiK h1 c cs v).map .bl) h1) (tg _) := nr rfl
theorem a_items {fa} : iItemsK fa ρ h = bnd (fa ρ h) (fun v h1 => match v with
  | .dK ks vs => .ok ((ks.zip vs).map fun p => VV.tup [keyB p.1, p.2]) h1
  | _ => .no) (tg _) := nr rfl
theorem a_methX {cn m n F dws fo fa} : eMethX cn m n F dws fo fa ρ h = bnd (fo ρ h) (fun v h1 => methC cn m (insOf h1 v) (bnd (fa ρ h1) (fun vs h2 => if (v :: (vs ++ dws)).length = n then F (v :: (vs ++ dws)) h2 else .no) (tg _))) (tg _) := by
  unfold eMethX
  show Res.bind _ _ = Res.bind _ _
  congr 1
theorem a_makeX {cn n F dws fa} : eMakeX cn n F dws fa ρ h = bnd (fa ρ h) (fun vs h1 => if (VV.obj h1.length :: (vs ++ dws)).length = n then mkX h1.length (F (.obj h1.length :: (vs ++ dws)) (h1 ++ [.ins cn [] []])) else .no) (tg _) := nr rfl
theorem fin_exc {x ns vs} {n : Nat} : (SR.exc x ns vs ρ h).fin n = .exc x ns vs h := nr rfl
def lrD (v : VV) (h1 : VH) : Res VV := match v with
  | .int n => if 0 ≤ n ∧ n ≤ SZ then .ok (.lst (rngV 0 n.toNat)) h1 else .no
  | _ => .no
theorem a_listRng {f} : eListRng f ρ h = bnd (f ρ h) lrD (tg _) := nr rfl
theorem lrD_int {n : Int} : lrD (.int n) h = if 0 ≤ n ∧ n ≤ SZ then .ok (.lst (rngV 0 n.toNat)) h else .no := nr rfl
end J
namespace J
open PySem L2
/-! the head: one run in the kernel, what is leant on told by names -/
def obsL (as : List Addr) (fa : List He.Fa) (fn : List He.DefD) (ex : PySem.W.Frag → Bool) (g : Addr → Option Obj) : He.AlD × Bool := (He.obsD fa fn (He.frT g as), ex (He.frT g as))
/-- what is told of the written part -/
def SaysL (fa : List He.Fa) (fn : List He.DefD) (ex : PySem.W.Frag → Bool) (h : Heap) (K : PySem.W.Frag) : Prop := K.In h ∧ He.SaysD fa fn K ∧ ex K = true
def hookL (as : List Addr) (fa : List He.Fa) (fn : List He.DefD) (ex : PySem.W.Frag → Bool) : PySem.W.Hook where
  α := He.AlD × Bool
  obs s := obsL as fa fn ex s.heap.get?
  val _ := (He.valD fn, true)
  says _ h := ∃ K : PySem.W.Frag, SaysL fa fn ex h K
  of _ _ e := ⟨_, He.frT_in, congrArg (fun z : He.AlD × Bool => z.1) e, congrArg (fun z : He.AlD × Bool => z.2) e⟩
  keeps _ _ _ := fun ⟨K, a, b⟩ k => ⟨K, PySem.W.Frag.In.keeps a k, b⟩
theorem obsL_eq {as : List Addr} {fa : List He.Fa} {fn : List He.DefD} {ex : PySem.W.Frag → Bool} (s : PySem.W.SharedT) : obsL as fa fn ex (HandSHeadRun.getT s) = (hookL as fa fn ex).obs s.abs := by
  show obsL as fa fn ex (HandSHeadRun.getT s) = obsL as fa fn ex s.abs.heap.get?
  rw [show HandSHeadRun.getT s = s.abs.heap.get? from funext (HandSHeadRun.getT_eq s)]
section
variable {fa : List He.Fa} {fn : List He.DefD} {ex : PySem.W.Frag → Bool} {h : Heap} {K : PySem.W.Frag} {mg : Str → Option Value}
theorem SaysL.f (c : SaysL fa fn ex h K) {f : He.Fa} (i : Nat) (e : fa[i]? = some f) : f.ok K = true := c.2.1.fact i e
theorem SaysL.d (c : SaysL fa fn ex h K) {d : He.DefD} (i : Nat) (e : fn[i]? = some d) : ∃ fd, FunD K d.name d.qual d.params d.body d.scope (d.dvs K) (d.kws K) (He.fAd K d.at_) fd := c.2.1.def_ i e
/-- a global's def -/
theorem SaysL.dm (c : SaysL fa fn ex h K) {x : Str} {st : Stmt} {df : List He.Dv} {kw : List (Str × He.Dv)} (i : Nat) (e : fn[i]? = some ⟨(x, none), x, x, defArgs st, defBody st, defScope st, df, kw⟩) : ∃ fd, Dm K x x st (df.map (He.Dv.v K)) (kw.map fun q => (q.1, q.2.v K)) (He.ga K x) fd := by
  obtain ⟨fd, F⟩ := c.d i e
  exact ⟨fd, ⟨F⟩⟩
/-- a method -/
theorem SaysL.mm (c : SaysL fa fn ex h K) {x m q : Str} {st : Stmt} {df : List He.Dv} {kw : List (Str × He.Dv)} (i : Nat) (e : fn[i]? = some ⟨(x, some m), m, q, defArgs st, defBody st, defScope st, df, kw⟩) : ∃ fd, Dm K m q st (df.map (He.Dv.v K)) (kw.map fun q => (q.1, q.2.v K)) (He.ma K (He.ga K x) m) fd := by
  obtain ⟨fd, F⟩ := c.d i e
  exact ⟨fd, ⟨F⟩⟩
theorem SaysL.glo (c : SaysL fa fn ex h K) (G : h.Ns mainGlobals mg) {x : Str} (i : Nat) (e : fa[i]? = some (.glo x)) : mg x = some (.ref (He.ga K x)) := He.glo_ok c.1 G (c.f i e)
theorem SaysL.free (c : SaysL fa fn ex h K) (G : h.Ns mainGlobals mg) {x : Str} (i : Nat) (e : fa[i]? = some (.free x)) : mg x = none := He.free_ok c.1 G (c.f i e)
theorem SaysL.int (c : SaysL fa fn ex h K) (G : h.Ns mainGlobals mg) {x : Str} {z : Int} (i : Nat) (e : fa[i]? = some (.int x z)) : ∃ t, mg x = some (.int z t) := He.int_ok c.1 G (c.f i e)
theorem SaysL.str (c : SaysL fa fn ex h K) (G : h.Ns mainGlobals mg) {x z : Str} (i : Nat) (e : fa[i]? = some (.str x z)) : ∃ t, mg x = some (.str z t) := He.str_ok c.1 G (c.f i e)
theorem SaysL.cls (c : SaysL fa fn ex h K) (G : h.Ns mainGlobals mg) {x : Str} (i j : Nat) (e : fa[i]? = some (.glo x)) (e2 : fa[j]? = some (.cls x)) : ClsT K mg x (He.ga K x) := ⟨c.glo G i e, He.cls_ok (c.f j e2)⟩
end
/-- what is read of an own exception's class, checked at once -/
def xcB (K : PySem.W.Frag) (C : Addr) : Bool :=
  (match K.lookup C with
  | some ⟨.type t, _, .cls cd, sl⟩ => (match cd.mro, sl.toList with
    | .ref D :: bm, [_, _, _, _, some (.builtin n), _] => decide (t = "type") && (decide (D = C) && (decide (n = "ValueError.__new__") && (cd.hasDict && (!cd.hasDel && PySem.HandSPX.refsVE bm))))
    | _, _ => false)
  | _ => false) && (decide (PySem.W.findIn K (.ref C) "__setattr__" = some (some (.builtin "object.__setattr__"))) && (decide (PySem.W.subIn K (.ref C) (.type "BaseException") = some true) && (decide (PySem.W.typeIn K (.ref C) = some (.type "type")) &&
    (PySem.W.keepIn K (.ref C) && (decide (PySem.W.findIn K (.ref C) "word" = some none) && decide (PySem.W.findIn K (.ref C) "at" = some none))))))
theorem xcB_ok {K : PySem.W.Frag} {C : Addr} (b : xcB K C = true) : XcK K C := by
  obtain ⟨b0, b⟩ := Bool.and_eq_true_iff.mp b
  obtain ⟨b1, b⟩ := Bool.and_eq_true_iff.mp b
  obtain ⟨b2, b⟩ := Bool.and_eq_true_iff.mp b
  obtain ⟨b3, b⟩ := Bool.and_eq_true_iff.mp b
  obtain ⟨b4, b⟩ := Bool.and_eq_true_iff.mp b
  obtain ⟨b5, b6⟩ := Bool.and_eq_true_iff.mp b
  refine ⟨⟨?_, of_decide_eq_true b1, of_decide_eq_true b2, of_decide_eq_true b3, b4⟩, of_decide_eq_true b5, of_decide_eq_true b6⟩
  split at b0
  · rename_i t dd cd sl ho
    split at b0
    · rename_i D bm k0 k1 k2 k3 n k5 hm hs
      obtain ⟨c1, c⟩ := Bool.and_eq_true_iff.mp b0
      obtain ⟨c2, c⟩ := Bool.and_eq_true_iff.mp c
      obtain ⟨c3, c⟩ := Bool.and_eq_true_iff.mp c
      obtain ⟨c4, c⟩ := Bool.and_eq_true_iff.mp c
      obtain ⟨c5, c6⟩ := Bool.and_eq_true_iff.mp c
      have c1 := of_decide_eq_true c1
      have c2 := of_decide_eq_true c2
      have c3 := of_decide_eq_true c3
      subst c1 c2 c3
      obtain ⟨nm, bs, mro, ns, qn, hd, sn, sub, ab, col, del⟩ := cd
      have hm : mro = _ := hm
      have c4 : hd = true := c4
      have d5 : del = false := by simpa using c5
      obtain ⟨sl⟩ := sl
      have hs : sl = _ := hs
      subst hm c4 d5 hs
      exact ⟨nm, qn, ns, bs, bm, sn, sub, ab, col, dd, k0, k1, k2, k3, k5, ho, c6⟩
    · cases b0
  · cases b0
/-- a refusal's class and its __init__ -/
def xrB (K : PySem.W.Frag) (WE : Addr) (x : Str) (i : Nat) : Bool :=
  xcB K (He.ga K x) && (refB K WE x i (He.ga K x) && (decide (PySem.W.findIn K (.ref (He.ga K x)) "__init__" = some (some (.ref (He.ma K (He.ga K x) "__init__")))) && decide (PySem.W.typeIn K (.ref (He.ma K (He.ga K x) "__init__")) = some (.type "function"))))
theorem xrB_ok {K : PySem.W.Frag} {WE : Addr} {x : Str} {i : Nat} (b : xrB K WE x i = true) : XcK K (He.ga K x) ∧ refB K WE x i (He.ga K x) = true ∧ PySem.W.findIn K (.ref (He.ga K x)) "__init__" = some (some (.ref (He.ma K (He.ga K x) "__init__"))) ∧ PySem.W.typeIn K (.ref (He.ma K (He.ga K x) "__init__")) = some (.type "function") := by
  obtain ⟨b0, b⟩ := Bool.and_eq_true_iff.mp b
  obtain ⟨b1, b⟩ := Bool.and_eq_true_iff.mp b
  obtain ⟨b2, b3⟩ := Bool.and_eq_true_iff.mp b
  exact ⟨xcB_ok b0, b1, of_decide_eq_true b2, of_decide_eq_true b3⟩
/-- the base of the refusals -/
def weB (K : PySem.W.Frag) : Bool := PySem.W.readsIn K (He.ga K "WebError") (.type "type") && (decide (PySem.W.specialIn K (.ref (He.ga K "WebError")) "__getattribute__" = some (some (.builtin "type.__getattribute__"))) &&
  (match PySem.W.findCls K (.ref (He.ga K "WebError")) (.type "type") "__init__" with
  | some (.val (.ref f)) => decide (f = He.ma K (He.ga K "WebError") "__init__")
  | _ => false))
theorem weB_ok {K : PySem.W.Frag} (b : weB K = true) : PySem.W.readsIn K (He.ga K "WebError") (.type "type") = true ∧ PySem.W.specialIn K (.ref (He.ga K "WebError")) "__getattribute__" = some (some (.builtin "type.__getattribute__")) ∧ PySem.W.findCls K (.ref (He.ga K "WebError")) (.type "type") "__init__" = some (.val (.ref (He.ma K (He.ga K "WebError") "__init__"))) := by
  obtain ⟨b0, b⟩ := Bool.and_eq_true_iff.mp b
  obtain ⟨b1, b2⟩ := Bool.and_eq_true_iff.mp b
  refine ⟨b0, of_decide_eq_true b1, ?_⟩
  split at b2
  · rename_i f e
    rw [e, of_decide_eq_true b2]
  · cases b2
/-- the law's code object and its empty table -/
def tabB (K : PySem.W.Frag) : Bool := match PySem.W.tabIn K lamFn with
  | some (_, T) => (K.lookup T).isNone
  | none => false
theorem tabB_ok {K : PySem.W.Frag} (b : tabB K = true) : ∃ c T, PySem.W.tabIn K lamFn = some (c, T) ∧ K.lookup T = none := by
  unfold tabB at b
  split at b
  · rename_i c T e
    exact ⟨c, T, e, by simpa using b⟩
  · cases b
theorem walk_L {l : PySem.W.OpenLaw} {n k : Nat} {q : Program} {loose : List Str} {XP : (Str → Option Value) → Heap → Prop} {d : DefRec} {x : Str} {Fm : FF} {fs : List He.Fa} {fn : List He.DefD} {ex : PySem.W.Frag → Bool}
    (hn : l.most = some n) (hn2 : n ≤ sizeLine) (hdf : d.params.defaults = []) (hr : Room k PySem.callerA) (hrec : ((PyProof.Rows.recsOf q).find? fun e => e.name == lamFn).isSome = true) (hd : d.name = "law")
    (F : ∀ (w : World) (mg : Str → Option Value) (fa : Addr) (h : Heap) (K : PySem.W.Frag), SaysL fs fn ex h K → h.Ns mainGlobals mg → mg "law" = some (.ref fa) →
      ∃ (fd : FuncData) (cc P : Addr), PySem.W.tabIn K lamFn = some (cc, P) ∧ K.lookup P = none ∧ (∀ (s : Shared) (u : Value), BindsTo s fd ⟨[u], []⟩ [(x, u)]) ∧
        ∀ base : Heap, K.In base → base.Ns mainGlobals mg → LamX.TabB base mg cc P → FnOk l.prog w K mg base (L2N.CX l.prog w) k fa fd [x] (spF ⟨K, mg⟩ 1 Fm))
    (hF : ∀ ns : List Int, ns.length ≤ n → (∀ z ∈ ns, Builtin.Int.intBits z ≤ 1048576) → ∃ h', Fm [.scr (ns.map VV.int)] [] = .ok (.bl true) h') {as : List Addr} :
    PySem.W.WalkO q loose XP (hookL as fs fn ex).says l.row.toRowW d [] (fun f vs => PySem.call f vs) := by
  refine Att.attach_callB hn hdf fun w s₀ s₁ mg mb fa o pm cd doc a vs ns G Y ho hd1 hcd hmg hobj hints hlen hbits hg => ?_
  rw [hd] at hmg
  obtain ⟨K, Y⟩ : ∃ K, SaysL fs fn ex _ K := Y
  obtain ⟨fd, cc, P, hT, nT, hb, hF'⟩ := F w mg fa _ K Y G.T.g hmg
  obtain ⟨dL, hL⟩ := Option.isSome_iff_exists.mp hrec
  obtain ⟨C, hP⟩ := PySem.W.tab_of G.T Y.1 hL hT
  have one : ∀ p ∈ [(cc, P)], p = (cc, P) := fun p hp => by simpa using hp
  exact LamX.law_callTs (cs := [(cc, P)]) Y.1 G.T.g G.T.b G.T.builtins G.T.nolimit hg (fun p hp => (one p hp) ▸ hP) (fun p hp => (one p hp) ▸ nT) (fun p hp => (one p hp) ▸ C) G.T.bmain hobj hints (Nat.le_trans hlen hn2) hr
    (fun base KB GB TB => hF' base KB GB (TB (cc, P) (List.mem_singleton_self _))) hb (fun H hH hS => law_sp (fun c2 P2 e2 => by
      have e3 := hT.symm.trans e2
      cases e3
      exact LamX.TabS.nil (hH (cc, P) (List.mem_singleton_self _))) hS (hF ns hlen hbits)) fun H e s' => cx_no
end J
namespace J
open PySem L2
/-! {k: v, l: w} with tuples as keys -/
end J
namespace J
open PySem L2
end J
namespace J
open PySem L2
/-! dict(d), a new root -/
def dcp (v : VV) (h1 : VH) : Res VV := match v with
  | .dK ks vs => .ok (.obj h1.length) (h1 ++ [.dK ks vs])
  | _ => .no
def eDictD (f : EF) : EF := fun ρ h => (f ρ h).bind dcp
/-! sorted(set(t)), t a tuple of ints -/
variable {ρ : VSt} {h h' : VH}
theorem a_dictD {f} : eDictD f ρ h = bnd (f ρ h) dcp (tg _) := nr rfl
theorem dcp_dK {ks vs} : dcp (.dK ks vs) h = .ok (.obj h.length) (h ++ [.dK ks vs]) := nr rfl
end J
namespace J
open PySem L2
open PyProof.Rows (envOfC)
/-! {k: v for t in xs}, xs data or a root that nothing in it changes -/
def seqP (v : VV) (h : VH) : Option (List VV) := match v with
  | .lst xs => some xs
  | .obj n => match h[n]? with
    | some (.fl xs) => some xs
    | _ => none
  | _ => none
def eDcP (own : List Nat) (fo : EF) (b : VV → VSt → Option VSt) (fk fv : EF) : EF := fun ρ h => (fo ρ h).bind fun v h1 => match seqP v h1 with
  | none => .no
  | some xs => if xs.length > SZ then .no else match dcGo b fk fv (wp ρ own) xs h1 ([], []) with
    | .ok a h2 => .ok (.dK a.1 a.2) h2
    | _ => .no
section
variable {X : Cx} {W : WX}
/-! xs[::-1] -/
def eRev (f : EF) : EF := fun ρ h => (f ρ h).bind fun v h1 => match lstOf h1 v with
  | some xs => .ok (.lst xs.reverse) h1
  | none => .no
/-! x.clear() of a root -/
def eClr (o : EF) : EF := fun ρ h => (o ρ h).bind fun ov h1 => match ov with
  | .obj n => (match h1[n]? with
    | some (.fl _) => .ok .non (h1.set n (.fl []))
    | _ => .no)
  | _ => .no
/-! root != data -/
/-! dict(xs), xs a list of pairs with unlike keys -/
/-! == of an instance and a dict, by the class's own __eq__ -/
variable {k : Nat} {cn : Str} {Fm : FF}
def ownD (cn : Str) (F : FF) (v w : VV) (h2 : VH) : Res VV := match insOf h2 v, w with
  | some a, .dK ks vs => if a.1 = cn then (noX (F [v, .dK ks vs] h2)).bind fun r h3 => (match r with
    | .bl r => .ok (.bl r) h3
    | _ => .no) else .no
  | _, _ => .no
def eOwnD (cn : Str) (F : FF) (fa fb : EF) : EF := fun ρ h => (fa ρ h).bind fun v h1 => (fb ρ h1).bind fun w h2 => ownD cn F v w h2
end
end J
namespace J
open PySem L2 M
/-! evaluation of what J56 added -/
section
variable {ρ : VSt} {h : VH}
def dcS (o : Option (List VV)) (k : List VV → Res VV) : Res VV := match o with
  | none => .no
  | some xs => k xs
theorem dcS_some {xs : List VV} {k : List VV → Res VV} : dcS (some xs) k = k xs := nr rfl
theorem a_dcP {own fo b fk fv} : eDcP own fo b fk fv ρ h = bnd (fo ρ h) (fun v h1 => dcS (seqP v h1) fun xs => if xs.length > SZ then .no else afterK (dcGo b fk fv (wp ρ own) xs h1 ([], []))) (tg _) := nr rfl
theorem seqP_lst {xs : List VV} : seqP (.lst xs) h = some xs := nr rfl
def revR (o : Option (List VV)) (h1 : VH) : Res VV := match o with
  | some xs => .ok (.lst xs.reverse) h1
  | none => .no
theorem a_rev {f} : eRev f ρ h = bnd (f ρ h) (fun v h1 => revR (lstOf h1 v) h1) (tg _) := nr rfl
theorem revR_lst {xs : List VV} {h2 : VH} : revR (lstOf h2 (.lst xs)) h = .ok (.lst xs.reverse) h := nr rfl
def clrO (o : Option VO) (n : Nat) (h1 : VH) : Res VV := match o with
  | some (.fl _) => .ok .non (h1.set n (.fl []))
  | _ => .no
def clrR (v : VV) (h1 : VH) : Res VV := match v with
  | .obj n => clrO h1[n]? n h1
  | _ => .no
theorem a_clr {f} : eClr f ρ h = bnd (f ρ h) clrR (tg _) := by
  unfold eClr
  cases f ρ h with
  | no => rfl
  | exc => rfl
  | ok ov h1 =>
    cases ov <;> rfl
theorem clrR_obj {n : Nat} : clrR (.obj n) h = clrO h[n]? n h := nr rfl
theorem clrO_fl {xs : List VV} {n : Nat} : clrO (some (.fl xs)) n h = .ok .non (h.set n (.fl [])) := nr rfl
theorem a_ownD {cn F fa fb} : eOwnD cn F fa fb ρ h = bnd (fa ρ h) (fun v h1 => bnd (fb ρ h1) (fun w h2 => ownD cn F v w h2) (tg _)) (tg _) := nr rfl
end
end J
namespace J
open PySem L2
open PyProof.Rows (envOfC)
/-! for v in d.values(), d's keys tuples -/
/-! the same over the small heap -/
section
variable {X : Cx} {W : WX}
def iValsD (f : EF) : AF := fun ρ h => (f ρ h).bind fun v h1 => match v with
  | .dT ks vs => .ok vs h1
  | _ => .no
end
end J
namespace J
open PySem L2
/-! the roots that one turn of a loop made are forgotten at its end -/
end J
namespace J
open PySem L2
open PyProof.Rows (envOfC)
/-! dict(zip(t, xs)), t a tuple: the pairs are held, so zip makes each anew -/
end J
namespace J
open PySem L2
/-! dict(zip(t, xs)), t a tuple, the keys unlike -/
def dzMT (vs : List VV) : Option VV := match vs with
  | [.tup xs, .lst ys] => (keysA xs).bind fun ks => if ks.Nodup ∧ ks.length = ys.length ∧ ks.length ≤ 1000 then some (.dK ks ys) else none
  | _ => none
def eDictZipT (a : AF) : EF := fun ρ h => (a ρ h).bind fun vs h1 => lift (dzMT vs) h1
end J
namespace J
open PySem L2 M
/-! evaluation of what J57 added -/
section
variable {ρ : VSt} {h : VH}
def valsD (v : VV) (h1 : VH) : Res (List VV) := match v with
  | .dT _ vs => .ok vs h1
  | _ => .no
theorem a_valsD {f} : iValsD f ρ h = bnd (f ρ h) valsD (tg _) := nr rfl
theorem a_dictZipT {a : AF} : eDictZipT a ρ h = bnd (a ρ h) (fun vs h1 => lift (dzMT vs) h1) (tg _) := nr rfl
theorem valsD_dT {ks vs} : valsD (.dT ks vs) h = .ok vs h := nr rfl
end
end J
namespace J
open PySem L2
open PyProof.Rows (IntsAre)
/-! max(list of ints, default=int) -/
def maxZ : List Int → Int → Int
  | [], d => d
  | x :: xs, _ => xs.foldl max x
def cMaxD (h : VH) (vs ws : List VV) : Option VV := match vs, ws with
  | [v], [.int d] => (lstOf h v).bind fun xs => (intsOf xs).map fun ns => .int (maxZ ns d)
  | _, _ => none
def eMaxD (a k : AF) : EF := fun ρ h => (a ρ h).bind fun vs h1 => (k ρ h1).bind fun ws h2 => lift (cMaxD h2 vs ws) h2
end J
namespace J
open PySem L2
open PySem.Spec
open PyProof.Rows hiding St
/-! list comprehensions of three clauses. One lemma (clause_loop) serves the loop of each clause, another (enter_block) the way into the block. -/
end J
namespace J
open PySem L2
/-! three clauses over the small heap -/
def lc3Go (b : VV → VSt → Option VSt) (t : TF) (it1 : AF) (b1 : VV → VSt → Option VSt) (vs1 : List Nat) (t1 : TF) (it2 : AF) (b2 : VV → VSt → Option VSt) (vs2 : List Nat) (t2 : TF) (e : EF) (ρ : VSt) : List VV → VH → List VV → Res (List VV)
  | [], h, acc => .ok acc h
  | x :: xs, h, acc => match b x ρ with
    | none => .no
    | some ρ' => (t ρ' h).bind fun k h1 => if k = true then (it1 ρ' h1).bind fun ys h2 => (lc2Go b1 t1 it2 b2 vs2 t2 e (wp ρ' vs1) ys h2 acc).bind fun vs h3 => lc3Go b t it1 b1 vs1 t1 it2 b2 vs2 t2 e ρ xs h3 vs else lc3Go b t it1 b1 vs1 t1 it2 b2 vs2 t2 e ρ xs h1 acc
def eLc3 (own : List Nat) (it : AF) (b : VV → VSt → Option VSt) (t : TF) (it1 : AF) (b1 : VV → VSt → Option VSt) (vs1 : List Nat) (t1 : TF) (it2 : AF) (b2 : VV → VSt → Option VSt) (vs2 : List Nat) (t2 : TF) (e : EF) : EF := fun ρ h => (it ρ h).bind fun xs h1 => match lc3Go b t it1 b1 vs1 t1 it2 b2 vs2 t2 e (wp ρ own) xs h1 [] with
  | .ok vs h2 => .ok (.lst vs) h2
  | _ => .no
end J
namespace J
open PySem L2
open PySem.Spec
open PyProof.Rows hiding St
/-! x = [e for .. in .. for .. in .. for .. in ..] -/
end J
namespace J
open PySem L2
/-! {k: v for t in xs}, the keys tuples -/
section
variable {X : Cx} {W : WX}
def eDc1T (own : List Nat) (it : AF) (b : VV → VSt → Option VSt) (fk fv : EF) : EF := fun ρ h => (it ρ h).bind fun xs h1 => (noX (accGo b (stDict fk fv) (wp ρ own) xs h1 ([], []))).bind fun a h2 => .ok (.dT a.1 a.2) h2
end
end J
namespace J
open PySem L2
/-! a, b = a list -/
end J
namespace J
open PySem L2
/-! len(set(t)), t a tuple of ints -/
def cLenT : OpN := fun _ vs => match vs with
  | [v] => (tupN v).bind fun l => if l.length < 64 then some (.int (l.eraseDups.length : Int)) else none
  | _ => none
section
variable {X : Cx} {W : WX}
theorem j_lenSetT {a : Expr} {fa : EF} {p p2 pos pos2 : Pos} (hc : X.calm = true) (g1 : Gl X "len") (m1 : X.mg "len" = none) (g2 : Gl X "set") (m2 : X.mg "set" = none) (ha : PE X a (tE (ct X) W fa))
    (s1 : starEach [a] X.env = (false, eval a X.env) :: starEach [] X.env := by rfl) (q1 : (backTo pos2 (starEach [] X.env)).any (·.1) = false := by rfl)
    (s2 : starEach [.Call (.Name "set" p2) [a] [] pos2] X.env = (false, eval (.Call (.Name "set" p2) [a] [] pos2) X.env) :: starEach [] X.env := by rfl) (q2 : (backTo pos (starEach [] X.env)).any (·.1) = false := by rfl) :
    PE X (.Call (.Name "len" p) [.Call (.Name "set" p2) [a] [] pos2] [] pos) (tE (ct X) W (eCall cLenT (aCons fa aNil))) := by
  have inner := pe_callTy (T := "set") (cr_setIt (X := X) hc) g2 m2 rfl (pa_cons ha pa_nil s1) (by decide) (by decide) s1 q1 (p := p2) (pos := pos2)
  refine PE.mono (pe_callB (id := "len") (call_lenSO (X := X)) g1 m1 rfl (pa_cons inner pa_nil s2) (by decide) (by decide) s2 q2) fun σ H Q h => ?_
  obtain ⟨g, ρ, h0, rh, rs, pp⟩ := h
  refine ⟨g, ρ, h0, rh, rs, ?_⟩
  unfold eCall aCons aNil at pp
  cases er : fa ρ h0 with
  | no => rw [er] at pp; exact pp
  | exc => rw [er] at pp; exact pp
  | ok v h1 =>
    rw [er] at pp
    simp only [Res.bind] at pp
    intro g' H' u st rh' rv
    have pp := Pst.step st pp
    cases e1 : tupN v with
    | none => simp only [cLenT, e1, Option.bind_none, lift] at pp; exact pp.elim
    | some l =>
      by_cases cc : l.length < 64
      · simp only [cLenT, e1, Option.bind_some, if_pos cc, lift] at pp
        obtain ⟨b, rfl, tb⟩ := tupN_get rv e1
        refine ⟨b, l, rfl, .inl (.inl tb), cc, fun S hS => ?_⟩
        have stS : Stp g' H' g' (upd H' S (SetO X.w S (fun j => decide (j ∈ l)) l.eraseDups.length)) := .junk rh' hS
        have rhS := rh'.junk (o := SetO X.w S (fun j => decide (j ∈ l)) l.eraseDups.length) hS
        exact ⟨S, _, l.eraseDups.length, rfl, upd_same, pp _ _ _ stS rhS rt_int⟩
      · simp only [cLenT, e1, Option.bind_some, if_neg cc, lift] at pp
        exact pp.elim
end
theorem lenT_tup {h : VH} {l : List Int} (hl : l.length < 64) : cLenT h [.tup (l.map VV.int)] = some (.int (l.eraseDups.length : Int)) := by
  show (tupN (.tup (l.map VV.int))).bind _ = _
  have : tupN (.tup (l.map VV.int)) = some l := intL_map l
  rw [this, Option.bind_some, if_pos hl]
end J
namespace J
open PySem L2
open PySem.Spec
open PyProof.Rows hiding St
/-! some statements taken together, so that the roots that they made may be forgotten behind them -/
end J
namespace J
open PySem L2
/-! max(xs), a list of ints that is not empty -/
end J
namespace J
open PySem L2
/-! sorted(xs) whose list is a root -/
end J
namespace J
open PySem L2
/-! for i, x in enumerate(xs), xs a root that may be read while the loop runs -/
end J
namespace J
open PySem L2
/-! a call that only looks at lists which are roots: for as long as it runs all roots are frozen, afterwards they are roots again -/
end J
namespace J
open PySem L2
open AutoSeq1 (wpAny_loadPart')
/-! enumerate(a tuple) -/
theorem newE_tup (l : Addr) (items : Array Value) (n : Nat) (dct : Option Addr) (sl : Array (Option Value)) :
    Meets (Builtin.«enumerate.__new__» ⟨[.type "enumerate", .ref l], []⟩) (fun _ R s => s.heap.get? l = some { cls := .type "tuple", dict := dct, data := .seq items n, slots := sl } ∧
      R (.ok (.ret (.ref (s.heap.push { cls := .type "tuple_iterator", data := .fields #[.ref l, .int 0 0] }).objs.size)))
        { s with heap := (s.heap.push { cls := .type "tuple_iterator", data := .fields #[.ref l, .int 0 0] }).push { cls := .type "enumerate", data := .fields #[.none, .bool false, .ref s.heap.objs.size, rawInt 0, .none, .none] } }) :=
  .of_wp fun prog w A R s h => by
    obtain ⟨hp, g, d, tk, os⟩ := s
    obtain ⟨hl, h⟩ := h
    have hsub := sub_enumerate
    have hT : Heap.IsTuple (Shared.heap ⟨hp, g, d, tk, os⟩) l items := ⟨_, hl, rfl, n, rfl⟩
    wp_walk using wpAny_loadPart' hl
    refine wpAny_stack_any fun st => wpAny_pure ?_
    split
    · rename_i c _ _ _ _ _
      cases (c == Value.type "enumerate") <;>
        (wp_walk using wpAny_loadPart' hl, wpAny_pyIter_tuple hT
         exact ⟨_, rfl, h⟩)
    · wp_walk using wpAny_loadPart' hl, wpAny_pyIter_tuple hT
      exact ⟨_, rfl, h⟩
section
variable {prog : Program} {w : World} {A : Around} {E : Value → Shared → Prop} {s : Shared}
theorem call_enumT {l : Addr} {items : Array Value} {Q : Value → Shared → Prop} (hT : s.heap.IsTuple l items)
    (h : ∀ h', IsEnum h' (s.heap.objs.size + 1) s.heap.objs.size 0 .none → h'.IsTupleIter s.heap.objs.size l 0 → (∀ b o, s.heap.get? b = some o → h'.get? b = some o) → Q (.ref (s.heap.objs.size + 1)) { s with heap := h' }) :
    wpAny (model prog w) A (call (.type "enumerate") [.ref l]) Q E s := by
  obtain ⟨⟨c, dct, dt, sl⟩, hl, hc, n, hd⟩ := hT
  obtain rfl : c = .type "tuple" := hc
  obtain rfl : dt = .seq items n := hd
  refine callType_new F.called_enumerate (by decide) (F.typeCall_enumerate_1 _) (F.newCall_enumerate_1 _) (fun obj => F.args_object_init_2 obj _) F.entry_enumerate_new
    (newE_tup l items n dct sl) ⟨hl, ?_⟩
  generalize eo : ({ cls := .type "tuple_iterator", data := .fields #[.ref l, .int 0 0] } : Obj) = oi
  have hz : (s.heap.push oi).objs.size = s.heap.objs.size + 1 := Heap.size_push ..
  have g1 : (s.heap.push oi).get? s.heap.objs.size = some oi := Heap.get?_push_size _ (by rw [← eo]; rfl)
  show _ ∧ _
  rw [hz]
  have he : IsEnum ((s.heap.push oi).push { cls := .type "enumerate", data := .fields #[.none, .bool false, .ref s.heap.objs.size, rawInt 0, .none, .none] }) (s.heap.objs.size + 1) s.heap.objs.size 0 .none := by
    have q := Heap.get?_push_size (s.heap.push oi) (o := { cls := .type "enumerate", data := .fields #[.none, .bool false, .ref s.heap.objs.size, rawInt 0, .none, .none] }) rfl
    rw [hz] at q
    exact q
  exact ⟨⟨_, he, rfl⟩, h _ he ⟨oi, Heap.get?_push_of_some _ g1, by rw [← eo], by rw [← eo]; rfl⟩ fun b o x => Heap.get?_push_of_some _ (Heap.get?_push_of_some _ x)⟩
theorem drawsT (hh : A.handled = none) (it t : Addr) (hne : t ≠ it) (items : Array Value) :
    Draws prog w A it [it, t] items.size (fun i v => items[i]? = some v) (fun i h => h.IsTupleIter it t i ∧ h.IsTuple t items) where
  live := fun _ _ ⟨⟨o, ho, _⟩, _⟩ => ⟨o, ho⟩
  frame := fun _ _ _ ⟨⟨o, ho, r⟩, o2, ho2, r2⟩ k => ⟨⟨o, k it (List.mem_cons_self ..) o ho, r⟩, o2, k t (List.mem_cons_of_mem _ (List.mem_singleton.mpr rfl)) o2 ho2, r2⟩
  item := fun i s Q E hi ⟨a, b⟩ hQ => RZ.nextOf_tuple_item a b (Array.getElem?_eq_getElem hi) fun h' a' sb => hQ _ h' s.toks (Array.getElem?_eq_getElem hi) ⟨a', b.extBut sb.extBut hne⟩ sb
  done := fun s Q E ⟨a, b⟩ hE => RZ.nextOf_tuple_end hh a b (Array.getElem?_eq_none (Nat.le_refl _)) hE
end
/-- the tuple at a, each item with its number in a new pair -/
def IteT (K : PySem.W.Frag) (a : Addr) : It where
  go i H := ∃ (xs : List V) (x : V), SqT K H a xs ∧ xs[i]? = some x
  yld i H v H' := ∃ T x, v = .ref T ∧ H T = none ∧ H' = upd H T (.tup [.int (i : Nat), x]) ∧ ∀ xs, SqT K H a xs → xs[i]? = some x
  stop i H := ∃ xs : List V, SqT K H a xs ∧ xs.length ≤ i
theorem turnT {P : Program} {w : World} {K : PySem.W.Frag} {elts : List Expr} {kk : Nat} {tpos : Pos} {a e it : Addr} (h1 : e ≠ it) (h2 : a ≠ it) (h3 : e ≠ a) :
    Turn P w K (.Tuple elts kk tpos) (IteT K a) [e, it] e (fun i h => (∃ old, IsEnum h e it ((i : Nat) : Int) old) ∧ h.IsTupleIter it a i) where
  mem := List.mem_cons_self ..
  obj := fun i h ⟨⟨old, he⟩, o, ho, _, hd⟩ b hb => by
    rcases List.mem_cons.mp hb with rfl | hb
    · exact ⟨_, he, fun v z => nomatch z⟩
    · rw [List.mem_singleton.mp hb]
      exact ⟨o, ho, fun v z => by rw [hd] at z; cases z⟩
  keep := fun i h h' ⟨⟨old, he⟩, o, ho, r⟩ k => ⟨⟨old, k e (List.mem_cons_self ..) _ he⟩, o, k it (List.mem_cons_of_mem _ (List.mem_singleton.mpr rfl)) o ho, r⟩
  item := by
    rintro X rfl rfl rfl hc i pins s σ H E I hf ⟨⟨old, he⟩, hit⟩ ⟨xs, x, hq, hx⟩
    obtain ⟨its, rv, tp, hz⟩ := I.tuple hq
    obtain ⟨u, hu, ru⟩ := rv.get hx
    have le : e < s.heap.objs.size := Heap.lt_size he
    have li : it < s.heap.objs.size := by obtain ⟨_, q, _⟩ := hit; exact Heap.lt_size q
    have il : i < its.toArray.size := by rw [List.size_toArray]; exact (List.getElem?_eq_some_iff.mp hu).1
    refine wpAny_pyNext_enum_itemD (drawsT (A := X.A.in1) (I.ok.hd hc) it a h2 its.toArray) he ⟨hit, tp⟩ il h1 (fun z => by
      rcases List.mem_cons.mp z with z | z
      · exact h1 z
      · exact h3 (List.mem_singleton.mp z)) fun v h' tk hv ho st hT hsz hk => ?_
    obtain rfl : u = v := by
      have hv : its.toArray[i]? = some v := hv
      rw [List.getElem?_toArray, hu] at hv
      exact Option.some.inj hv
    refine ⟨_, rfl, wpAny_letOwnedTupleGo_enum (s := { s with heap := h', toks := tk + 1 }) ho fun h2' he' sb => ?_⟩
    have hT2 := (sb.2 _ (Nat.ne_of_gt le)).trans hT
    have new : ObjOk X.prog X.w (upd H s.heap.objs.size (.tup [.int (i : Nat), x])) h2' s.heap.objs.size (.tup [.int (i : Nat), x]) :=
      ⟨by show 2 ≤ sizeLine; decide, [.int i tk, u], .cons ⟨_, rfl⟩ (.cons ru .nil), _, hT2, rfl, _, rfl⟩
    have I1 : Inv X pins σ (upd H s.heap.objs.size (.tup [.int (i : Nat), x])) { s with heap := h2', toks := tk + 1 } :=
      I.turnedNew (ch := [e, it]) (fun b ob hb q => (sb.2 b (fun z => hb (by simp [z]))).trans (hk b ob (fun z => hb (by simp [z])) (fun z => hb (by simp [z])) q)) hf (Nat.le_refl _) new
    refine ⟨.ref s.heap.objs.size, _, I1, rfl, ⟨_, x, rfl, I.hok.fresh (Nat.le_refl _), rfl, fun ys hy => by rw [I.tuple_inj hy hq]; exact hx⟩, ⟨⟨u, ?_⟩, ?_⟩, fun b hb => ?_⟩
    · rw [show ((i + 1 : Nat) : Int) = (i : Int) + 1 by omega]
      exact he'
    · obtain ⟨o, ho2, r⟩ := st.1
      exact ⟨o, (sb.2 it (Ne.symm h1)).trans ho2, r⟩
    · have lb : b < s.heap.objs.size := by
        rcases List.mem_cons.mp hb with rfl | hb
        · exact le
        · rw [List.mem_singleton.mp hb]; exact li
      rw [upd_ne (Nat.ne_of_lt lb)]
      exact (hf b hb).1
  done := by
    rintro X rfl rfl rfl hc i pins s σ H E I hf ⟨⟨old, he⟩, hit⟩ ⟨xs, hq, hx⟩
    obtain ⟨its, rv, tp, hz⟩ := I.tuple hq
    have D := drawsT (prog := X.prog) (w := X.w) (A := X.A.in1) (I.ok.hd hc) it a h2 its.toArray
    obtain ⟨f0, f1, f2, f3, f4, f5⟩ := hf it (List.mem_cons_of_mem _ (List.mem_singleton.mpr rfl))
    have hT : s.TypeIs (.ref e) "enumerate" := ⟨_, he, rfl⟩
    unfold pyNext
    refine wpAny_bind (wpAny_attempt (wpAny_callSpecial?_slot (name := Str.ofString "__next__") hT F.slot_enumerate_next (wpAny_call_entry F.slot_enumerate_next hT F.entry_enumerate_next ?_ (F.args_enumerate_next_1 _))))
    show wpAny _ _ (field (.ref e) 2 >>= _) _ _ _
    refine wpAny_bind (wpAny_field he rfl (x := .ref it) rfl ?_)
    refine wpAny_bind (RZ.nextOf_tuple_end (I.ok.hd hc) hit tp (Array.getElem?_eq_none (by rw [List.size_toArray, ← rv.length]; exact hx)) fun h' x eb hx' => ?_)
    obtain ⟨o, ho, hcl⟩ := hx'
    refine wpAny_bind (wpAny_isInstance (T := "StopIteration") (b := true) ⟨o, ho, hcl⟩ isSubtype_stop ?_)
    exact wpAny_pure ⟨rfl, I.turned (t' := s.toks) (fun b o hb q => eb b o hb q) f0 f1 f3 f4 f5⟩
  self := fun A i s Q E ⟨⟨_, he⟩, _⟩ h => wpAny_pyIter_enum he h
def iEnumTup (K : PySem.W.Frag) (ta : TA) : TI := fun σ H R => ta σ H fun vs H1 => ∃ a xs, vs = [.ref a] ∧ SqT K H1 a xs ∧ R (IteT K a) H1
theorem pi_enumT {X : Cx} {e : Expr} {ta : TA} {p pos tpos : Pos} {elts : List Expr} {kk : Nat} (hg : Gl X "enumerate") (hm : X.mg "enumerate" = none) (ha : PA X [e] ta) (hs : starEach [e] X.env = [(false, eval e X.env)] := by rfl) :
    PI X (.Tuple elts kk tpos) (.Call (.Name "enumerate" p) [e] [] pos) (iEnumTup X.K ta) := by
  refine ⟨fun pins s σ H R I h => ?_⟩
  refine PyProof.Rows.Call_ (ld_blt I hg hm PyProof.Rows.boot_enumerate (PyProof.Rows.callWith_type1 (thn (ha.run pos pins s σ H _ I h) fun us s1 ⟨vs, H1, I1, r1, q1⟩ => ?_) hs rfl))
  obtain ⟨a, xs, ex, hq, q⟩ := q1
  subst ex
  cases r1 with
  | cons r rr =>
    cases rr
    cases r
    obtain ⟨its, rv, tp, hz⟩ := I1.tuple hq
    have la : a < s1.heap.objs.size := by obtain ⟨o, ho, _⟩ := id tp; exact Heap.lt_size ho
    refine call_enumT (show s1.heap.IsTuple a its.toArray from tp) fun h' he hit hk => wpAny_pyIter_enum he ?_
    refine ⟨s1.heap.objs.size + 1, [s1.heap.objs.size + 1, s1.heap.objs.size], _, _, H1, rfl, I1.kept (t' := s1.toks) hk, turnT (a := a) (Nat.succ_ne_self _) (Nat.ne_of_lt la) (fun z => absurd la (by rw [← z]; exact Nat.not_lt.mpr (Nat.le_succ _))), ⟨⟨.none, he⟩, hit⟩, fun b hb => ?_, q⟩
    have lb : s1.heap.objs.size ≤ b := by
      rcases List.mem_cons.mp hb with rfl | hb
      · exact Nat.le_succ _
      · rw [List.mem_singleton.mp hb]; exact Nat.le_refl _
    exact I1.fpOk lb (I1.hok.fresh lb)
theorem deliv_enumT {c : Ct} {g : Gh} {H : Hp} {p : Addr} {us : List V} {xs : List VV} (rd : TupAt c g.fz H p us) (rv : RVs c g.fz H xs us) : Deliv c g H (enum 0 xs) (IteT c.K p) where
  go := fun g1 H1 st i hi => by
    rw [enum_len] at hi
    obtain ⟨u, e, _⟩ := rv.get (List.getElem?_eq_getElem hi)
    exact ⟨us, u, (TupAt.stp (z' := g.fz) st.tp rd).sq, e⟩
  stop := fun g1 H1 st i hi => ⟨us, (TupAt.stp (z' := g.fz) st.tp rd).sq, by rwa [enum_len, rv.len] at hi⟩
  yld := fun g1 H1 st i x h1 e rh u H' ⟨T, a, eu, hT, eH, ha⟩ => by
    subst eH eu
    rw [enum_get] at e
    obtain ⟨x1, ex, rfl⟩ := Option.map_eq_some_iff.mp e
    obtain ⟨u1, e1, r1⟩ := rv.get ex
    have qa := ha us (TupAt.stp (z' := g.fz) st.tp rd).sq
    rw [e1] at qa
    cases qa
    have ri : RV c g1.fz H1 (.int ((0 + i : Nat) : Int)) (.int (i : Nat)) := by rw [RV, Nat.zero_add]
    exact ⟨_, pair_new (xs := [.int ((0 + i : Nat) : Int), x1]) rh hT (RVs.cons ri (RVs.one (st.rv r1)))⟩
/-- a list or a tuple -/
def iEnumA (a : AF) : AF := fun ρ h => (a ρ h).bind fun v h1 => match v with
  | [.lst xs] => .ok (enum 0 xs) h1
  | [.scr xs] => .ok (enum 0 xs) h1
  | [.tup xs] => .ok (enum 0 xs) h1
  | _ => .no
section
variable {X : Cx} {W : WX}
theorem ji_enumA {a : Expr} {f : AF} {p pos tpos : Pos} {elts : List Expr} {kk : Nat} (hg : Gl X "enumerate") (hm : X.mg "enumerate" = none) (ha : PA X [a] (tA (ct X) W f)) (hs : starEach [a] X.env = [(false, eval a X.env)] := by rfl) :
    PI X (.Tuple elts kk tpos) (.Call (.Name "enumerate" p) [a] [] pos) (tI (ct X) W (iEnumA f)) :=
  PI.mono (PI.or (pi_enum hg hm ha hs) (pi_enumT hg hm ha hs)) fun σ H R h => by
    obtain ⟨g, ρ, h0, rh, rs, p⟩ := h
    unfold iEnumA at p
    cases e : f ρ h0 with
    | no => rw [e] at p; exact p.elim
    | exc x ns vs h' => exact .inl ⟨g, ρ, h0, rh, rs, by rw [e] at p ⊢; exact p⟩
    | ok v h1 =>
      rw [e] at p
      simp only [Res.bind] at p
      split at p
      · refine .inl ⟨g, ρ, h0, rh, rs, ?_⟩
        rw [e]
        intro g' H' u st rh' rv
        obtain ⟨u1, r1, rfl, a1, rfl⟩ := rv
        obtain ⟨a, us, eu, ra, rvs⟩ := lstF_get a1 rfl
        exact ⟨a, us, by rw [eu], ra.sq, p g' H' _ st rh' (deliv_enum ra rvs)⟩
      · refine .inl ⟨g, ρ, h0, rh, rs, ?_⟩
        rw [e]
        intro g' H' u st rh' rv
        obtain ⟨u1, r1, rfl, a1, rfl⟩ := rv
        obtain ⟨a, us, eu, ra, rvs⟩ := lstF_get a1 rfl
        exact ⟨a, us, by rw [eu], ra.sq, p g' H' _ st rh' (deliv_enum ra rvs)⟩
      · refine .inr ⟨g, ρ, h0, rh, rs, ?_⟩
        rw [e]
        intro g' H' u st rh' rv
        obtain ⟨u1, r1, rfl, a1, rfl⟩ := rv
        obtain ⟨a, us, eu, ra, rvs⟩ := tup_get a1
        exact ⟨a, us, by rw [eu], ra.sq, p g' H' _ st rh' (deliv_enumT ra rvs)⟩
      · exact p.elim
end
end J
namespace J
open PySem L2
/-! xs * n as data -/
def repR (v w : VV) (h : VH) : Res VV := match repO v w with
  | some xs => .ok (.lst xs) h
  | none => .no
def eRep (a b : EF) : EF := fun ρ h => (a ρ h).bind fun v h1 => (b ρ h1).bind fun w h2 => repR v w h2
section
variable {X : Cx} {W : WX}
theorem j_rep {a b : Expr} {fa fb : EF} {pos : Pos} (ha : PE X a (tE (ct X) W fa)) (hb : PE X b (tE (ct X) W fb)) : PE X (.BinOp a .Mult b pos) (tE (ct X) W (eRep fa fb)) :=
  PE.mono (pe_op op_rep ha hb) fun σ H Q ⟨g, ρ, h0, rh, rs, p⟩ => by
    refine ⟨g, ρ, h0, rh, rs, (Pst.bind (R := RT (ct X)) p).imp fun u H1 ⟨g1, v, h1, st, rh1, rv1, p1⟩ => ?_⟩
    refine ⟨g1, ρ, h1, rh1, rs.stp st, (Pst.bind (R := RT (ct X)) p1).imp fun u2 H2 ⟨g2, w, h2, st2, rh2, rv2, p2⟩ => ?_⟩
    unfold repR at p2
    split at p2
    · rename_i r e
      unfold repO at e
      split at e
      · split at e
        · rename_i xs k _ cc
          obtain rfl := Option.some.inj e
          obtain ⟨q, us, rfl, hq, rvs⟩ := lstOf'_get (xs := xs) rh2 (rv1.stp st2) rfl
          refine ⟨q, k, us, rfl, int_get rv2, hq, cc.1, cc.2.1, by rw [← rvs.len]; exact SZ_le cc.2.2, fun l hl => ?_⟩
          obtain ⟨s1, s2, s3⟩ := new_lst rh2 hl (rvs.rep k.toNat)
          exact p2 _ _ _ s1 s2 s3
        · cases e
      · cases e
    · exact p2.elim
end
end J
namespace J
open PySem L2 M
/-! evaluation of what J61, J63 added -/
section
variable {ρ : VSt} {h : VH}
def maxR (v w : VV) (h : VH) : Res VV := lift (cMaxD h [v] [w]) h
theorem a_maxD {a k : EF} : eMaxD (aCons a aNil) (aCons k aNil) ρ h = bnd (a ρ h) (fun v h1 => bnd (k ρ h1) (fun w h2 => maxR v w h2) (tg _)) (tg _) := by
  unfold eMaxD aCons aNil
  show _ = (a ρ h).bind fun v h1 => (k ρ h1).bind fun w h2 => maxR v w h2
  cases a ρ h with
  | no => rfl
  | exc => rfl
  | ok v h1 =>
    simp only [Res.bind]
    cases k ρ h1 <;> rfl
theorem a_lc3 {own it b t it1 b1 vs1 t1 it2 b2 vs2 t2 e} : eLc3 own it b t it1 b1 vs1 t1 it2 b2 vs2 t2 e ρ h = bnd (it ρ h) (fun xs h1 => afterL (lc3Go b t it1 b1 vs1 t1 it2 b2 vs2 t2 e (wp ρ own) xs h1 [])) (tg _) := nr rfl
theorem a_dc1T {own it b fk fv} : eDc1T own it b fk fv ρ h = bnd (it ρ h) (fun xs h1 => bnd (noX (accGo b (stDict fk fv) (wp ρ own) xs h1 ([], []))) (fun a h2 => .ok (.dT a.1 a.2) h2) (tg _)) (tg _) := nr rfl
end
end J
namespace L
open PySem L2 J
def top (i : Nat) : Stmt := PySem.Challenge.pw_cupweb_k09_faces_refused.main.body.getD i (.Pass ⟨0, 0, 0, 0⟩)
abbrev s_law_box : Stmt := top 32
abbrev s_law_mixed : Stmt := top 33
abbrev s_law_take : Stmt := top 34
abbrev s_law_points : Stmt := top 37
abbrev s_law_drawn_face : Stmt := top 38
abbrev s_law_drawn_tops : Stmt := top 39
abbrev s_law_bent_face : Stmt := top 42
abbrev s_law_is_face : Stmt := top 43
abbrev s_is_face : Stmt := top 27
abbrev s_own_faces : Stmt := top 28
abbrev s_Web_init : Stmt := inClass (top 30) 0
abbrev s_law_subs : Stmt := top 35
abbrev s_law_closed : Stmt := top 36
abbrev s_Web_len : Stmt := inClass (top 30) 11
abbrev s_law : Stmt := top 44
abbrev s_WebError_init : Stmt := inClass (top 2) 0
abbrev s_BadFace_init : Stmt := inClass (top 3) 0
abbrev s_Full_init : Stmt := inClass (top 4) 0
abbrev s_law_refusal : Stmt := top 41
abbrev s_law_kinds : Stmt := top 40
def fs_0 : List He.Fa := [.glo "Web", .cls "Web", .mkr "Web", .free "ValueError", .free "all", .free "enumerate", .free "isinstance", .free "len", .free "list", .free "min", .free "range", .free "set", .free "sorted", .free "tuple", .free "zip", .int "FACES_MOST" 120, .int "POINTS_MOST" 15, .int "SIZE_MOST" 3, .noat "Web" "places", .noat "Web" "table"]
def fs_1 : List He.Fa := [.glo "_law_box", .glo "_law_mixed", .glo "_law_take", .glo "_law_points", .glo "_law_drawn_face", .glo "_law_drawn_tops", .glo "_law_bent_face", .glo "_law_is_face", .glo "is_face", .glo "own_faces", .glo "_law_subs", .glo "_law_closed", .glo "law", .glo "_law_refusal", .glo "_law_kinds", .glo "WebError", .glo "BadFace", .glo "Full", .meth "Web" "__len__"]
def fs : List He.Fa := fs_0 ++ fs_1
def fn_0 : List He.DefD := [⟨("_law_box", none), "_law_box", "_law_box", defArgs s_law_box, defBody s_law_box, defScope s_law_box, [], []⟩, ⟨("_law_mixed", none), "_law_mixed", "_law_mixed", defArgs s_law_mixed, defBody s_law_mixed, defScope s_law_mixed, [], []⟩, ⟨("_law_take", none), "_law_take", "_law_take", defArgs s_law_take, defBody s_law_take, defScope s_law_take, [], []⟩, ⟨("_law_points", none), "_law_points", "_law_points", defArgs s_law_points, defBody s_law_points, defScope s_law_points, [], []⟩, ⟨("_law_drawn_face", none), "_law_drawn_face", "_law_drawn_face", defArgs s_law_drawn_face, defBody s_law_drawn_face, defScope s_law_drawn_face, [], []⟩, ⟨("_law_drawn_tops", none), "_law_drawn_tops", "_law_drawn_tops", defArgs s_law_drawn_tops, defBody s_law_drawn_tops, defScope s_law_drawn_tops, [], []⟩, ⟨("_law_bent_face", none), "_law_bent_face", "_law_bent_face", defArgs s_law_bent_face, defBody s_law_bent_face, defScope s_law_bent_face, [], []⟩, ⟨("_law_is_face", none), "_law_is_face", "_law_is_face", defArgs s_law_is_face, defBody s_law_is_face, defScope s_law_is_face, [], []⟩, ⟨("is_face", none), "is_face", "is_face", defArgs s_is_face, defBody s_is_face, defScope s_is_face, [], []⟩, ⟨("own_faces", none), "own_faces", "own_faces", defArgs s_own_faces, defBody s_own_faces, defScope s_own_faces, [], []⟩, ⟨("Web", some "__init__"), "__init__", "Web.__init__", defArgs s_Web_init, defBody s_Web_init, defScope s_Web_init, [.adr (He.dflAt ("Web", some "__init__") 0)], []⟩, ⟨("_law_subs", none), "_law_subs", "_law_subs", defArgs s_law_subs, defBody s_law_subs, defScope s_law_subs, [], []⟩, ⟨("_law_closed", none), "_law_closed", "_law_closed", defArgs s_law_closed, defBody s_law_closed, defScope s_law_closed, [], []⟩, ⟨("Web", some "__len__"), "__len__", "Web.__len__", defArgs s_Web_len, defBody s_Web_len, defScope s_Web_len, [], []⟩, ⟨("law", none), "law", "law", defArgs s_law, defBody s_law, defScope s_law, [], []⟩, ⟨("WebError", some "__init__"), "__init__", "WebError.__init__", defArgs s_WebError_init, defBody s_WebError_init, defScope s_WebError_init, [.str "WebError", .int (-1)], []⟩, ⟨("BadFace", some "__init__"), "__init__", "BadFace.__init__", defArgs s_BadFace_init, defBody s_BadFace_init, defScope s_BadFace_init, [.int (-1)], []⟩, ⟨("Full", some "__init__"), "__init__", "Full.__init__", defArgs s_Full_init, defBody s_Full_init, defScope s_Full_init, [.int (-1)], []⟩, ⟨("_law_refusal", none), "_law_refusal", "_law_refusal", defArgs s_law_refusal, defBody s_law_refusal, defScope s_law_refusal, [], []⟩, ⟨("_law_kinds", none), "_law_kinds", "_law_kinds", defArgs s_law_kinds, defBody s_law_kinds, defScope s_law_kinds, [], []⟩]
def fn : List He.DefD := fn_0
def exs (K : PySem.W.Frag) : List Bool := [tabB K, weB K, xrB K (He.ga K "WebError") "BadFace" 0, xrB K (He.ga K "WebError") "Full" 1]
def ex (K : PySem.W.Frag) : Bool := (exs K).all id
def loose_0 : List PySem.Str := ["_wall", "WebError", "BadFace", "Full", "BadSize", "BadRow", "BadRests", "NotShut", "BadMap", "NotFace", "NotNear", "NoFace", "NotFree", "BadName", "Taken", "NoWeb", "NoRow", "BadKind", "Unlike", "Had"]
def loose_1 : List PySem.Str := ["NothingLeft", "BadText", "POINTS_MOST", "FACES_MOST", "SIZE_MOST", "is_face", "own_faces", "within", "Web", "_law_box", "_law_mixed", "_law_take", "_law_subs", "_law_closed", "_law_points", "_law_drawn_face", "_law_drawn_tops", "_law_kinds", "_law_refusal", "_law_bent_face"]
def loose_2 : List PySem.Str := ["_law_is_face"]
def loose : List PySem.Str := loose_0 ++ loose_1 ++ loose_2
end L
namespace L
open PySem PySem.W PySem.Calls PyProof.Rows
abbrev hR : OpenRow := OpenLaw.row PySem.Challenge.rw_cupweb_k09_faces_refused
abbrev hq : Program := view hR.prog [44]
def has : List Addr := List.range 1000
abbrev hk : Hook := J.hookL has fs fn ex
def hob (s : SharedT) : He.AlD × Bool := J.obsL has fs fn ex (HandSHeadRun.getT s)
theorem hrun (w : World) : HandSHeadRun.RunEq hR hq hk hob 30000 loose w := by
  intro os
  kernel_rfl
end L
namespace L
open PySem L2 J
abbrev lb_law_box_1 : SF :=
    (sSet 1 (eBin opMod (eBin opAdd (eBin opAdd (eBin opMul (eVar 1) (eC (.int 31))) (eVar 2)) (eC (.int 17))) (eC (.int 2147483647))))
def B_law_box : SF :=
    (sSeq (sSet 1 (eC (.int 0)))
    (sSeq (sFor (iSeq (eSl opSl (eVar 0) oNone (oSome (eC (.int 63))))) (bNm 2) lb_law_box_1)
    (sRet (eLstO (aCons (eCall cList (aCons (eSl opSl (eVar 0) oNone (oSome (eC (.int 63)))) aNil)) (aCons (eC (.int 0)) (aCons (eC (.int 0)) (aCons (eC (.int 0)) (aCons (eVar 1) aNil)))))))))
def F_law_box : FF := fnF 3 B_law_box
def B_law_mixed : SF :=
    (sSeq (sSet 2 (eBin opMod (eBin opAdd (eBin opAdd (eBin opMul (eVar 0) (eC (.int 48271))) (eBin opMul (eVar 1) (eC (.int 69621)))) (eC (.int 12345))) (eC (.int 2147483647))))
    (sSeq (sSet 3 (eBin opMod (eBin opAdd (eBin opAdd (eBin opMul (eVar 2) (eBin opAdd (eBin opMod (eVar 2) (eC (.int 65521))) (eC (.int 7)))) (eBin opMul (eVar 1) (eC (.int 40692)))) (eBin opMod (eVar 0) (eC (.int 104729)))) (eC (.int 998244353))))
    (sRet (eBin opFdiv (eVar 3) (eC (.int 7))))))
def F_law_mixed : FF := fnF 4 B_law_mixed
def B_law_take : SF :=
    (sSeq (sSetI (eVar 0) (eC (.int 3)) (eBin opAdd (eBin opIx (eVar 0) (eC (.int 3))) (eC (.int 1))))
    (sSeq (sIf (tVal (eBin opGt (eBin opIx (eVar 0) (eC (.int 2))) (eC (.int 0)))) (sSeq (sSet 3 (eBin opIx (eVar 0) (eC (.int 2))))
    (sSeq (sSetI (eVar 0) (eC (.int 2)) (eBin opFdiv (eVar 3) (eVar 1)))
    (sRet (eBin opMod (eVar 3) (eVar 1))))) sSkip)
    (sSeq (sIf (tVal (eBin opGe (eBin opIx (eVar 0) (eC (.int 1))) (eCall cLen (aCons (eBin opIx (eVar 0) (eC (.int 0))) aNil)))) (sRet (eBin opMod (eFn 2 F_law_mixed [] (aCons (eBin opIx (eVar 0) (eC (.int 4))) (aCons (eBin opIx (eVar 0) (eC (.int 3))) aNil))) (eVar 1))) sSkip)
    (sSeq (sSet 2 (eBin opIx (eBin opIx (eVar 0) (eC (.int 0))) (eBin opIx (eVar 0) (eC (.int 1)))))
    (sSeq (sSetI (eVar 0) (eC (.int 1)) (eBin opAdd (eBin opIx (eVar 0) (eC (.int 1))) (eC (.int 1))))
    (sSeq (sIf (tVal (eBin opLt (eVar 2) (eBin opPow (eC (.int 10)) (eC (.int 18))))) (sRet (eBin opMod (eFn 2 F_law_mixed [] (aCons (eVar 2) (aCons (eBin opIx (eVar 0) (eC (.int 3))) aNil))) (eVar 1))) sSkip)
    (sSeq (sSetI (eVar 0) (eC (.int 2)) (eBin opFdiv (eVar 2) (eVar 1)))
    (sRet (eBin opMod (eVar 2) (eVar 1))))))))))
def F_law_take : FF := fnF 4 B_law_take
abbrev lb_law_points_1 : SF :=
    (sExpr (eApp (eVar 3) (ePop (eVar 2) (eFn 2 F_law_take [] (aCons (eVar 0) (aCons (eCall cLen (aCons (eVar 2) aNil)) aNil))))))
def B_law_points : SF :=
    (sSeq (sSet 2 (eListRngO (eC (.int 16))))
    (sSeq (sSet 3 (eLstO aNil))
    (sSeq (sFor (iRange1 (eVar 1)) (bNm 4) lb_law_points_1)
    (sRet (eFrzD (eVar 3))))))
def F_law_points : FF := fnF 5 B_law_points
abbrev lb_law_drawn_face_1 : SF :=
    (sExpr (eApp (eVar 4) (ePop (eVar 3) (eFn 2 F_law_take [] (aCons (eVar 0) (aCons (eCall cLen (aCons (eVar 3) aNil)) aNil))))))
def B_law_drawn_face : SF :=
    (sSeq (sSet 3 (eNewO lList (aCons (eVar 1) aNil)))
    (sSeq (sSet 4 (eLstO aNil))
    (sSeq (sFor (iRange1 (eCall cMin (aCons (eCall cLen (aCons (eVar 3) aNil)) (aCons (eBin opAdd (eC (.int 1)) (eFn 2 F_law_take [] (aCons (eVar 0) (aCons (eBin opAdd (eVar 2) (eC (.int 1))) aNil)))) aNil)))) (bNm 5) lb_law_drawn_face_1)
    (sRet (eCall cTuple (aCons (eFrzD (eVar 4)) aNil))))))
def F_law_drawn_face : FF := fnF 6 B_law_drawn_face
abbrev le_law_drawn_tops_1 : EF :=
    (eFn 3 F_law_drawn_face [] (aCons (eVar 0) (aCons (eVar 4) (aCons (eVar 3) aNil))))
def B_law_drawn_tops : SF :=
    (sSeq (sSet 4 (eFn 2 F_law_points [] (aCons (eVar 0) (aCons (eBin opAdd (eC (.int 1)) (eFn 2 F_law_take [] (aCons (eVar 0) (aCons (eVar 1) aNil)))) aNil))))
    (sRet (eLcO [5] (iRange1 (eFn 2 F_law_take [] (aCons (eVar 0) (aCons (eBin opAdd (eVar 2) (eC (.int 1))) aNil)))) (bNm 5) tTrue le_law_drawn_tops_1)))
def F_law_drawn_tops : FF := fnF 6 B_law_drawn_tops
def B_law_bent_face : SF :=
    (sSeq (sSet 2 (eBin opIx (eLst (aCons (eUn opNeg (eC (.int 1))) (aCons (eC (.int 16)) (aCons (eBin opAdd (eC (.int 17)) (eFn 2 F_law_take [] (aCons (eVar 0) (aCons (eBin opPow (eC (.int 10)) (eC (.int 20))) aNil)))) (aCons (eBin opSub (eUn opNeg (eC (.int 2))) (eFn 2 F_law_take [] (aCons (eVar 0) (aCons (eC (.int 50)) aNil)))) aNil))))) (eFn 2 F_law_take [] (aCons (eVar 0) (aCons (eC (.int 4)) aNil)))))
    (sRet (eBin opIx (eLst (aCons (eTup aNil) (aCons (eTup (aCons (eC (.int 0)) (aCons (eC (.int 1)) (aCons (eC (.int 2)) (aCons (eC (.int 3)) (aCons (eC (.int 4)) aNil)))))) (aCons (eBin opAdd (eSl opSl (eVar 1) oNone (oSome (eC (.int 1)))) (eVar 1)) (aCons (eBin opAdd (eSl opSl (eVar 1) oNone (oSome (eC (.int 3)))) (eTup (aCons (eVar 2) aNil))) (aCons (eTup (aCons (eVar 2) aNil)) (aCons (eVar 1) aNil))))))) (eFn 2 F_law_take [] (aCons (eVar 0) (aCons (eC (.int 6)) aNil))))))
def F_law_bent_face : FF := fnF 3 B_law_bent_face
abbrev le_law_is_face_1 : EF :=
    (eChain opLe opLe (eC (.int 0)) (eVar 1) (eC (.int 15)))
def B_law_is_face : SF :=
    (sRet (eAnd (eChain opLe opLe (eC (.int 1)) (eCall cLen (aCons (eVar 0) aNil)) (eC (.int 4))) (eAnd (eBin opEq (eCall cLenT (aCons (eVar 0) aNil)) (eCall cLen (aCons (eVar 0) aNil))) (eCall cAll (aCons (eLc [1] (iSeq (eVar 0)) (bNm 1) tTrue le_law_is_face_1) aNil)))))
def F_law_is_face : FF := fnF 2 B_law_is_face
abbrev le_is_face_1 : EF :=
    (eChain opLe opLe (eC (.int 0)) (eVar 1) (eC (.int 15)))
def B_is_face : SF :=
    (sSeq (sIf (tOr (tNot (tVal (eChain opLe opLe (eC (.int 1)) (eCall cLen (aCons (eVar 0) aNil)) (eBin opAdd (eC (.int 3)) (eC (.int 1)))))) (tVal (eBin opLt (eLenSc [1] (iSeq (eVar 0)) (bNm 1) (eVar 1)) (eCall cLen (aCons (eVar 0) aNil))))) (sRet (eC (.bl false))) sSkip)
    (sRet (eCall cAll (aCons (eLc [1] (iSeq (eVar 0)) (bNm 1) tTrue le_is_face_1) aNil))))
def F_is_face : FF := fnF 2 B_is_face
abbrev le_own_faces_1 : EF :=
    (eBin opAdd (eVar 3) (eTup (aCons (eVar 2) aNil)))
abbrev lb_own_faces_1 : SF :=
    (sSet 1 (eBin opAdd (eVar 1) (eLc [3] (iSeq (eVar 1)) (bNm 3) tTrue le_own_faces_1)))
def B_own_faces : SF :=
    (sSeq (sSet 1 (eLst (aCons (eTup aNil) aNil)))
    (sSeq (sFor (iSeq (eVar 0)) (bNm 2) lb_own_faces_1)
    (sRet (eSl opSl (eVar 1) (oSome (eC (.int 1))) oNone))))
def F_own_faces : FF := fnF 4 B_own_faces
abbrev lb_Web_init_1 : SF :=
    (sSetD (eVar 2) (eVar 5) (eC (.bl true)))
abbrev lb_Web_init_2 : SF :=
    (sSeq (sIf (tNot (tVal (eFn 1 F_is_face [] (aCons (eVar 3) aNil)))) (sRaise1 "BadFace" (eVar 4)) sSkip)
    (sFor (iSeq (eFn 1 F_own_faces [] (aCons (eCall cTuple (aCons (eCall cSorted (aCons (eVar 3) aNil)) aNil)) aNil))) (bNm 5) lb_Web_init_1))
abbrev lb_Web_init_3 : SF :=
    (sExpr (eApp (eBin opIx (eFld "Web" "table" (eVar 0)) (eBin opSub (eCall cLen (aCons (eVar 3) aNil)) (eC (.int 1)))) (eVar 3)))
def B_Web_init : SF :=
    (sSeq (sSet 2 eDnew)
    (sSeq (sFor (iEnumA (aCons (eVar 1) aNil)) (bTup 2 (bCons (bNm 4) (bCons (bNm 3) bNil))) lb_Web_init_2)
    (sSeq (sIf (tVal (eBin opGt (eCall cLenD (aCons (eVar 2) aNil)) (eC (.int 120)))) (sRaise0 "Full") sSkip)
    (sSeq (sFldS "Web" "table" (eVar 0) (eLcR [6] (iRange1 (eBin opAdd (eC (.int 3)) (eC (.int 1)))) (bNm 6) tTrue (eLstO aNil)))
    (sSeq (sFor (iSeq (eCall cSorted (aCons (eCall cListD (aCons (eVar 2) aNil)) aNil))) (bNm 3) lb_Web_init_3)
    (sFldS "Web" "places" (eVar 0) (eDc2 [7, 4, 3] (iSeq (eFrzD (eFld "Web" "table" (eVar 0)))) (bNm 7) (iEnum (aCons (eVar 7) aNil)) (bTup 2 (bCons (bNm 4) (bCons (bNm 3) bNil))) [4, 3] (eVar 3) (eVar 4))))))))
def F_Web_init : FF := fnF 8 B_Web_init
abbrev le_law_subs_1 : EF :=
    (eBin opAdd (eVar 3) (eTup (aCons (eVar 2) aNil)))
abbrev lb_law_subs_1 : SF :=
    (sSet 1 (eBin opAdd (eVar 1) (eLc [3] (iSeq (eVar 1)) (bNm 3) tTrue le_law_subs_1)))
def B_law_subs : SF :=
    (sSeq (sSet 1 (eLst (aCons (eTup aNil) aNil)))
    (sSeq (sFor (iSeq (eCall cSorted (aCons (eVar 0) aNil))) (bNm 2) lb_law_subs_1)
    (sRet (eSl opSl (eVar 1) (oSome (eC (.int 1))) oNone))))
def F_law_subs : FF := fnF 4 B_law_subs
abbrev lb_law_closed_1 : SF :=
    (sSet 1 (eBin opAdd (eVar 1) (eFn 1 F_law_subs [] (aCons (eVar 2) aNil))))
def B_law_closed : SF :=
    (sSeq (sSet 1 (eLst aNil))
    (sSeq (sFor (iSeq (eVar 0)) (bNm 2) lb_law_closed_1)
    (sRet (eCall cSortSet (aCons (eVar 1) aNil)))))
def F_law_closed : FF := fnF 3 B_law_closed
def B_Web_len : SF :=
    (sRet (eCall cLenD (aCons (eFld "Web" "places" (eVar 0)) aNil)))
def F_Web_len : FF := fnF 1 B_Web_len
abbrev lb_law_1 : SF :=
    (sIf (tVal (eBin opGt (eCall cLen (aCons (eVar 2) aNil)) (eC (.int 0)))) (sSeq (sSet 7 (eFn 2 F_law_take [] (aCons (eVar 1) (aCons (eCall cLen (aCons (eVar 2) aNil)) aNil))))
    (sSetI (eVar 2) (eVar 7) (eFn 2 F_law_bent_face [] (aCons (eVar 1) (aCons (eBin opIx (eVar 2) (eVar 7)) aNil))))) sSkip)
abbrev le_law_1 : EF :=
    (eBin opMod (eVar 3) (eC (.int 16)))
abbrev le_law_2 : EF :=
    (eTup (aCons (eBin opIx (eVar 6) (eVar 8)) (aCons (eBin opIx (eVar 6) (eVar 9)) aNil)))
abbrev le_law_3 : EF :=
    (eTup (aCons (eBin opIx (eVar 6) (eBin opMod (eVar 3) (eC (.int 16)))) (aCons (eBin opIx (eVar 6) (eBin opMod (eBin opAdd (eVar 3) (eC (.int 1))) (eC (.int 16)))) (aCons (eBin opIx (eVar 6) (eBin opMod (eBin opAdd (eVar 3) (eC (.int 3))) (eC (.int 16)))) (aCons (eBin opIx (eVar 6) (eBin opMod (eBin opAdd (eVar 3) (eC (.int 7))) (eC (.int 16)))) aNil)))))
abbrev lm_law_1 : EF :=
    (eMakeX "Web" 2 F_Web_init [] (aCons (eCall cList (aCons (eFrzD (eVar 2)) aNil)) aNil))
abbrev lm_law_2 : EF :=
    (eMakeX "Web" 2 F_Web_init [] (aCons (eCall cList (aCons (eFrzD (eVar 2)) aNil)) aNil))
def B_law : SF :=
    (sSeq (sSet 1 (eFn 1 F_law_box [] (aCons (eVar 0) aNil)))
    (sSeq (sSet 2 (eFn 4 F_law_drawn_tops [] (aCons (eVar 1) (aCons (eC (.int 7)) (aCons (eC (.int 8)) (aCons (eC (.int 3)) aNil))))))
    (sSeq (sFor (iRange1 (eFn 2 F_law_take [] (aCons (eVar 1) (aCons (eC (.int 4)) aNil)))) (bNm 3) lb_law_1)
    (sSeq (sIf (tVal (eBin opEq (eFn 2 F_law_take [] (aCons (eVar 1) (aCons (eC (.int 4)) aNil))) (eC (.int 0)))) (sSeq (sSet 6 (eFn 2 F_law_points [] (aCons (eVar 1) (aCons (eC (.int 16)) aNil))))
    (sSeq (sSet 2 (eLc [8, 9] (iZip (aCons (eRep (eListRng (eC (.int 15))) (eC (.int 8))) (aCons (eLc [3] (iRange2 (aCons (eC (.int 1)) (aCons (eC (.int 121)) aNil))) (bNm 3) tTrue le_law_1) aNil))) (bTup 2 (bCons (bNm 8) (bCons (bNm 9) bNil))) tTrue le_law_2))
    (sSet 2 (eSl opSl (eLc [10] (iSeq (eFrzD (eVar 2))) (bNm 10) (tVal (eBin opNe (eBin opIx (eVar 10) (eC (.int 0))) (eBin opIx (eVar 10) (eC (.int 1))))) (eVar 10)) oNone (oSome (eBin opAdd (eC (.int 60)) (eFn 2 F_law_take [] (aCons (eVar 1) (aCons (eC (.int 60)) aNil))))))))) sSkip)
    (sSeq (sIf (tVal (eBin opEq (eFn 2 F_law_take [] (aCons (eVar 1) (aCons (eC (.int 5)) aNil))) (eC (.int 0)))) (sSeq (sSet 6 (eFn 2 F_law_points [] (aCons (eVar 1) (aCons (eC (.int 16)) aNil))))
    (sSeq (sSet 5 (eFn 2 F_law_take [] (aCons (eVar 1) (aCons (eC (.int 17)) aNil))))
    (sSet 2 (eLc [3] (iRange1 (eVar 5)) (bNm 3) tTrue le_law_3)))) sSkip)
    (sSeq (sSet 4 (eLc [7] (iRange1 (eCall cLen (aCons (eVar 2) aNil))) (bNm 7) (tNot (tVal (eFn 1 F_law_is_face [] (aCons (eBin opIx (eVar 2) (eVar 7)) aNil)))) (eVar 7)))
    (sSeq (sIf (tVal (eBin opNe (eVar 4) (eLst aNil))) (sRet (eBin opEq (eRef ["BadFace", "Full"] lm_law_1) (eTup (aCons (eC (.str "BadFace")) (aCons (eBin opIx (eVar 4) (eC (.int 0))) aNil))))) sSkip)
    (sSeq (sSet 5 (eCall cLen (aCons (eFn 1 F_law_closed [] (aCons (eFrzD (eVar 2)) aNil)) aNil)))
    (sSeq (sIf (tVal (eBin opGt (eVar 5) (eC (.int 120)))) (sRet (eBin opEq (eRef ["BadFace", "Full"] lm_law_2) (eTup (aCons (eC (.str "Full")) (aCons (eUn opNeg (eC (.int 1))) aNil))))) sSkip)
    (sRet (eAnd (eBin opEq (eLenOwn "Web" F_Web_len (eMakeZ "Web" 2 F_Web_init [] (aCons (eCall cList (aCons (eFrzD (eVar 2)) aNil)) aNil))) (eVar 5)) (eBin opEq (eLenOwn "Web" F_Web_len (eMakeZ "Web" 2 F_Web_init [] (aCons (eCall cTuple (aCons (eFrzD (eVar 2)) aNil)) aNil))) (eVar 5)))))))))))))
def F_law : FF := fnF 11 B_law
end L
namespace L
open PySem L2 J M
local macro_rules | `(tactic| walk_at "ev") => `(tactic| try simp only [fn_ap, List.map_cons, List.map_nil, List.length_cons, List.length_nil, List.cons_append, List.nil_append, List.append_nil, Nat.reduceAdd, Nat.reduceSub, Nat.zero_add, List.replicate_succ, List.replicate_zero, s_seq, s_set, s_asg, s_if, s_ret, s_expr, s_for, s_skip, s_par, s_par3, s_setI, thn_nx, thn_ret, thn_no, thn_brk, thn_cnt, thn_exc, a_var, a_c, a_bin, a_un, a_call, a_nil, a_cons, a_tup, a_lst, a_lstO, a_val, a_tand, a_tor, a_tnot, a_if, a_and, a_or, a_not, a_chain, a_fn, a_lc', a_seq, a_range1, a_zip, a_sl, a_onone, a_osome, bnd_ok, bnd_no, bnd_exc, sbd_ok, sbd_no, sbd_exc, getV_some, toB_bl, toO_int, lift_some, lift_none, seqI_lst, seqI_scr, seqI_tup, seqI_str, rng1_int, zip_lst, zip_tup, onx_some, onh_some, List.getElem?_cons_zero, List.getElem?_cons_succ, List.set_cons_zero, List.set_cons_succ, o_sub, o_add, o_lt, o_le, o_gt, o_ge, o_neg, o_eqI, o_neI, o_eqB, o_neB, o_eqS, if_true, if_false, ite_true, ite_false, decide_true, decide_false, Bool.false_eq_true, Bool.true_eq_false, reduceIte, Bool.not_true, Bool.not_false, a_frzD, frzR_obj, frzO_fl, frzO_fzn, frzR_lst, frzR_tup, frzR_int, a_newO, newO_some, lList_lst, lList_tup, a_listRngO, lrO_int, a_repO, repO_lst, chkL_some, lstOf_obj, lstO_fl, lstO_fzn, lstR_obj, lstRO_fl, lstRO_lo, lstRO_fzn, a_pop, popR_obj, a_app, appV_obj, enumI_lst, a_enum, s_augI, augV_obj, augO_int, s_setD, a_dnew, a_fld, insOf_obj, insO_ins, insOf_ins, a_meth, noX_ok, a_make, s_fldS, setF_obj, a_aApp, afterR_ok, a_lcR, a_lenSc, a_dc2, bNm_ap, obd_some, trn_nx, a_knew, s_setK, a_keysK, keysI_dK, a_dc1, a_sortSc, a_ins, a_lc2, frzO_dK, frzR_dK, a_lcP, lcP_some, rootL_obj, rootO_fl, a_dictZip, s_setApp, s_raise0, a_own, a_lenOwn, a_isiC, a_items, a_methX, a_makeX, fin_exc, a_listRng, lrD_int, a_dictD, dcp_dK, a_valsD, valsD_dT, a_dictZipT, a_valsD, valsD_dT, a_maxD, a_lc3, a_dc1T])
local macro_rules | `(tactic| walk_at "evd") => `(tactic| try simp (disch := first | decide | omega) only [o_mod, o_fdiv, o_pow, o_mul_r, o_mul_l, fn_ap, List.map_cons, List.map_nil, List.length_cons, List.length_nil, List.cons_append, List.nil_append, List.append_nil, Nat.reduceAdd, Nat.reduceSub, Nat.zero_add, List.replicate_succ, List.replicate_zero, s_seq, s_set, s_asg, s_if, s_ret, s_expr, s_for, s_skip, s_par, s_par3, s_setI, thn_nx, thn_ret, thn_no, thn_brk, thn_cnt, thn_exc, a_var, a_c, a_bin, a_un, a_call, a_nil, a_cons, a_tup, a_lst, a_lstO, a_val, a_tand, a_tor, a_tnot, a_if, a_and, a_or, a_not, a_chain, a_fn, a_lc', a_seq, a_range1, a_zip, a_sl, a_onone, a_osome, bnd_ok, bnd_no, bnd_exc, sbd_ok, sbd_no, sbd_exc, getV_some, toB_bl, toO_int, lift_some, lift_none, seqI_lst, seqI_scr, seqI_tup, seqI_str, rng1_int, zip_lst, zip_tup, onx_some, onh_some, List.getElem?_cons_zero, List.getElem?_cons_succ, List.set_cons_zero, List.set_cons_succ, o_sub, o_add, o_lt, o_le, o_gt, o_ge, o_neg, o_eqI, o_neI, o_eqB, o_neB, o_eqS, if_true, if_false, ite_true, ite_false, decide_true, decide_false, Bool.false_eq_true, Bool.true_eq_false, reduceIte, Bool.not_true, Bool.not_false, a_frzD, frzR_obj, frzO_fl, frzO_fzn, frzR_lst, frzR_tup, frzR_int, a_newO, newO_some, lList_lst, lList_tup, a_listRngO, lrO_int, a_repO, repO_lst, chkL_some, lstOf_obj, lstO_fl, lstO_fzn, lstR_obj, lstRO_fl, lstRO_lo, lstRO_fzn, a_pop, popR_obj, a_app, appV_obj, enumI_lst, a_enum, s_augI, augV_obj, augO_int, s_setD, a_dnew, a_fld, insOf_obj, insO_ins, insOf_ins, a_meth, noX_ok, a_make, s_fldS, setF_obj, a_aApp, afterR_ok, a_lcR, a_lenSc, a_dc2, bNm_ap, obd_some, trn_nx, a_knew, s_setK, a_keysK, keysI_dK, a_dc1, a_sortSc, a_ins, a_lc2, frzO_dK, frzR_dK, a_lcP, lcP_some, rootL_obj, rootO_fl, a_dictZip, s_setApp, s_raise0, a_own, a_lenOwn, a_isiC, a_items, a_methX, a_makeX, fin_exc, a_listRng, lrD_int, a_dictD, dcp_dK, a_valsD, valsD_dT, a_dictZipT, a_valsD, valsD_dT, a_maxD, a_lc3, a_dc1T])
local macro_rules | `(tactic| walk_at "eva") => `(tactic| try simp only [fn_ap, List.map_cons, List.map_nil, List.length_cons, List.length_nil, List.cons_append, List.nil_append, List.append_nil, Nat.reduceAdd, Nat.reduceSub, Nat.zero_add, List.replicate_succ, List.replicate_zero, s_seq, s_set, s_asg, s_if, s_ret, s_expr, s_for, s_skip, s_par, s_par3, s_setI, thn_nx, thn_ret, thn_no, thn_brk, thn_cnt, thn_exc, a_var, a_c, a_bin, a_un, a_call, a_nil, a_cons, a_tup, a_lst, a_lstO, a_val, a_tand, a_tor, a_tnot, a_if, a_and, a_or, a_not, a_chain, a_fn, a_lc', a_seq, a_range1, a_zip, a_sl, a_onone, a_osome, bnd_ok, bnd_no, bnd_exc, sbd_ok, sbd_no, sbd_exc, getV_some, toB_bl, toO_int, lift_some, lift_none, seqI_lst, seqI_scr, seqI_tup, seqI_str, rng1_int, zip_lst, zip_tup, onx_some, onh_some, List.getElem?_cons_zero, List.getElem?_cons_succ, List.set_cons_zero, List.set_cons_succ, o_sub, o_add, o_lt, o_le, o_gt, o_ge, o_neg, o_eqI, o_neI, o_eqB, o_neB, o_eqS, if_true, if_false, ite_true, ite_false, decide_true, decide_false, Bool.false_eq_true, Bool.true_eq_false, reduceIte, Bool.not_true, Bool.not_false, a_frzD, frzR_obj, frzO_fl, frzO_fzn, frzR_lst, frzR_tup, frzR_int, a_newO, newO_some, lList_lst, lList_tup, a_listRngO, lrO_int, a_repO, repO_lst, chkL_some, lstOf_obj, lstO_fl, lstO_fzn, lstR_obj, lstRO_fl, lstRO_lo, lstRO_fzn, a_pop, popR_obj, a_app, appV_obj, enumI_lst, a_enum, s_augI, augV_obj, augO_int, s_setD, a_dnew, a_fld, insOf_obj, insO_ins, insOf_ins, a_meth, noX_ok, a_make, s_fldS, setF_obj, a_aApp, afterR_ok, a_lcR, a_lenSc, a_dc2, bNm_ap, obd_some, trn_nx, a_knew, s_setK, a_keysK, keysI_dK, a_dc1, a_sortSc, a_ins, a_lc2, frzO_dK, frzR_dK, a_lcP, lcP_some, rootL_obj, rootO_fl, a_dictZip, s_setApp, s_raise0, a_own, a_lenOwn, a_isiC, a_items, a_methX, a_makeX, fin_exc, a_listRng, lrD_int, a_dictD, dcp_dK, a_valsD, valsD_dT, a_dictZipT, a_valsD, valsD_dT, a_maxD, a_lc3, a_dc1T, a_dcP, dcS_some, seqP_lst, a_rev, revR_lst, a_clr, clrR_obj, clrO_fl, a_ownD, isi_NoneType_list, isi_NoneType_tuple, isi_NoneType_bool, isi_NoneType_int, isi_NoneType_str, isi_bool_list, isi_bool_tuple, isi_bool_bool, isi_bool_int, isi_bool_str, isi_int_list, isi_int_tuple, isi_int_bool, isi_int_int, isi_int_str, isi_str_list, isi_str_tuple, isi_str_bool, isi_str_int, isi_str_str, isi_tuple_list, isi_tuple_tuple, isi_tuple_bool, isi_tuple_int, isi_tuple_str, isi_list_list, isi_list_tuple, isi_list_bool, isi_list_int, isi_list_str, opIsN, opNotN, VV.isObj, len_lst, len_tup, list_lst, list_tup, tuple_lst, x_lst, x_tup])
local macro_rules | `(tactic| walk_at "evad") => `(tactic| try simp (disch := first | decide | omega) only [o_mod, o_fdiv, o_pow, o_mul_r, o_mul_l, fn_ap, List.map_cons, List.map_nil, List.length_cons, List.length_nil, List.cons_append, List.nil_append, List.append_nil, Nat.reduceAdd, Nat.reduceSub, Nat.zero_add, List.replicate_succ, List.replicate_zero, s_seq, s_set, s_asg, s_if, s_ret, s_expr, s_for, s_skip, s_par, s_par3, s_setI, thn_nx, thn_ret, thn_no, thn_brk, thn_cnt, thn_exc, a_var, a_c, a_bin, a_un, a_call, a_nil, a_cons, a_tup, a_lst, a_lstO, a_val, a_tand, a_tor, a_tnot, a_if, a_and, a_or, a_not, a_chain, a_fn, a_lc', a_seq, a_range1, a_zip, a_sl, a_onone, a_osome, bnd_ok, bnd_no, bnd_exc, sbd_ok, sbd_no, sbd_exc, getV_some, toB_bl, toO_int, lift_some, lift_none, seqI_lst, seqI_scr, seqI_tup, seqI_str, rng1_int, zip_lst, zip_tup, onx_some, onh_some, List.getElem?_cons_zero, List.getElem?_cons_succ, List.set_cons_zero, List.set_cons_succ, o_sub, o_add, o_lt, o_le, o_gt, o_ge, o_neg, o_eqI, o_neI, o_eqB, o_neB, o_eqS, if_true, if_false, ite_true, ite_false, decide_true, decide_false, Bool.false_eq_true, Bool.true_eq_false, reduceIte, Bool.not_true, Bool.not_false, a_frzD, frzR_obj, frzO_fl, frzO_fzn, frzR_lst, frzR_tup, frzR_int, a_newO, newO_some, lList_lst, lList_tup, a_listRngO, lrO_int, a_repO, repO_lst, chkL_some, lstOf_obj, lstO_fl, lstO_fzn, lstR_obj, lstRO_fl, lstRO_lo, lstRO_fzn, a_pop, popR_obj, a_app, appV_obj, enumI_lst, a_enum, s_augI, augV_obj, augO_int, s_setD, a_dnew, a_fld, insOf_obj, insO_ins, insOf_ins, a_meth, noX_ok, a_make, s_fldS, setF_obj, a_aApp, afterR_ok, a_lcR, a_lenSc, a_dc2, bNm_ap, obd_some, trn_nx, a_knew, s_setK, a_keysK, keysI_dK, a_dc1, a_sortSc, a_ins, a_lc2, frzO_dK, frzR_dK, a_lcP, lcP_some, rootL_obj, rootO_fl, a_dictZip, s_setApp, s_raise0, a_own, a_lenOwn, a_isiC, a_items, a_methX, a_makeX, fin_exc, a_listRng, lrD_int, a_dictD, dcp_dK, a_valsD, valsD_dT, a_dictZipT, a_valsD, valsD_dT, a_maxD, a_lc3, a_dc1T, a_dcP, dcS_some, seqP_lst, a_rev, revR_lst, a_clr, clrR_obj, clrO_fl, a_ownD, isi_NoneType_list, isi_NoneType_tuple, isi_NoneType_bool, isi_NoneType_int, isi_NoneType_str, isi_bool_list, isi_bool_tuple, isi_bool_bool, isi_bool_int, isi_bool_str, isi_int_list, isi_int_tuple, isi_int_bool, isi_int_int, isi_int_str, isi_str_list, isi_str_tuple, isi_str_bool, isi_str_int, isi_str_str, isi_tuple_list, isi_tuple_tuple, isi_tuple_bool, isi_tuple_int, isi_tuple_str, isi_list_list, isi_list_tuple, isi_list_bool, isi_list_int, isi_list_str, opIsN, opNotN, VV.isObj, len_lst, len_tup, list_lst, list_tup, tuple_lst, x_lst, x_tup])
/-! the drawing box -/
structure Bx where
  xs : List Int
  pos : Nat
  left : Int
  cnt : Int
  seed : Int
def Bx.v (b : Bx) : VO := .fl [.lst (b.xs.map VV.int), .int b.pos, .int b.left, .int b.cnt, .int b.seed]
theorem fmod_rng (a : Int) {m : Int} (h : 0 < m) : 0 ≤ a.fmod m ∧ a.fmod m < m := by
  rw [Int.fmod_eq_emod_of_nonneg _ (by omega)]
  exact ⟨Int.emod_nonneg _ (by omega), Int.emod_lt_of_pos _ h⟩
theorem mixed_eq (a t : Int) (h : VH) : ∃ r, F_law_mixed [.int a, .int t] h = .ok (.int r) h ∧ 0 ≤ r := by
  unfold F_law_mixed B_law_mixed
  have h1 := fmod_rng (a * 48271 + t * 69621 + 12345) (m := 2147483647) (by decide)
  walk_at "evd"
  rw [fin_ret rfl]
  refine ⟨_, rfl, ?_⟩
  rw [Int.fdiv_eq_ediv_of_nonneg _ (by decide)]
  exact Int.ediv_nonneg (fmod_rng _ (by decide)).1 (by decide)
theorem take_eq {n : Nat} {h : VH} {b : Bx} {m : Int} (hb : h[n]? = some b.v) (hm : 0 < m) (hl : m.natAbs.log2 < 9000) : ∃ r b', F_law_take [.obj n, .int m] h = .ok (.int r) (h.set n (Bx.v b')) ∧ 0 ≤ r ∧ r < m := by
  obtain ⟨xs, pos, left, cnt, seed⟩ := b
  have hn : n < h.length := lt_of_get hb
  unfold Bx.v at hb
  simp only at hb
  unfold F_law_take B_law_take
  -- count
  have hb1 : (h.set n (.fl [.lst (xs.map VV.int), .int pos, .int left, .int (cnt + 1), .int seed]))[n]? = some (.fl [.lst (xs.map VV.int), .int pos, .int left, .int (cnt + 1), .int seed]) := get_set hn
  have s1 : setI h (.obj n) (.int 3) (.int (cnt + 1)) = some (h.set n (.fl [.lst (xs.map VV.int), .int pos, .int left, .int (cnt + 1), .int seed])) := set_root (j := 3) hb rfl rfl
  walk_at "ev"
  simp only [ix_root hb, at5_3]
  walk_at "ev"
  simp only [s1]
  walk_at "ev"
  simp only [ix_root hb1, at5_2]
  walk_at "ev"
  generalize eh1 : h.set n (.fl [.lst (xs.map VV.int), .int pos, .int left, .int (cnt + 1), .int seed]) = h1 at hb1
  have hn1 : n < h1.length := by rw [← eh1, List.length_set]; exact hn
  have hl1 : h1.length = h.length := by rw [← eh1, List.length_set]
  by_cases c1 : 0 < left
  · simp only [decide_eq_true c1, reduceIte]
    walk_at "ev"
    simp only [ix_root hb1, at5_2]
    walk_at "ev"
    simp (disch := omega) only [o_fdiv (j := m) (by omega) hl, o_mod (j := m) (by omega)]
    walk_at "ev"
    have s2 : setI h1 (.obj n) (.int 2) (.int (left.fdiv m)) = some (h1.set n (.fl [.lst (xs.map VV.int), .int pos, .int (left.fdiv m), .int (cnt + 1), .int seed])) := set_root (j := 2) hb1 rfl rfl
    simp only [s2]
    walk_at "ev"
    simp (disch := omega) only [o_mod (j := m) (by omega)]
    walk_at "ev"
    rw [fin_ret (by rw [List.length_set]; exact hl1)]
    refine ⟨_, ⟨xs, pos, left.fdiv m, cnt + 1, seed⟩, ?_, fmod_rng left hm⟩
    rw [← eh1, List.set_set]; rfl
  · simp only [decide_eq_false c1, Bool.false_eq_true, reduceIte]
    walk_at "ev"
    simp only [ix_root hb1, at5_1, at5_0]
    walk_at "ev"
    simp only [ix_root hb1, at5_1, at5_0]
    walk_at "ev"
    simp only [len_lst, List.length_map]
    walk_at "ev"
    by_cases c2 : (xs.length : Int) ≤ pos
    · simp only [decide_eq_true c2, reduceIte]
      walk_at "ev"
      simp only [ix_root hb1, at5_4, at5_3]
      walk_at "ev"
      simp only [ix_root hb1, at5_4, at5_3]
      walk_at "ev"
      obtain ⟨r, er, hr⟩ := mixed_eq seed (cnt + 1) h1
      simp only [er]
      walk_at "ev"
      simp (disch := omega) only [o_mod (j := m) (by omega)]
      walk_at "ev"
      rw [fin_ret hl1]
      refine ⟨_, ⟨xs, pos, left, cnt + 1, seed⟩, ?_, fmod_rng r hm⟩
      rw [← eh1]; rfl
    · simp only [decide_eq_false c2, Bool.false_eq_true, reduceIte]
      have hp : pos < xs.length := by omega
      walk_at "ev"
      simp only [ix_root hb1, at5_1, at5_0]
      walk_at "ev"
      simp only [ix_root hb1, at5_1, at5_0]
      walk_at "ev"
      have ex : atI (xs.map VV.int) (pos : Int) = some (.int xs[pos]) := atI_in (by rw [List.getElem?_map, List.getElem?_eq_getElem hp]; rfl)
      simp only [x_lst, ex]
      walk_at "ev"
      simp only [ix_root hb1, at5_1, at5_0]
      walk_at "ev"
      have s3 : setI h1 (.obj n) (.int 1) (.int ((pos : Int) + 1)) = some (h1.set n (.fl [.lst (xs.map VV.int), .int ((pos : Int) + 1), .int left, .int (cnt + 1), .int seed])) := set_root (j := 1) hb1 rfl rfl
      simp only [s3]
      walk_at "ev"
      have hb2 : (h1.set n (.fl [.lst (xs.map VV.int), .int ((pos : Int) + 1), .int left, .int (cnt + 1), .int seed]))[n]? = some (.fl [.lst (xs.map VV.int), .int ((pos : Int) + 1), .int left, .int (cnt + 1), .int seed]) := get_set hn1
      generalize eh2 : h1.set n (.fl [.lst (xs.map VV.int), .int ((pos : Int) + 1), .int left, .int (cnt + 1), .int seed]) = h2 at hb2
      have hl2 : h2.length = h.length := by rw [← eh2, List.length_set]; exact hl1
      walk_at "evd"
      by_cases c3 : xs[pos] < 10 ^ Int.toNat 18
      · simp only [decide_eq_true c3, reduceIte]
        walk_at "ev"
        simp only [ix_root hb2, at5_3]
        walk_at "ev"
        obtain ⟨r, er, hr⟩ := mixed_eq xs[pos] (cnt + 1) h2
        simp only [er]
        walk_at "ev"
        simp (disch := omega) only [o_mod (j := m) (by omega)]
        walk_at "ev"
        rw [fin_ret hl2]
        refine ⟨_, ⟨xs, pos + 1, left, cnt + 1, seed⟩, ?_, fmod_rng r hm⟩
        rw [← eh2, ← eh1, List.set_set]; rfl
      · simp only [decide_eq_false c3, Bool.false_eq_true, reduceIte]
        walk_at "ev"
        simp (disch := omega) only [o_fdiv (j := m) (by omega) hl, o_mod (j := m) (by omega)]
        walk_at "ev"
        have s4 : setI h2 (.obj n) (.int 2) (.int (xs[pos].fdiv m)) = some (h2.set n (.fl [.lst (xs.map VV.int), .int ((pos : Int) + 1), .int (xs[pos].fdiv m), .int (cnt + 1), .int seed])) := set_root (j := 2) hb2 rfl rfl
        simp only [s4]
        walk_at "ev"
        simp (disch := omega) only [o_mod (j := m) (by omega)]
        walk_at "ev"
        rw [fin_ret (by rw [List.length_set]; exact hl2)]
        refine ⟨_, ⟨xs, pos + 1, xs[pos].fdiv m, cnt + 1, seed⟩, ?_, fmod_rng xs[pos] hm⟩
        rw [← eh2, ← eh1, List.set_set, List.set_set]; rfl
theorem cut_ints (ns : List Int) (lo hi : Option Int) : ∃ ms : List Int, cut (ns.map VV.int) lo hi = ms.map VV.int ∧ ms.length ≤ ns.length := by
  refine ⟨(ns.drop (HT.sIx ns.length 0 lo)).take (HT.sIx ns.length ns.length hi - HT.sIx ns.length 0 lo), ?_, ?_⟩
  · unfold cut
    rw [List.length_map, List.map_take, List.map_drop]
  · rw [List.length_take, List.length_drop]; omega
theorem sl_scr {h : VH} {xs : List VV} {lo hi : Option Int} : opSl h (.scr xs) lo hi = some (.lst (cut xs lo hi)) := rfl
theorem box_eq (ns : List Int) : ∃ b : Bx, F_law_box [.scr (ns.map VV.int)] [] = .ok (.obj 0) [b.v] := by
  obtain ⟨ms, em, hl⟩ := cut_ints ns none (some 63)
  unfold F_law_box B_law_box
  walk_at "ev"
  simp only [sl_scr, em]
  walk_at "ev"
  have lp := for_inv (b := bNm 2) (body := sSet 1 (eBin opMod (eBin opAdd (eBin opAdd (eBin opMul (eVar 1) (eC (.int 31))) (eVar 2)) (eC (.int 17))) (eC (.int 2147483647)))) (fun ρ h => h = [] ∧ ∃ s o, ρ = [some (.scr (ns.map VV.int)), some (.int s), o]) (xs := ms.map VV.int) (ρ := [some (.scr (ns.map VV.int)), some (.int 0), none]) (h := []) ⟨rfl, 0, none, rfl⟩ (by
    rintro x hx ρ h ⟨rfl, s, o, rfl⟩
    obtain ⟨c, _, rfl⟩ := List.mem_map.mp hx
    refine ⟨_, _, _, rfl, ?_, rfl, (s * 31 + c + 17).fmod 2147483647, some (.int c), rfl⟩
    walk_at "evd")
  obtain ⟨ρ2, h2, e2, rfl, s, o, rfl⟩ := lp
  simp only [e2]
  walk_at "ev"
  simp only [sl_scr, em]
  walk_at "eva"
  simp only [List.any_cons, List.any_nil, VV.isObj, Bool.or_false, Bool.false_eq_true, false_or, List.length_cons, List.length_nil]
  rw [if_neg (by decide)]
  walk_at "ev"
  exact ⟨⟨ms, 0, 0, 0, s⟩, rfl⟩
/-! the drawing of webs -/
open M
theorem take_h (b : Bx) (t : VH) {m : Int} (hm : 0 < m) (hl : m < 2 ^ 100) : ∃ r b', F_law_take [.obj 0, .int m] (b.v :: t) = .ok (.int r) (Bx.v b' :: t) ∧ 0 ≤ r ∧ r < m := take_eq (n := 0) rfl hm (log2_ok hm hl)
theorem take1 (b : Bx) {m : Int} (hm : 0 < m) (hl : m < 2 ^ 100) : ∃ r b', F_law_take [.obj 0, .int m] [b.v] = .ok (.int r) [Bx.v b'] ∧ 0 ≤ r ∧ r < m := take_h b [] hm hl
theorem fin_b {v : VV} {b : Bx} {t : VH} (hv : lowV 1 v = true) : (SR.ret v (b.v :: t)).fin 1 = .ok v [b.v] := fin_o hv rfl
theorem erase_perm {l : List Int} {k : Nat} (hk : k < l.length) : (l[k] :: l.eraseIdx k).Perm l := by
  induction l generalizing k with
  | nil => simp at hk
  | cons x l ih =>
    cases k with
    | zero => simp
    | succ k =>
      simp only [List.getElem_cons_succ, List.eraseIdx_cons_succ]
      exact (List.Perm.swap x _ _).trans ((ih (by simpa using hk)).cons x)
theorem eraseIdx_mapI : ∀ (l : List Int) (k : Nat), (l.map VV.int).eraseIdx k = (l.eraseIdx k).map VV.int
  | [], _ => rfl
  | _ :: _, 0 => rfl
  | x :: l, k + 1 => by simp only [List.map_cons, List.eraseIdx_cons_succ, eraseIdx_mapI l k]
/-- a turn of drawing without putting back -/
theorem pop_turn (b : Bx) {rest found : List Int} (hr : rest ≠ []) (hl : rest.length ≤ 16) (hf : found.length < 16777216) : ∃ (r : Nat) (b' : Bx) (hk : r < rest.length),
    F_law_take [.obj 0, .int rest.length] [b.v, .fl (rest.map VV.int), .fl (found.map VV.int)] = .ok (.int r) [b'.v, .fl (rest.map VV.int), .fl (found.map VV.int)]
    ∧ popO (some (.fl (rest.map VV.int))) 1 (r : Int) [b'.v, .fl (rest.map VV.int), .fl (found.map VV.int)] = .ok (.int rest[r]) [b'.v, .fl ((rest.eraseIdx r).map VV.int), .fl (found.map VV.int)]
    ∧ appO (some (.fl (found.map VV.int))) 2 [b'.v, .fl ((rest.eraseIdx r).map VV.int), .fl (found.map VV.int)] (.int rest[r]) = .ok .non [b'.v, .fl ((rest.eraseIdx r).map VV.int), .fl ((found ++ [rest[r]]).map VV.int)] := by
  have hp : 0 < rest.length := List.length_pos_iff.mpr hr
  obtain ⟨r, b', e, h1, h2⟩ := take_h b [.fl (rest.map VV.int), .fl (found.map VV.int)] (m := rest.length) (by omega) (by omega)
  obtain ⟨k, rfl⟩ := Int.eq_ofNat_of_zero_le h1
  have hk : k < rest.length := by omega
  refine ⟨k, b', hk, e, ?_, ?_⟩
  · rw [popO_fl (v := .int rest[k]) h1 (by rw [List.length_map]; exact h2) (by omega) (by rw [List.getElem?_map]; show ((rest[k]?).map _) = _; rw [List.getElem?_eq_getElem hk]; rfl)]
    show Res.ok _ [_, VO.fl ((rest.map VV.int).eraseIdx k), _] = _
    rw [eraseIdx_mapI]
  · rw [appO_fl (by rw [List.length_map]; exact hf) rfl]
    show Res.ok _ [_, _, VO.fl (found.map VV.int ++ [VV.int rest[k]])] = _
    rw [List.map_append]; rfl
theorem points_eq (b : Bx) {m : Int} (h0 : 0 ≤ m) (h1 : m ≤ 16) : ∃ (ps : List Int) (b' : Bx), F_law_points [.obj 0, .int m] [b.v] = .ok (.lst (ps.map VV.int)) [b'.v] ∧ (ps.length : Int) = m ∧ ps.Nodup ∧ ∀ p ∈ ps, 0 ≤ p ∧ p ≤ 15 := by
  unfold F_law_points B_law_points
  walk_at "ev"
  rw [if_pos (by decide)]
  walk_at "ev"
  simp only [List.any_nil, Bool.false_eq_true, false_or]
  rw [if_neg (by decide)]
  walk_at "ev"
  rw [if_pos (by omega)]
  walk_at "ev"
  have e16 : rngV 0 (Int.toNat 16) = ([0, 1, 2, 3, 4, 5, 6, 7, 8, 9, 10, 11, 12, 13, 14, 15] : List Int).map VV.int := rfl
  rw [e16, rng_eq]
  obtain ⟨ρ2, h2, e2, b2, rest, found, o, rfl, rfl, hp, hl⟩ := for_pre (b := bNm 4) (body := lb_law_points_1) (fun (i : Nat) => VV.int (0 + (i : Int)))
    (fun pre ρ h => ∃ (b : Bx) (rest found : List Int) (o : Option VV), ρ = [some (.obj 0), some (.int m), some (.obj 1), some (.obj 2), o] ∧ h = [b.v, .fl (rest.map VV.int), .fl (found.map VV.int)] ∧ (found ++ rest).Perm [0, 1, 2, 3, 4, 5, 6, 7, 8, 9, 10, 11, 12, 13, 14, 15] ∧ found.length = pre.length)
    (List.range m.toNat) (ρ := [some (.obj 0), some (.int m), some (.obj 1), some (.obj 2), none]) (h := [b.v, .fl (([0, 1, 2, 3, 4, 5, 6, 7, 8, 9, 10, 11, 12, 13, 14, 15] : List Int).map VV.int), .fl (([] : List Int).map VV.int)])
    ⟨b, _, [], none, rfl, rfl, List.Perm.refl _, rfl⟩ (by
      rintro pre y post ey ρ h ⟨b, rest, found, o, rfl, rfl, hp, hl⟩
      have ll := hp.length_eq
      have lm : pre.length + 1 + post.length = m.toNat := by
        have := congrArg List.length ey
        simpa [Nat.add_assoc, Nat.add_comm, Nat.add_left_comm] using this.symm
      rw [List.length_append] at ll
      have l16 : ([0, 1, 2, 3, 4, 5, 6, 7, 8, 9, 10, 11, 12, 13, 14, 15] : List Int).length = 16 := rfl
      rw [l16] at ll
      obtain ⟨r, b', hk, t1, t2, t3⟩ := pop_turn b (rest := rest) (found := found) (fun e => by rw [e] at ll; simp at ll; omega) (by omega) (by omega)
      refine ⟨_, [some (.obj 0), some (.int m), some (.obj 1), some (.obj 2), some (.int (0 + (y : Int)))], _, rfl, ?_, b', rest.eraseIdx r, found ++ [rest[r]], _, rfl, rfl, ?_, by simp [hl]⟩
      · walk_at "ev"
        simp only [len_obj]
        walk_at "ev"
        simp only [omap_some, List.length_map, lift_some]
        walk_at "ev"
        simp only [t1]
        walk_at "ev"
        simp only [t2]
        walk_at "ev"
        simp only [t3]
        walk_at "ev"
      · refine List.Perm.trans ?_ hp
        rw [List.append_assoc]
        exact (erase_perm hk).append_left found)
  simp only [List.map_nil] at e2
  rw [e2]
  walk_at "ev"
  rw [fin_b rfl]
  have hnd : (found ++ rest).Nodup := hp.nodup_iff.mpr (by decide)
  refine ⟨found, b2, rfl, ?_, (List.nodup_append.mp hnd).1, fun p hpm => ?_⟩
  · rw [hl, List.length_range]; omega
  · have : p ∈ ([0, 1, 2, 3, 4, 5, 6, 7, 8, 9, 10, 11, 12, 13, 14, 15] : List Int) := hp.mem_iff.mp (List.mem_append_left _ hpm)
    simp only [List.mem_cons, List.not_mem_nil, or_false] at this
    omega
theorem min_int {i j : Int} {h : VH} : cMin h [.int i, .int j] = some (.int (if j < i then j else i)) := rfl
/-- what a drawn face keeps -/
structure DF (p : List Int) (big : Int) (f : List Int) : Prop where
  nd : f.Nodup
  pos : f ≠ []
  le : (f.length : Int) ≤ big + 1
  sub : ∀ x ∈ f, x ∈ p
theorem drawn_face_eq (b : Bx) {p : List Int} {big : Int} (pn : p.Nodup) (pp : p ≠ []) (pl : p.length ≤ 16) (h0 : 0 ≤ big) (h1 : big ≤ 3) : ∃ (f : List Int) (b' : Bx), F_law_drawn_face [.obj 0, .lst (p.map VV.int), .int big] [b.v] = .ok (tupI f) [b'.v] ∧ DF p big f := by
  have hp0 : 0 < p.length := List.length_pos_iff.mpr pp
  unfold F_law_drawn_face B_law_drawn_face
  walk_at "ev"
  simp only [List.any_nil, Bool.false_eq_true, false_or]
  rw [if_neg (by decide)]
  walk_at "ev"
  simp only [len_obj]
  walk_at "ev"
  simp only [omap_some, List.length_map, lift_some]
  walk_at "ev"
  obtain ⟨r, b1, e1, r0, r1⟩ := take_h b [.fl (p.map VV.int), .fl []] (m := big + 1) (by omega) (by omega)
  simp only [e1]
  walk_at "ev"
  simp only [min_int]
  walk_at "ev"
  generalize en : (if 1 + r < (p.length : Int) then 1 + r else (p.length : Int)) = n
  have hn : 1 ≤ n ∧ n ≤ p.length ∧ n ≤ big + 1 := by
    rw [← en]; split <;> omega
  rw [if_pos (by omega)]
  walk_at "ev"
  rw [rng_eq]
  obtain ⟨ρ2, h2, e2, b2, rest, found, o, rfl, rfl, hp, hl⟩ := for_pre (b := bNm 5) (body := lb_law_drawn_face_1) (fun (i : Nat) => VV.int (0 + (i : Int)))
    (fun pre ρ h => ∃ (b : Bx) (rest found : List Int) (o : Option VV), ρ = [some (.obj 0), some (.lst (p.map VV.int)), some (.int big), some (.obj 1), some (.obj 2), o] ∧ h = [b.v, .fl (rest.map VV.int), .fl (found.map VV.int)] ∧ (found ++ rest).Perm p ∧ found.length = pre.length)
    (List.range n.toNat) (ρ := [some (.obj 0), some (.lst (p.map VV.int)), some (.int big), some (.obj 1), some (.obj 2), none]) (h := [b1.v, .fl (p.map VV.int), .fl (([] : List Int).map VV.int)])
    ⟨b1, _, [], none, rfl, rfl, List.Perm.refl _, rfl⟩ (by
      rintro pre y post ey ρ h ⟨b, rest, found, o, rfl, rfl, hp, hl⟩
      have ll := hp.length_eq
      have lm : pre.length + 1 + post.length = n.toNat := by
        have := congrArg List.length ey
        simpa [Nat.add_assoc, Nat.add_comm, Nat.add_left_comm] using this.symm
      rw [List.length_append] at ll
      obtain ⟨r, b', hk, t1, t2, t3⟩ := pop_turn b (rest := rest) (found := found) (fun e => by rw [e] at ll; simp at ll; omega) (by omega) (by omega)
      refine ⟨_, [some (.obj 0), some (.lst (p.map VV.int)), some (.int big), some (.obj 1), some (.obj 2), some (.int (0 + (y : Int)))], _, rfl, ?_, b', rest.eraseIdx r, found ++ [rest[r]], _, rfl, rfl, ?_, by simp [hl]⟩
      · walk_at "ev"
        simp only [len_obj]
        walk_at "ev"
        simp only [omap_some, List.length_map, lift_some]
        walk_at "ev"
        simp only [t1]
        walk_at "ev"
        simp only [t2]
        walk_at "ev"
        simp only [t3]
        walk_at "ev"
      · refine List.Perm.trans ?_ hp
        rw [List.append_assoc]
        exact (erase_perm hk).append_left found)
  simp only [List.map_nil] at e2
  rw [e2]
  walk_at "ev"
  simp only [tuple_lst]
  walk_at "ev"
  rw [fin_b rfl]
  rw [List.length_range] at hl
  have hnd : (found ++ rest).Nodup := hp.nodup_iff.mpr pn
  refine ⟨found, b2, rfl, (List.nodup_append.mp hnd).1, fun e => ?_, by omega, fun x hx => hp.mem_iff.mp (List.mem_append_left _ hx)⟩
  rw [e] at hl; simp at hl; omega
/-! parts of faces -/
theorem allS_snoc (l : List Int) (y : Int) : allS (l ++ [y]) = allS l ++ (allS l).map (fun s => s ++ [y]) := by
  unfold allS; rw [List.foldl_append]; rfl
theorem add_snoc {s : List Int} {y : Int} {h : VH} (hl : s.length ≤ 1000) : opAdd h (tupI s) (.tup [.int y]) = some (tupI (s ++ [y])) := by
  unfold tupI
  rw [add_tup (by simp; omega), List.map_append]; rfl
theorem parts_step {e : EF} {x0 : Option VV} {y : Int} {pre : List Int} {h : VH} (hl : pre.length ≤ 16) (he : e = eBin opAdd (eVar 3) (eTup (aCons (eVar 2) aNil))) :
    sSet 1 (eBin opAdd (eVar 1) (eLc [3] (iSeq (eVar 1)) (bNm 3) tTrue e)) [x0, some (.lst ((allS pre).map tupI)), some (.int y), none] h = .nx [x0, some (.lst ((allS (pre ++ [y])).map tupI)), some (.int y), none] h := by
  have hz : (allS pre).length ≤ 65536 := by
    rw [allS_len]
    exact Nat.pow_le_pow_right (by decide) hl
  walk_at "ev"
  rw [if_neg (by rw [List.length_map]; show ¬ (allS pre).length > 16777216; omega)]
  simp only [wp, List.set_cons_zero, List.set_cons_succ]
  rw [lc_map tupI (fun s => tupI (s ++ [y])) (fun s hs => ?_), afterL_ok]
  · walk_at "ev"
    rw [add_lst (by rw [List.length_map, List.length_map]; omega)]
    walk_at "ev"
    rw [allS_snoc, List.map_append, List.map_map]; rfl
  · have hsl := (mem_allS.mp hs).length_le
    refine ⟨_, rfl, rfl, ?_, rfl⟩
    subst he
    walk_at "ev"
    simp only [List.any_cons, List.any_nil, VV.isObj, Bool.or_false, Bool.false_eq_true, false_or, List.length_cons, List.length_nil]
    rw [if_neg (by decide)]
    walk_at "ev"
    rw [add_snoc (by omega)]; rfl
theorem law_subs_eq {f : List Int} {v : VV} {h : VH} (hv : cSorted h [v] = some (.lst ((isort f).map VV.int))) (hl : f.length ≤ 16) : F_law_subs [v] h = .ok (.lst ((subs (isort f)).map tupI)) h := by
  unfold F_law_subs B_law_subs
  walk_at "eva"
  simp only [List.any_nil, List.any_cons, VV.isObj, Bool.or_false, Bool.false_eq_true, false_or]
  rw [if_neg (by decide)]
  walk_at "ev"
  simp only [List.any_nil, List.any_cons, VV.isObj, Bool.or_false, Bool.false_eq_true, false_or, List.length_cons, List.length_nil]
  rw [if_neg (by decide)]
  walk_at "ev"
  simp only [hv]
  walk_at "ev"
  obtain ⟨ρ2, h2, e2, rfl, o, rfl⟩ := for_pre (b := bNm 2) (body := lb_law_subs_1) VV.int
    (fun pre ρ h' => h' = h ∧ ∃ o, ρ = [some v, some (.lst ((allS pre).map tupI)), o, none])
    (isort f) (ρ := [some v, some (.lst ((allS []).map tupI)), none, none]) (h := h) ⟨rfl, none, rfl⟩ (by
      rintro pre y post ey ρ h' ⟨rfl, o, rfl⟩
      have lm : pre.length ≤ 16 := by
        have := congrArg List.length ey
        rw [isort_len, List.length_append] at this
        omega
      exact ⟨_, _, _, rfl, parts_step lm rfl, rfl, _, rfl⟩)
  have e0 : ((allS []).map tupI) = [VV.tup []] := rfl
  rw [e0] at e2
  rw [e2]
  walk_at "ev"
  obtain ⟨r, er, _⟩ := allS_head (isort f)
  simp only [sl_lst]
  walk_at "ev"
  rw [cut_tail (by rw [er]; simp), fin_ret rfl, ← List.map_drop]; rfl
theorem own_faces_eq {f : List Int} {h : VH} (hl : f.length ≤ 16) : F_own_faces [tupI f] h = .ok (.lst ((subs f).map tupI)) h := by
  unfold F_own_faces B_own_faces
  walk_at "eva"
  simp only [List.any_nil, List.any_cons, VV.isObj, Bool.or_false, Bool.false_eq_true, false_or]
  rw [if_neg (by decide)]
  walk_at "ev"
  simp only [List.any_nil, List.any_cons, VV.isObj, Bool.or_false, Bool.false_eq_true, false_or, List.length_cons, List.length_nil]
  rw [if_neg (by decide)]
  walk_at "ev"
  have es : seqItems (tupI f) h = .ok (f.map VV.int) h := rfl
  simp only [es]
  walk_at "ev"
  obtain ⟨ρ2, h2, e2, rfl, o, rfl⟩ := for_pre (b := bNm 2) (body := lb_own_faces_1) VV.int
    (fun pre ρ h' => h' = h ∧ ∃ o, ρ = [some (tupI f), some (.lst ((allS pre).map tupI)), o, none])
    f (ρ := [some (tupI f), some (.lst ((allS []).map tupI)), none, none]) (h := h) ⟨rfl, none, rfl⟩ (by
      rintro pre y post ey ρ h' ⟨rfl, o, rfl⟩
      have lm : pre.length ≤ 16 := by
        have := congrArg List.length ey
        rw [List.length_append] at this
        omega
      exact ⟨_, _, _, rfl, parts_step lm rfl, rfl, _, rfl⟩)
  have e0 : ((allS []).map tupI) = [VV.tup []] := rfl
  rw [e0] at e2
  rw [e2]
  walk_at "ev"
  obtain ⟨r, er, _⟩ := allS_head f
  simp only [sl_lst]
  walk_at "ev"
  rw [cut_tail (by rw [er]; simp), fin_ret rfl, ← List.map_drop]; rfl
theorem subs_le {f : List Int} (hl : f.length ≤ 4) : (subs f).length ≤ 15 := by
  have h := subs_len (l := f)
  have : 2 ^ f.length ≤ 2 ^ 4 := Nat.pow_le_pow_right (by decide) hl
  omega
theorem parts_snoc (fs : List (List Int)) (f : List Int) : parts (fs ++ [f]) = parts fs ++ subs (isort f) := by
  unfold parts; rw [List.flatMap_append]; simp
theorem parts_le {fs : List (List Int)} (h : ∀ f ∈ fs, f.length ≤ 4) : (parts fs).length ≤ 15 * fs.length := by
  induction fs with
  | nil => simp [parts]
  | cons f fs ih =>
    have e : parts (f :: fs) = subs (isort f) ++ parts fs := by unfold parts; simp
    have := ih fun g hg => h g (List.mem_cons_of_mem _ hg)
    have := subs_le (f := isort f) (by rw [isort_len]; exact h f List.mem_cons_self)
    rw [e, List.length_append, List.length_cons]; omega
theorem parts_pos {fs : List (List Int)} : ∀ s ∈ parts fs, s ≠ [] := fun s hs => by
  obtain ⟨_, _, _, h⟩ := mem_parts.mp hs
  exact h
theorem closed_eq {fs : List (List Int)} {h : VH} (hf : ∀ f ∈ fs, f.length ≤ 4) (hn : fs.length ≤ 1000) (few : (parts fs).eraseDups.length < 306) : F_law_closed [.lst (fs.map tupI)] h = .ok (.lst ((clo fs).map tupI)) h := by
  unfold F_law_closed B_law_closed
  walk_at "eva"
  simp only [List.any_nil, Bool.false_eq_true, false_or]
  rw [if_neg (by decide)]
  walk_at "ev"
  obtain ⟨ρ2, h2, e2, rfl, o, rfl⟩ := for_pre (b := bNm 2) (body := lb_law_closed_1) tupI
    (fun pre ρ h' => h' = h ∧ ∃ o, ρ = [some (.lst (fs.map tupI)), some (.lst ((parts pre).map tupI)), o])
    fs (ρ := [some (.lst (fs.map tupI)), some (.lst ((parts []).map tupI)), none]) (h := h) ⟨rfl, none, rfl⟩ (by
      rintro pre y post ey ρ h' ⟨rfl, o, rfl⟩
      have hy : y.length ≤ 4 := hf y (by rw [ey]; simp)
      have lm : pre.length ≤ 1000 := by
        have := congrArg List.length ey
        rw [List.length_append] at this
        omega
      have hp := parts_le (fs := pre) fun f hf' => hf f (by rw [ey]; exact List.mem_append_left _ hf')
      have hs := subs_le (f := isort y) (by rw [isort_len]; exact hy)
      refine ⟨_, [some (.lst (fs.map tupI)), some (.lst ((parts (pre ++ [y])).map tupI)), some (tupI y)], _, rfl, ?_, rfl, _, rfl⟩
      walk_at "ev"
      simp only [law_subs_eq (f := y) (v := tupI y) sorted_tup (by omega)]
      walk_at "ev"
      rw [add_lst (by rw [List.length_map, List.length_map]; omega)]
      walk_at "ev"
      rw [parts_snoc, List.map_append])
  have e0 : ((parts []).map tupI) = [] := rfl
  rw [e0] at e2
  rw [e2]
  walk_at "ev"
  simp only [sortSet_tups parts_pos few]
  walk_at "ev"
  rw [fin_ret rfl]; rfl
theorem box_low (b : Bx) : lowO 2 b.v = true := rfl
theorem fin_b_r {v : VV} {b : Bx} {o9 : VO} {t : VH} (ho9 : lowO 2 o9 = true) (hv : lowV 2 v = true) : (SR.ret v (b.v :: o9 :: t)).fin 2 = .ok v [b.v, o9] := fin_low (h := [b.v, o9]) rfl hv (by simp only [List.all_cons, List.all_nil, Bool.and_true, Bool.and_eq_true]; exact ⟨box_low b, ho9⟩)
theorem pop_turn_r (b : Bx) {o9 : VO} {rest found : List Int} (hr : rest ≠ []) (hl : rest.length ≤ 16) (hf : found.length < 16777216) : ∃ (r : Nat) (b' : Bx) (hk : r < rest.length),
    F_law_take [.obj 0, .int rest.length] [b.v, o9, .fl (rest.map VV.int), .fl (found.map VV.int)] = .ok (.int r) [b'.v, o9, .fl (rest.map VV.int), .fl (found.map VV.int)]
    ∧ popO (some (.fl (rest.map VV.int))) 2 (r : Int) [b'.v, o9, .fl (rest.map VV.int), .fl (found.map VV.int)] = .ok (.int rest[r]) [b'.v, o9, .fl ((rest.eraseIdx r).map VV.int), .fl (found.map VV.int)]
    ∧ appO (some (.fl (found.map VV.int))) 3 [b'.v, o9, .fl ((rest.eraseIdx r).map VV.int), .fl (found.map VV.int)] (.int rest[r]) = .ok .non [b'.v, o9, .fl ((rest.eraseIdx r).map VV.int), .fl ((found ++ [rest[r]]).map VV.int)] := by
  have hp : 0 < rest.length := List.length_pos_iff.mpr hr
  obtain ⟨r, b', e, h1, h2⟩ := take_h b [o9, .fl (rest.map VV.int), .fl (found.map VV.int)] (m := rest.length) (by omega) (by omega)
  obtain ⟨k, rfl⟩ := Int.eq_ofNat_of_zero_le h1
  have hk : k < rest.length := by omega
  refine ⟨k, b', hk, e, ?_, ?_⟩
  · rw [popO_fl (v := .int rest[k]) h1 (by rw [List.length_map]; exact h2) (by omega) (by rw [List.getElem?_map]; show ((rest[k]?).map _) = _; rw [List.getElem?_eq_getElem hk]; rfl)]
    show Res.ok _ [_, _, VO.fl ((rest.map VV.int).eraseIdx k), _] = _
    rw [eraseIdx_mapI]
  · rw [appO_fl (by rw [List.length_map]; exact hf) rfl]
    show Res.ok _ [_, _, _, VO.fl (found.map VV.int ++ [VV.int rest[k]])] = _
    rw [List.map_append]; rfl
theorem points_eq_r {o9 : VO} (ho9 : lowO 2 o9 = true) (b : Bx) {m : Int} (h0 : 0 ≤ m) (h1 : m ≤ 16) : ∃ (ps : List Int) (b' : Bx), F_law_points [.obj 0, .int m] [b.v, o9] = .ok (.lst (ps.map VV.int)) [b'.v, o9] ∧ (ps.length : Int) = m ∧ ps.Nodup ∧ ∀ p ∈ ps, 0 ≤ p ∧ p ≤ 15 := by
  unfold F_law_points B_law_points
  walk_at "ev"
  rw [if_pos (by decide)]
  walk_at "ev"
  simp only [List.any_nil, Bool.false_eq_true, false_or]
  rw [if_neg (by decide)]
  walk_at "ev"
  rw [if_pos (by omega)]
  walk_at "ev"
  have e16 : rngV 0 (Int.toNat 16) = ([0, 1, 2, 3, 4, 5, 6, 7, 8, 9, 10, 11, 12, 13, 14, 15] : List Int).map VV.int := rfl
  rw [e16, rng_eq]
  obtain ⟨ρ2, h2, e2, b2, rest, found, o, rfl, rfl, hp, hl⟩ := for_pre (b := bNm 4) (body := lb_law_points_1) (fun (i : Nat) => VV.int (0 + (i : Int)))
    (fun pre ρ h => ∃ (b : Bx) (rest found : List Int) (o : Option VV), ρ = [some (.obj 0), some (.int m), some (.obj 2), some (.obj 3), o] ∧ h = [b.v, o9, .fl (rest.map VV.int), .fl (found.map VV.int)] ∧ (found ++ rest).Perm [0, 1, 2, 3, 4, 5, 6, 7, 8, 9, 10, 11, 12, 13, 14, 15] ∧ found.length = pre.length)
    (List.range m.toNat) (ρ := [some (.obj 0), some (.int m), some (.obj 2), some (.obj 3), none]) (h := [b.v, o9, .fl (([0, 1, 2, 3, 4, 5, 6, 7, 8, 9, 10, 11, 12, 13, 14, 15] : List Int).map VV.int), .fl (([] : List Int).map VV.int)])
    ⟨b, _, [], none, rfl, rfl, List.Perm.refl _, rfl⟩ (by
      rintro pre y post ey ρ h ⟨b, rest, found, o, rfl, rfl, hp, hl⟩
      have ll := hp.length_eq
      have lm : pre.length + 1 + post.length = m.toNat := by
        have := congrArg List.length ey
        simpa [Nat.add_assoc, Nat.add_comm, Nat.add_left_comm] using this.symm
      rw [List.length_append] at ll
      have l16 : ([0, 1, 2, 3, 4, 5, 6, 7, 8, 9, 10, 11, 12, 13, 14, 15] : List Int).length = 16 := rfl
      rw [l16] at ll
      obtain ⟨r, b', hk, t1, t2, t3⟩ := pop_turn_r b (o9 := o9) (rest := rest) (found := found) (fun e => by rw [e] at ll; simp at ll; omega) (by omega) (by omega)
      refine ⟨_, [some (.obj 0), some (.int m), some (.obj 2), some (.obj 3), some (.int (0 + (y : Int)))], _, rfl, ?_, b', rest.eraseIdx r, found ++ [rest[r]], _, rfl, rfl, ?_, by simp [hl]⟩
      · walk_at "ev"
        simp only [len_obj]
        walk_at "ev"
        simp only [omap_some, List.length_map, lift_some]
        walk_at "ev"
        simp only [t1]
        walk_at "ev"
        simp only [t2]
        walk_at "ev"
        simp only [t3]
        walk_at "ev"
      · refine List.Perm.trans ?_ hp
        rw [List.append_assoc]
        exact (erase_perm hk).append_left found)
  simp only [List.map_nil] at e2
  rw [e2]
  walk_at "ev"
  rw [fin_b_r ho9 rfl]
  have hnd : (found ++ rest).Nodup := hp.nodup_iff.mpr (by decide)
  refine ⟨found, b2, rfl, ?_, (List.nodup_append.mp hnd).1, fun p hpm => ?_⟩
  · rw [hl, List.length_range]; omega
  · have : p ∈ ([0, 1, 2, 3, 4, 5, 6, 7, 8, 9, 10, 11, 12, 13, 14, 15] : List Int) := hp.mem_iff.mp (List.mem_append_left _ hpm)
    simp only [List.mem_cons, List.not_mem_nil, or_false] at this
    omega
/-! is_face -/
def isFaceB (f : List Int) : Bool := decide (1 ≤ f.length ∧ f.length ≤ 4) && decide f.Nodup && f.all fun p => decide (0 ≤ p ∧ p ≤ 15)
theorem isFaceB_pts {f : List Int} (h : Pts f) : isFaceB f = true := by
  unfold isFaceB
  rw [decide_eq_true ⟨List.length_pos_iff.mpr h.pos, h.le⟩, decide_eq_true h.nd, Bool.true_and, Bool.true_and, List.all_eq_true]
  exact fun p hp => decide_eq_true (h.rng p hp)
theorem len_tupI {h : VH} {f : List Int} : cLen h [tupI f] = some (.int (f.length : Int)) := by
  show some (VV.int ((f.map VV.int).length : Int)) = _
  rw [List.length_map]
theorem seq_tupI {h : VH} {f : List Int} : seqItems (tupI f) h = .ok (f.map VV.int) h := rfl
theorem is_face_eq {f : List Int} {h : VH} (hl : f.length ≤ 1000) : F_is_face [tupI f] h = .ok (.bl (isFaceB f)) h := by
  have acc : noX (accGo (bNm 1) (stSet (eVar 1)) [some (tupI f), none] (f.map VV.int) h []) = .ok (dd f) h := by
    rw [show ([] : List Int) = dd [] from rfl, acc_pre VV.int dd f (fun pre y post e => ?_), noX_ok]
    have lm : pre.length ≤ 1000 := by
      have := congrArg List.length e
      rw [List.length_append] at this; omega
    have := dd_le pre
    refine ⟨_, rfl, ?_⟩
    show (if (dd pre).length ≥ 4000 then Res.no else .ok (if y ∈ dd pre then dd pre else dd pre ++ [y]) h) = _
    rw [if_neg (by omega), dd_snoc]
  unfold F_is_face B_is_face
  walk_at "ev"
  simp only [len_tupI]
  walk_at "ev"
  by_cases c1 : 1 ≤ f.length ∧ f.length ≤ 4
  · simp only [decide_eq_true (show (1 : Int) ≤ f.length by omega), if_true]
    walk_at "ev"
    simp only [decide_eq_true (show (f.length : Int) ≤ 3 + 1 by omega), Bool.not_true]
    walk_at "ev"
    simp only [seq_tupI]
    walk_at "ev"
    simp only [wp, List.set_cons_zero, List.set_cons_succ, acc]
    walk_at "ev"
    simp only [len_tupI]
    walk_at "ev"
    have dl : decide (((dd f).length : Int) < (f.length : Int)) = !decide f.Nodup := by
      rw [← dd_lt f]; exact Bool.eq_iff_iff.mpr (by simp)
    rw [dl]
    by_cases c2 : f.Nodup
    · simp only [decide_eq_true c2, Bool.not_true, Bool.false_eq_true, if_false]
      walk_at "ev"
      simp only [seq_tupI]
      walk_at "ev"
      rw [if_neg (by rw [List.length_map]; show ¬ f.length > 16777216; omega)]
      simp only [wp, List.set_cons_zero, List.set_cons_succ]
      rw [lc_map VV.int (fun p => VV.bl (decide (0 ≤ p ∧ p ≤ 15))) (fun p hp => ?_), afterL_ok]
      · walk_at "ev"
        have em : f.map (fun p => VV.bl (decide (0 ≤ p ∧ p ≤ 15))) = (f.map fun p => decide (0 ≤ p ∧ p ≤ 15)).map VV.bl := by rw [List.map_map]; rfl
        rw [em]
        simp only [all_bls]
        walk_at "ev"
        rw [fin_ret rfl]
        unfold isFaceB
        rw [decide_eq_true c1, decide_eq_true c2, List.all_map]; rfl
      · refine ⟨_, rfl, rfl, ?_, rfl⟩
        walk_at "ev"
        by_cases c3 : 0 ≤ p
        · simp only [decide_eq_true c3, if_true]
          walk_at "ev"
          simp only [c3, true_and]
        · simp only [decide_eq_false c3, Bool.false_eq_true, if_false]
          walk_at "ev"
          simp only [c3, false_and, decide_false]
    · simp only [decide_eq_false c2, Bool.not_false, if_true]
      walk_at "ev"
      rw [fin_ret rfl]
      unfold isFaceB
      rw [decide_eq_false c2, Bool.and_false, Bool.false_and]
  · have ef : isFaceB f = false := by
      unfold isFaceB
      rw [decide_eq_false c1, Bool.false_and, Bool.false_and]
    by_cases c0 : 1 ≤ f.length
    · simp only [decide_eq_true (show (1 : Int) ≤ f.length by omega), if_true]
      walk_at "ev"
      simp only [decide_eq_false (show ¬ (f.length : Int) ≤ 3 + 1 by omega), Bool.not_false, if_true]
      walk_at "ev"
      rw [fin_ret rfl, ef]
    · simp only [decide_eq_false (show ¬ (1 : Int) ≤ f.length by omega), Bool.false_eq_true, if_false]
      walk_at "ev"
      rw [fin_ret rfl, ef]
/-! a web is made -/
theorem enum_map {α : Type} (f : α → VV) : ∀ (n : Nat) (l : List α), enum n (l.map f) = (l.zipIdx n).map fun p => VV.tup [.int (p.2 : Int), f p.1]
  | _, [] => rfl
  | n, x :: l => by rw [List.map_cons, enum, List.zipIdx_cons, List.map_cons, enum_map f (n + 1) l]
theorem pat_pair {i j : Nat} {a b : VV} {ρ : VSt} : bTup 2 (bCons (bNm i) (bCons (bNm j) bNil)) (.tup [a, b]) ρ = some ((ρ.set i (some a)).set j (some b)) := rfl
theorem sz_snoc (E : List (List Int)) (f : List Int) (k : Nat) : sz (E ++ [f]) k = sz E k ++ (if f.length = k then [f] else []) := by
  unfold sz
  rw [List.filter_append, List.filter_cons, List.filter_nil]
  by_cases h : f.length = k
  · rw [decide_eq_true h, if_pos rfl, if_pos h]
  · rw [decide_eq_false h, if_neg (by decide), if_neg h]
theorem sz_le (E : List (List Int)) (k : Nat) : (sz E k).length ≤ E.length := List.length_filter_le _ _
/-- the dict of places -/
theorem dict_line {K0 V0} {l : List (List Int)} {h : VH} {x0 x1 x2 x5 x6 x7 : Option VV} (hn : l.Nodup) (hk : ∀ f ∈ l, keyI f ∉ K0) (hz : K0.length + l.length ≤ 10000) (hKV : K0.length = V0.length) :
    accGo (bTup 2 (bCons (bNm 4) (bCons (bNm 3) bNil))) (stDict (eVar 3) (eVar 4)) [x0, x1, x2, none, none, x5, x6, x7] (enum 0 (l.map tupI)) h (K0, V0) = .ok (K0 ++ l.map keyI, V0 ++ idxs l) h := by
  rw [enum_map]
  have := acc_pre (b := bTup 2 (bCons (bNm 4) (bCons (bNm 3) bNil))) (stp := stDict (eVar 3) (eVar 4)) (ρ := [x0, x1, x2, none, none, x5, x6, x7]) (h := h) (fun p : List Int × Nat => VV.tup [.int (p.2 : Int), tupI p.1])
    (fun pre => (K0 ++ (pre.map (·.1)).map keyI, V0 ++ idxs (pre.map (·.1)))) (l.zipIdx 0) (by
      rintro pre ⟨f, n⟩ post ey
      have el : l = pre.map (·.1) ++ f :: post.map (·.1) := by
        have := congrArg (List.map (·.1)) ey
        rw [List.zipIdx_map_fst, List.map_append, List.map_cons] at this
        exact this
      have en : n = pre.length := by
        have h1 : (l.zipIdx 0)[pre.length]? = some (f, n) := by rw [ey]; simp
        rw [List.getElem?_zipIdx] at h1
        obtain ⟨a, _, h3⟩ := Option.map_eq_some_iff.mp h1
        have := congrArg Prod.snd h3
        simpa using this.symm
      refine ⟨_, pat_pair, ?_⟩
      have hl := congrArg List.length el
      rw [List.length_append, List.length_map] at hl
      have nk : keyI f ∉ K0 ++ (pre.map (·.1)).map keyI := by
        intro z
        rcases List.mem_append.mp z with z | z
        · exact hk f (by rw [el]; simp) z
        · have hd := hn
          rw [el, List.nodup_append] at hd
          obtain ⟨g, hg, e⟩ := List.mem_map.mp z
          exact hd.2.2 g hg f List.mem_cons_self (keyI_inj e)
      have hh : hasK (K0 ++ (pre.map (·.1)).map keyI) (keyI f) = false := by
        unfold hasK
        rw [List.any_eq_false]
        exact fun x hx => by rw [decide_eq_true_eq]; exact fun e => nk (e ▸ hx)
      have st : stDict (eVar 3) (eVar 4) [x0, x1, x2, some (tupI f), some (.int (n : Int)), x5, x6, x7] h (K0 ++ (pre.map (·.1)).map keyI, V0 ++ idxs (pre.map (·.1))) = (match keyV (tupI f) with
        | some k => if (VV.int (n : Int)).isObj = true ∨ (K0 ++ (pre.map (·.1)).map keyI).length ≥ SZ then .no else .ok (putKs (K0 ++ (pre.map (·.1)).map keyI) k, putVs (K0 ++ (pre.map (·.1)).map keyI) (V0 ++ idxs (pre.map (·.1))) k (.int (n : Int))) h
        | none => .no) := rfl
      have e1 : stDict (eVar 3) (eVar 4) [x0, x1, x2, some (tupI f), some (.int (n : Int)), x5, x6, x7] h (K0 ++ (pre.map (·.1)).map keyI, V0 ++ idxs (pre.map (·.1))) = .ok (K0 ++ ((pre ++ [(f, n)]).map (·.1)).map keyI, V0 ++ idxs ((pre ++ [(f, n)]).map (·.1))) h := by
        rw [st, keyV_tupI]
        simp only
        rw [if_neg (fun h => h.elim (fun z => by cases z) (fun z => by rw [List.length_append, List.length_map, List.length_map] at z; have : K0.length + pre.length ≥ 16777216 := z; omega))]
        unfold putKs putVs
        rw [hh]
        simp only [Bool.false_eq_true, if_false, List.map_append, List.map_cons, List.map_nil, List.append_assoc]
        congr 3
        unfold idxs
        rw [List.length_append, List.length_singleton, List.range_succ, List.map_append, List.length_map, en]
        rfl
      exact e1)
  have e0 : (K0 ++ (([] : List (List Int × Nat)).map (·.1)).map keyI, V0 ++ idxs (([] : List (List Int × Nat)).map (·.1))) = (K0, V0) := by simp [idxs]
  simp only [List.zipIdx_map_fst] at this
  rw [e0] at this
  exact this
abbrev stW : VSt → VH → DA → Res DA := stIn (iEnum (aCons (eVar 7) aNil)) (bTup 2 (bCons (bNm 4) (bCons (bNm 3) bNil))) [4, 3] (stDict (eVar 3) (eVar 4))
theorem stW_eq {K0 V0} {l : List (List Int)} {h : VH} {x0 x1 x2 x5 x6 : Option VV} (hn : l.Nodup) (hk : ∀ f ∈ l, keyI f ∉ K0) (hz : K0.length + l.length ≤ 10000) (hKV : K0.length = V0.length) :
    stW [x0, x1, x2, none, none, x5, x6, some (.lst (l.map tupI))] h (K0, V0) = .ok (K0 ++ l.map keyI, V0 ++ idxs l) h := by
  have : stW [x0, x1, x2, none, none, x5, x6, some (.lst (l.map tupI))] h (K0, V0) = accGo (bTup 2 (bCons (bNm 4) (bCons (bNm 3) bNil))) (stDict (eVar 3) (eVar 4)) [x0, x1, x2, none, none, x5, x6, some (.lst (l.map tupI))] (enum 0 (l.map tupI)) h (K0, V0) := rfl
  rw [this, dict_line hn hk hz hKV]
theorem dict_all {E : List (List Int)} {h : VH} {x0 x1 x2 x5 x6 : Option VV} (hE : E.Nodup) (hz : E.length ≤ 1000) :
    noX (accGo (bNm 7) stW [x0, x1, x2, none, none, x5, x6, none] [szL E 1, szL E 2, szL E 3, szL E 4] h ([], [])) = .ok ((ordE E).map keyI, ordV E) h := by
  have z1 := sz_le E 1
  have z2 := sz_le E 2
  have z3 := sz_le E 3
  have z4 := sz_le E 4
  have no : ∀ {i j : Nat}, i ≠ j → ∀ f ∈ sz E i, keyI f ∉ (sz E j).map keyI := fun hij f hf => not_key fun z => hij ((mem_sz.mp hf).2.symm.trans (mem_sz.mp z).2)
  have l1 : ((sz E 1).map keyI).length = (sz E 1).length := List.length_map _
  have i1 := idxs_len (sz E 1)
  have i2 := idxs_len (sz E 2)
  have i3 := idxs_len (sz E 3)
  simp only [accGo, bNm_ap, List.set_cons_zero, List.set_cons_succ, szL]
  rw [stW_eq (sz_nodup hE 1) (by simp) (by simp; omega) rfl, bind_ok, List.nil_append, List.nil_append]
  rw [stW_eq (sz_nodup hE 2) (no (by decide)) (by simp; omega) i1, bind_ok]
  rw [stW_eq (sz_nodup hE 3) (fun f hf z => (List.mem_append.mp z).elim (no (by decide) f hf) (no (by decide) f hf)) (by simp; omega) (by rw [List.length_append, List.length_append, i1, i2]), bind_ok]
  rw [stW_eq (sz_nodup hE 4) (fun f hf z => (List.mem_append.mp z).elim (fun z => (List.mem_append.mp z).elim (no (by decide) f hf) (no (by decide) f hf)) (no (by decide) f hf)) (by simp; omega) (by rw [List.length_append, List.length_append, List.length_append, List.length_append, i1, i2, i3]), bind_ok]
  unfold ordE ordV
  simp only [List.map_append, List.append_assoc]
  rfl
theorem setD_dd_r {o o9 i : VO} {l : List (List Int)} {x : List Int} (hl : (dd l).length < 16777216) : setD [o, o9, i, .dT ((dd l).map keyI) ((dd l).map fun _ => VV.bl true)] (.obj 3) (tupI x) (.bl true) = some [o, o9, i, .dT ((dd (l ++ [x])).map keyI) ((dd (l ++ [x])).map fun _ => VV.bl true)] := by
  have : setD [o, o9, i, .dT ((dd l).map keyI) ((dd l).map fun _ => VV.bl true)] (.obj 3) (tupI x) (.bl true) = (keyV (tupI x)).bind fun k => if (VV.bl true).isObj = true ∨ ((dd l).map keyI).length ≥ SZ then none else some [o, o9, i, .dT (putKs ((dd l).map keyI) k) (putVs ((dd l).map keyI) ((dd l).map fun _ => VV.bl true) k (.bl true))] := rfl
  rw [this, keyV_tupI]
  show (if _ then _ else _) = _
  rw [if_neg (fun h => h.elim (fun z => by cases z) (fun z => by rw [List.length_map] at z; have : (dd l).length ≥ 16777216 := z; omega)), putKs_dd, putVs_dd]
theorem len_dict_r {o o9 i : VO} {ks vs} : cLenD [o, o9, i, .dT ks vs] [.obj 3] = some (.int (ks.length : Int)) := rfl
theorem list_dict_r {o o9 i : VO} {l : List (List Int)} {vs} {t : VH} : cListD (o :: o9 :: i :: .dT (l.map keyI) vs :: t) [.obj 3] = some (.lst (l.map tupI)) := by
  have : cListD (o :: o9 :: i :: .dT (l.map keyI) vs :: t) [.obj 3] = some (.lst ((l.map keyI).map fun k => .tup (k.map keyB))) := rfl
  rw [this, List.map_map]
  congr 2
  exact List.map_congr_left fun k _ => keyB_I k
def heapT_r (o o9 d : VO) (E : List (List Int)) : VH := [o, o9, .ins "Web" ["table"] [.obj 8], d, .fl ((sz E 1).map tupI), .fl ((sz E 2).map tupI), .fl ((sz E 3).map tupI), .fl ((sz E 4).map tupI), .lo [.obj 4, .obj 5, .obj 6, .obj 7]]
theorem web_turn_r {o o9 d : VO} {pre : List (List Int)} {f : List Int} {x1 x2 x4 x5 : Option VV} (hf : Face f) (hl : pre.length ≤ 10000) : lb_Web_init_3 [some (.obj 2), x1, x2, some (tupI f), x4, x5, none, none] (heapT_r o o9 d pre) = .nx [some (.obj 2), x1, x2, some (tupI f), x4, x5, none, none] (heapT_r o o9 d (pre ++ [f])) := by
  have h1 := hf.le
  have h2 : 0 < f.length := List.length_pos_iff.mpr hf.pos
  have z1 := sz_le pre 1
  have z2 := sz_le pre 2
  have z3 := sz_le pre 3
  have z4 := sz_le pre 4
  have key : ∀ (j : Nat) (xs : List VV), (heapT_r o o9 d pre)[4 + j]? = some (.fl xs) → j < 4 → (f.length : Int) - 1 = j → xs.length < 16777216 → lb_Web_init_3 [some (.obj 2), x1, x2, some (tupI f), x4, x5, none, none] (heapT_r o o9 d pre) = .nx [some (.obj 2), x1, x2, some (tupI f), x4, x5, none, none] ((heapT_r o o9 d pre).set (4 + j) (.fl (xs ++ [tupI f]))) := by
    intro j xs hx hj ej hz
    have ef : fldR "Web" "table" (insOf (heapT_r o o9 d pre) (.obj 2)) (heapT_r o o9 d pre) = .ok (.obj 8) (heapT_r o o9 d pre) := rfl
    have ei : opIx (heapT_r o o9 d pre) (.obj 8) (.int (j : Int)) = some (.obj (4 + j)) := by
      match j, hj with
      | 0, _ => rfl
      | 1, _ => rfl
      | 2, _ => rfl
      | 3, _ => rfl
    simp only [s_expr, a_app, a_bin, a_fld, a_var, List.getElem?_cons_zero, getV_some, bnd_ok, ef, a_call, a_cons, a_nil, List.getElem?_cons_succ, len_tupI, lift_some, a_c, o_sub, ej, ei, lstR_obj, hx, lstRO_fl, chkL_some, appV_obj, appO_fl hz isObj_tupI, sbd_ok]
  have c : f.length = 1 ∨ f.length = 2 ∨ f.length = 3 ∨ f.length = 4 := by omega
  unfold heapT_r at key ⊢
  rcases c with c | c | c | c
  · rw [key 0 _ rfl (by decide) (by omega) (by rw [List.length_map]; omega)]
    simp only [sz_snoc, c, List.map_append, List.append_nil, Nat.reduceEqDiff, if_false, if_true]
    rfl
  · rw [key 1 _ rfl (by decide) (by omega) (by rw [List.length_map]; omega)]
    simp only [sz_snoc, c, List.map_append, List.append_nil, Nat.reduceEqDiff, if_false, if_true]
    rfl
  · rw [key 2 _ rfl (by decide) (by omega) (by rw [List.length_map]; omega)]
    simp only [sz_snoc, c, List.map_append, List.append_nil, Nat.reduceEqDiff, if_false, if_true]
    rfl
  · rw [key 3 _ rfl (by decide) (by omega) (by rw [List.length_map]; omega)]
    simp only [sz_snoc, c, List.map_append, List.append_nil, Nat.reduceEqDiff, if_false, if_true]
    rfl
theorem web_loop2_r {o o9 d : VO} {E : List (List Int)} {x1 x2 x3 x4 x5 : Option VV} (hE : ∀ f ∈ E, Face f) (hl : E.length ≤ 10000) : ∃ x3', forGo (bNm 3) lb_Web_init_3 (E.map tupI) [some (.obj 2), x1, x2, x3, x4, x5, none, none] (heapT_r o o9 d []) = .nx [some (.obj 2), x1, x2, x3', x4, x5, none, none] (heapT_r o o9 d E) := by
  obtain ⟨ρ2, h2, e2, ⟨x3', rfl⟩, rfl⟩ := for_pre (b := bNm 3) (body := lb_Web_init_3) tupI
    (fun pre ρ h => (∃ x3, ρ = [some (.obj 2), x1, x2, x3, x4, x5, none, none]) ∧ h = heapT_r o o9 d pre)
    E (ρ := [some (.obj 2), x1, x2, x3, x4, x5, none, none]) (h := heapT_r o o9 d []) ⟨⟨x3, rfl⟩, rfl⟩ (by
      rintro pre y post ey ρ h ⟨⟨x3, rfl⟩, rfl⟩
      refine ⟨_, _, _, rfl, web_turn_r (hE y (by rw [ey]; simp)) (by have := congrArg List.length ey; rw [List.length_append] at this; omega), ⟨_, rfl⟩, rfl⟩)
  exact ⟨x3', e2⟩
theorem table_new_r {x0 x1 x2 x3 x4 x5 : Option VV} {o o9 i d : VO} : eLcR [6] (iRange1 (eBin opAdd (eC (.int 3)) (eC (.int 1)))) (bNm 6) tTrue (eLstO aNil) [x0, x1, x2, x3, x4, x5, none, none] [o, o9, i, d] = .ok (.obj 8) [o, o9, i, d, .fl [], .fl [], .fl [], .fl [], .lo [.obj 4, .obj 5, .obj 6, .obj 7]] := rfl
/-! webs of a list or a tuple, over two roots; faces that are refused -/
theorem a_enumA {f : AF} {ρ : VSt} {h : VH} : iEnumA f ρ h = bnd (f ρ h) (fun v h1 => match v with
  | [.lst xs] => .ok (enum 0 xs) h1
  | [.scr xs] => .ok (enum 0 xs) h1
  | [.tup xs] => .ok (enum 0 xs) h1
  | _ => .no) (tg _) := nr rfl
def SeqA (v : VV) (fs : List (List Int)) : Prop := v = .lst (fs.map tupI) ∨ v = .tup (fs.map tupI)
theorem for_stop {α : Type} {b : VV → VSt → Option VSt} {body : SF} (f : α → VV) (I : List α → VSt → VH → Prop) (pre : List α) (y : α) (post : List α) {R : Str → List Str → List VV → VH → Prop} {ρ : VSt} {h : VH} (h0 : I [] ρ h)
    (hs : ∀ p x q, pre = p ++ x :: q → ∀ ρ h, I p ρ h → ∃ ρ' ρ2 h2, b (f x) ρ = some ρ' ∧ body ρ' h = .nx ρ2 h2 ∧ I (p ++ [x]) ρ2 h2)
    (he : ∀ ρ h, I pre ρ h → ∃ ρ' x ns vs ρ2 h2, b (f y) ρ = some ρ' ∧ body ρ' h = .exc x ns vs ρ2 h2 ∧ R x ns vs h2) : ∃ x ns vs ρ2 h2, forGo b body ((pre ++ y :: post).map f) ρ h = .exc x ns vs ρ2 h2 ∧ R x ns vs h2 := by
  have key : ∀ (q p : List α), pre = p ++ q → ∀ ρ h, I p ρ h → ∃ x ns vs ρ2 h2, forGo b body ((q ++ y :: post).map f) ρ h = .exc x ns vs ρ2 h2 ∧ R x ns vs h2 := by
    intro q
    induction q with
    | nil =>
      intro p e ρ h hi
      rw [List.append_nil] at e
      subst e
      obtain ⟨ρ', x, ns, vs, ρ2, h2, e1, e2, r⟩ := he ρ h hi
      refine ⟨x, ns, vs, ρ2, h2, ?_, r⟩
      rw [List.nil_append, List.map_cons, for_cons, e1, obd_some, e2]
      rfl
    | cons x q ih =>
      intro p e ρ h hi
      obtain ⟨ρ', ρ2, h2, e1, e2, hi2⟩ := hs p x q e ρ h hi
      obtain ⟨x', ns, vs, ρ3, h3, e3, r⟩ := ih (p ++ [x]) (by rw [e]; simp) ρ2 h2 hi2
      refine ⟨x', ns, vs, ρ3, h3, ?_, r⟩
      rw [List.cons_append, List.map_cons, for_cons, e1, obd_some, e2, trn_nx, e3]
  exact key pre [] rfl ρ h h0
theorem s_raise1 {x : Str} {fe : EF} {ρ : VSt} {h h1 : VH} {i : Int} (e : fe ρ h = .ok (.int i) h1) : sRaise1 x fe ρ h = .exc x ["at", "word"] [.int i, .str x] ρ h1 := by
  unfold sRaise1
  rw [e]
  rfl
section
variable {o o9 i : VO} {l : List (List Int)} {f : List Int} {n : Int} {x1 o5 : Option VV}
theorem web_step (pf : Pts f) (hl : l.length ≤ 20000) :
    ∃ o5', lb_Web_init_2 [some (.obj 2), x1, some (.obj 3), some (tupI f), some (.int n), o5, none, none] [o, o9, i, .dT ((dd l).map keyI) ((dd l).map fun _ => VV.bl true)]
      = .nx [some (.obj 2), x1, some (.obj 3), some (tupI f), some (.int n), o5', none, none] [o, o9, i, .dT ((dd (l ++ subs (isort f))).map keyI) ((dd (l ++ subs (isort f))).map fun _ => VV.bl true)] := by
  have hsl := subs_le (f := isort f) (by rw [isort_len]; exact pf.le)
  obtain ⟨ρ3, h3, e3, ⟨o5', rfl⟩, rfl⟩ := for_pre (b := bNm 5) (body := lb_Web_init_1) tupI
    (fun q ρ h => (∃ o5, ρ = [some (.obj 2), x1, some (.obj 3), some (tupI f), some (.int n), o5, none, none]) ∧ h = [o, o9, i, .dT ((dd (l ++ q)).map keyI) ((dd (l ++ q)).map fun _ => VV.bl true)])
    (subs (isort f)) (ρ := [some (.obj 2), x1, some (.obj 3), some (tupI f), some (.int n), o5, none, none]) (h := [o, o9, i, .dT ((dd l).map keyI) ((dd l).map fun _ => VV.bl true)]) ⟨⟨o5, rfl⟩, by rw [List.append_nil]⟩ (by
      rintro q y q' eq ρ h ⟨⟨o5, rfl⟩, rfl⟩
      refine ⟨_, _, _, rfl, ?_, ⟨some (tupI y), rfl⟩, rfl⟩
      have hq : q.length ≤ 15 := by
        have := congrArg List.length eq
        rw [List.length_append] at this; omega
      have hdl := dd_le (l ++ q)
      rw [List.length_append] at hdl
      walk_at "ev"
      rw [setD_dd_r (by omega), List.append_assoc]
      walk_at "ev")
  refine ⟨o5', ?_⟩
  have eo : ∀ h : VH, F_own_faces [.tup ((isort f).map VV.int)] h = .ok (.lst ((subs (isort f)).map tupI)) h := fun h => own_faces_eq (by rw [isort_len]; have := pf.le; omega)
  walk_at "ev"
  simp only [is_face_eq (f := f) (by have := pf.le; omega), isFaceB_pts pf]
  walk_at "ev"
  simp only [sorted_tup]
  walk_at "ev"
  simp only [tuple_lst]
  walk_at "ev"
  simp only [eo]
  walk_at "ev"
  exact e3
theorem web_bump (hf : isFaceB f = false) (hl : f.length ≤ 1000) {h : VH} :
    lb_Web_init_2 [some (.obj 2), x1, some (.obj 3), some (tupI f), some (.int n), o5, none, none] h = .exc "BadFace" ["at", "word"] [.int n, .str "BadFace"] [some (.obj 2), x1, some (.obj 3), some (tupI f), some (.int n), o5, none, none] h := by
  walk_at "ev"
  simp only [is_face_eq (f := f) hl, hf]
  walk_at "ev"
  rw [s_raise1 (i := n) (h1 := h) (by walk_at "ev")]
  walk_at "ev"
end
theorem web_loop1_v {o o9 i : VO} {fs : List (List Int)} {x1 : Option VV} (hf : ∀ f ∈ fs, Pts f) (hn : fs.length ≤ 1000) :
    ∃ o3 o4 o5, forGo (bTup 2 (bCons (bNm 4) (bCons (bNm 3) bNil))) lb_Web_init_2 (enum 0 (fs.map tupI)) [some (.obj 2), x1, some (.obj 3), none, none, none, none, none] [o, o9, i, .dT [] []]
      = .nx [some (.obj 2), x1, some (.obj 3), o3, o4, o5, none, none] [o, o9, i, .dT ((dd (parts fs)).map keyI) ((dd (parts fs)).map fun _ => VV.bl true)] := by
  rw [enum_map]
  obtain ⟨ρ2, h2, e2, ⟨o3, o4, o5, rfl⟩, rfl⟩ := for_pre (b := bTup 2 (bCons (bNm 4) (bCons (bNm 3) bNil))) (body := lb_Web_init_2) (fun p : List Int × Nat => VV.tup [.int (p.2 : Int), tupI p.1])
    (fun pre ρ h => (∃ o3 o4 o5, ρ = [some (.obj 2), x1, some (.obj 3), o3, o4, o5, none, none]) ∧ h = [o, o9, i, .dT ((dd (parts (pre.map (·.1)))).map keyI) ((dd (parts (pre.map (·.1)))).map fun _ => VV.bl true)])
    (fs.zipIdx 0) (ρ := [some (.obj 2), x1, some (.obj 3), none, none, none, none, none]) (h := [o, o9, i, .dT [] []]) ⟨⟨none, none, none, rfl⟩, rfl⟩ (by
      rintro pre ⟨f, n⟩ post ey ρ h ⟨⟨o3, o4, o5, rfl⟩, rfl⟩
      have ef : fs = pre.map (·.1) ++ f :: post.map (·.1) := by
        have := congrArg (List.map (·.1)) ey
        rw [List.zipIdx_map_fst, List.map_append, List.map_cons] at this
        exact this
      have hlen : (pre.map (·.1)).length ≤ 1000 := by
        have := congrArg List.length ef
        rw [List.length_append] at this; omega
      have hpl := parts_le (fs := pre.map (·.1)) fun g hg => (hf g (by rw [ef]; exact List.mem_append_left _ hg)).le
      obtain ⟨o5', es⟩ := web_step (o := o) (o9 := o9) (i := i) (l := parts (pre.map (·.1))) (n := (n : Int)) (x1 := x1) (o5 := o5) (hf f (by rw [ef]; simp)) (by omega)
      exact ⟨_, _, _, pat_pair, es, ⟨_, _, _, rfl⟩, by rw [List.map_append, List.map_cons, List.map_nil, parts_snoc]⟩)
  rw [List.zipIdx_map_fst] at e2
  exact ⟨o3, o4, o5, e2⟩
theorem zipIdx_cut {pre post : List (List Int)} {f : List Int} : (pre ++ f :: post).zipIdx 0 = pre.zipIdx 0 ++ (f, pre.length) :: post.zipIdx (pre.length + 1) := by
  rw [List.zipIdx_append, List.zipIdx_cons, Nat.zero_add]
/-- the first bad face is told -/
theorem web_bad {o o9 : VO} {pre post : List (List Int)} {f : List Int} {v : VV} (hv : SeqA v (pre ++ f :: post)) (hp : ∀ g ∈ pre, Pts g) (hn : pre.length ≤ 1000) (hf : isFaceB f = false) (hl : f.length ≤ 1000) :
    ∃ t, F_Web_init [.obj 2, v] [o, o9, .ins "Web" [] []] = .exc "BadFace" ["at", "word"] [.int (pre.length : Int), .str "BadFace"] (o :: o9 :: t) := by
  obtain ⟨x, ns, vs, ρ2, h2, e2, rfl, rfl, rfl, t, rfl⟩ := for_stop (b := bTup 2 (bCons (bNm 4) (bCons (bNm 3) bNil))) (body := lb_Web_init_2) (fun p : List Int × Nat => VV.tup [.int (p.2 : Int), tupI p.1])
    (fun pre ρ h => (∃ o3 o4 o5, ρ = [some (.obj 2), some v, some (.obj 3), o3, o4, o5, none, none]) ∧ h = [o, o9, .ins "Web" [] [], .dT ((dd (parts (pre.map (·.1)))).map keyI) ((dd (parts (pre.map (·.1)))).map fun _ => VV.bl true)])
    (pre.zipIdx 0) (f, pre.length) (post.zipIdx (pre.length + 1)) (R := fun x ns vs h2 => x = "BadFace" ∧ ns = (["at", "word"] : List Str) ∧ vs = [.int (pre.length : Int), .str "BadFace"] ∧ ∃ t, h2 = o :: o9 :: t)
    (ρ := [some (.obj 2), some v, some (.obj 3), none, none, none, none, none]) (h := [o, o9, .ins "Web" [] [], .dT [] []]) ⟨⟨none, none, none, rfl⟩, rfl⟩ (by
      rintro p ⟨g, n⟩ q ey ρ h ⟨⟨o3, o4, o5, rfl⟩, rfl⟩
      have ef : pre = p.map (·.1) ++ g :: q.map (·.1) := by
        have := congrArg (List.map (·.1)) ey
        rw [List.zipIdx_map_fst, List.map_append, List.map_cons] at this
        exact this
      have hlen : (p.map (·.1)).length ≤ 1000 := by
        have := congrArg List.length ef
        rw [List.length_append] at this; omega
      have hpl := parts_le (fs := p.map (·.1)) fun g' hg => (hp g' (by rw [ef]; exact List.mem_append_left _ hg)).le
      obtain ⟨o5', es⟩ := web_step (o := o) (o9 := o9) (i := .ins "Web" [] []) (l := parts (p.map (·.1))) (n := (n : Int)) (x1 := some v) (o5 := o5) (hp g (by rw [ef]; simp)) (by omega)
      exact ⟨_, _, _, pat_pair, es, ⟨_, _, _, rfl⟩, by rw [List.map_append, List.map_cons, List.map_nil, parts_snoc]⟩) (by
      rintro ρ h ⟨⟨o3, o4, o5, rfl⟩, rfl⟩
      exact ⟨_, _, _, _, _, _, pat_pair, web_bump hf hl, rfl, rfl, rfl, _, rfl⟩)
  rw [← zipIdx_cut] at e2
  have en : enum 0 ((pre ++ f :: post).map tupI) = ((pre ++ f :: post).zipIdx 0).map fun p => VV.tup [.int (p.2 : Int), tupI p.1] := enum_map tupI 0 _
  rw [← en] at e2
  refine ⟨t, ?_⟩
  unfold F_Web_init B_Web_init
  walk_at "ev"
  simp only [a_enumA]
  walk_at "ev"
  rcases hv with rfl | rfl
  · walk_at "ev"
    rw [e2]
    walk_at "ev"
  · walk_at "ev"
    rw [e2]
    walk_at "ev"
theorem web_init_v {fs : List (List Int)} {o o9 : VO} {v : VV} (hv : SeqA v fs) (hf : ∀ f ∈ fs, Pts f) (hn : fs.length ≤ 1000) (few : (parts fs).eraseDups.length ≤ 120) :
    ∃ d, F_Web_init [.obj 2, v] [o, o9, .ins "Web" [] []] = .ok .non [o, o9, .ins "Web" ["table", "places"] [.obj 8, .dT ((ordE (clo fs)).map keyI) (ordV (clo fs))], d, .fzn (szL (clo fs) 1), .fzn (szL (clo fs) 2), .fzn (szL (clo fs) 3), .fzn (szL (clo fs) 4), .fzn (.lst [szL (clo fs) 1, szL (clo fs) 2, szL (clo fs) 3, szL (clo fs) 4])] := by
  obtain ⟨o3, o4, o5, e1⟩ := web_loop1_v (o := o) (o9 := o9) (i := .ins "Web" [] []) (x1 := some v) hf hn
  have wf := webf_clo hf
  have ecl : (clo fs).length = (parts fs).eraseDups.length := by unfold clo; exact (fsort_perm _).length_eq
  have ee : ∀ h : VH, (match [v] with
      | [VV.lst xs] => Res.ok (enum 0 xs) h
      | [.scr xs] => .ok (enum 0 xs) h
      | [.tup xs] => .ok (enum 0 xs) h
      | _ => .no) = .ok (enum 0 (fs.map tupI)) h := fun h => by rcases hv with rfl | rfl <;> rfl
  unfold F_Web_init B_Web_init
  walk_at "ev"
  simp only [a_enumA]
  walk_at "ev"
  simp only [ee]
  walk_at "ev"
  rw [e1]
  walk_at "ev"
  simp only [len_dict_r, List.length_map, dd_len]
  walk_at "ev"
  simp only [decide_eq_false (show ¬ (120 : Int) < ((parts fs).eraseDups.length : Int) by omega), Bool.false_eq_true, if_false]
  simp only [s_seq, s_skip, thn_nx, s_fldS, table_new_r, sbd_ok, a_var, List.getElem?_cons_zero, getV_some]
  have es : ∀ d : VO, setF [o, o9, .ins "Web" [] [], d, .fl [], .fl [], .fl [], .fl [], .lo [.obj 4, .obj 5, .obj 6, .obj 7]] "Web" "table" (.obj 2) (.obj 8) = some (heapT_r o o9 d []) := fun _ => rfl
  simp only [es, onh_some, thn_nx, s_seq]
  have hd : ∀ k ∈ dd (parts fs), k ≠ [] := fun k hk => parts_pos k (mem_dd.mp hk)
  have el : cListD (heapT_r o o9 (.dT ((dd (parts fs)).map keyI) ((dd (parts fs)).map fun _ => VV.bl true)) []) [.obj 3] = some (.lst ((dd (parts fs)).map tupI)) := list_dict_r
  have ec : fsort (dd (parts fs)) = clo fs := fsort_dd _
  simp only [s_for, a_seq, a_call, a_cons, a_nil, a_var, List.getElem?_cons_succ, List.getElem?_cons_zero, getV_some, bnd_ok, el, lift_some, sorted_tups hd, seqI_lst, sbd_ok, ec]
  obtain ⟨x3', e2⟩ := web_loop2_r (o := o) (o9 := o9) (d := .dT ((dd (parts fs)).map keyI) ((dd (parts fs)).map fun _ => VV.bl true)) (E := clo fs) (x1 := some v) (x2 := some (.obj 3)) (x3 := o3) (x4 := o4) (x5 := o5) wf.face (by omega)
  rw [e2]
  simp only [thn_nx, s_fldS, a_dc2, a_seq, a_frzD, a_fld, a_var, List.getElem?_cons_zero, getV_some, bnd_ok]
  have e3 : fldR "Web" "table" (insOf (heapT_r o o9 (.dT ((dd (parts fs)).map keyI) ((dd (parts fs)).map fun _ => VV.bl true)) (clo fs)) (.obj 2)) (heapT_r o o9 (.dT ((dd (parts fs)).map keyI) ((dd (parts fs)).map fun _ => VV.bl true)) (clo fs)) = .ok (.obj 8) (heapT_r o o9 (.dT ((dd (parts fs)).map keyI) ((dd (parts fs)).map fun _ => VV.bl true)) (clo fs)) := rfl
  simp only [e3, bnd_ok, frzR_obj]
  have e4 : ∀ d : VO, frzO ((heapT_r o o9 d (clo fs))[8]?) 8 (heapT_r o o9 d (clo fs)) = .ok (.lst [szL (clo fs) 1, szL (clo fs) 2, szL (clo fs) 3, szL (clo fs) 4]) [o, o9, .ins "Web" ["table"] [.obj 8], d, .fzn (szL (clo fs) 1), .fzn (szL (clo fs) 2), .fzn (szL (clo fs) 3), .fzn (szL (clo fs) 4), .fzn (.lst [szL (clo fs) 1, szL (clo fs) 2, szL (clo fs) 3, szL (clo fs) 4])] := fun _ => rfl
  simp only [e4, bnd_ok, seqI_lst, wp, List.set_cons_zero, List.set_cons_succ]
  rw [dict_all wf.nd (by omega)]
  simp only [bnd_ok, sbd_ok, a_var, List.getElem?_cons_zero, getV_some]
  have e5 : ∀ (d v : VV) (D a b c e f : VO), setF [o, o9, .ins "Web" ["table"] [.obj 8], D, a, b, c, e, f] "Web" "places" (.obj 2) v = some [o, o9, .ins "Web" ["table", "places"] [.obj 8, v], D, a, b, c, e, f] := fun _ _ _ _ _ _ _ _ => rfl
  simp only [e5 .non, onh_some]
  refine ⟨.dT ((dd (parts fs)).map keyI) ((dd (parts fs)).map fun _ => VV.bl true), ?_⟩
  show Res.ok VV.non (trim 3 .non _) = _
  unfold trim
  rw [if_neg (by simp), if_neg (fun h => by
    have h2 := h.2
    simp [lowO, lowV] at h2)]
theorem web_make_v {fs : List (List Int)} {o o9 : VO} {v : VV} (hv : SeqA v fs) (ho : lowO 2 o = true) (ho9 : lowO 2 o9 = true) (hf : ∀ f ∈ fs, Pts f) (hn : fs.length ≤ 1000) (few : (parts fs).eraseDups.length ≤ 120) :
    mkZ 2 (F_Web_init [.obj 2, v] [o, o9, .ins "Web" [] []]) = .ok (webV (clo fs)) [o, o9] := by
  obtain ⟨d, e⟩ := web_init_v (o := o) (o9 := o9) hv hf hn few
  rw [e]
  unfold mkZ
  simp only
  rw [if_pos ⟨by simp, by simp [ho, ho9]⟩]
  rfl
theorem web_full_v {fs : List (List Int)} {o o9 : VO} {v : VV} (hv : SeqA v fs) (hf : ∀ f ∈ fs, Pts f) (hn : fs.length ≤ 1000) (many : 120 < (parts fs).eraseDups.length) :
    ∃ t, F_Web_init [.obj 2, v] [o, o9, .ins "Web" [] []] = .exc "Full" ["at", "word"] [.int (-1), .str "Full"] (o :: o9 :: t) := by
  obtain ⟨o3, o4, o5, e1⟩ := web_loop1_v (o := o) (o9 := o9) (i := .ins "Web" [] []) (x1 := some v) hf hn
  have ee : ∀ h : VH, (match [v] with
      | [VV.lst xs] => Res.ok (enum 0 xs) h
      | [.scr xs] => .ok (enum 0 xs) h
      | [.tup xs] => .ok (enum 0 xs) h
      | _ => .no) = .ok (enum 0 (fs.map tupI)) h := fun h => by rcases hv with rfl | rfl <;> rfl
  unfold F_Web_init B_Web_init
  walk_at "ev"
  simp only [a_enumA]
  walk_at "ev"
  simp only [ee]
  walk_at "ev"
  rw [e1]
  walk_at "ev"
  simp only [len_dict_r, List.length_map, dd_len]
  walk_at "ev"
  simp only [decide_eq_true (show (120 : Int) < ((parts fs).eraseDups.length : Int) by omega), if_true]
  walk_at "ev"
  exact ⟨_, rfl⟩
theorem seqN' {A B : SF} {ρ ρ1 : VSt} {h h1 : VH} (e : A ρ h = .nx ρ1 h1) : sSeq A B ρ h = B ρ1 h1 := by rw [s_seq, e, thn_nx]
/-! sides -/
theorem cut_fore {xs : List VV} {k : Nat} (hk : k ≤ xs.length) : cut xs none (some (k : Int)) = xs.take k := by
  unfold cut
  have e1 : HT.sIx xs.length 0 none = 0 := rfl
  have e2 : HT.sIx xs.length xs.length (some (k : Int)) = k := by
    unfold HT.sIx
    simp only [Int.toNat_natCast]
    rw [if_neg (by omega)]
    omega
  rw [e1, e2, List.drop_zero, Nat.sub_zero]
/-! the law's drawing -/
def afterO (r : Res (List VV)) : Res VV := match r with
  | .ok vs h2 => .ok (.obj h2.length) (h2 ++ [.fl vs])
  | _ => .no
theorem afterO_ok {vs : List VV} {h : VH} : afterO (.ok vs h) = .ok (.obj h.length) (h ++ [.fl vs]) := nr rfl
theorem a_lcO {own : List Nat} {it : AF} {b : VV → VSt → Option VSt} {t : TF} {e : EF} {ρ : VSt} {h : VH} : eLcO own it b t e ρ h = bnd (it ρ h) (fun xs h1 => if xs.length > SZ then .no else afterO (lcGo b t e (wp ρ own) xs h1)) (tg _) := nr rfl
theorem eraseDups_dd (l : List Int) : l.eraseDups.length = (dd l).length :=
  ((List.perm_ext_iff_of_nodup (nodup_eraseDupsI l) (dd_nodup l)).mpr fun k => by rw [List.mem_eraseDups, mem_dd]).length_eq
theorem drawn_topsO_eq (b : Bx) {mp mt big : Int} (p0 : 0 < mp) (p1 : mp ≤ 16) (t0 : 0 ≤ mt) (t1 : mt ≤ 100) (h0 : 0 ≤ big) (h1 : big ≤ 3) : ∃ (p : List Int) (fs : List (List Int)) (b' : Bx),
    F_law_drawn_tops [.obj 0, .int mp, .int mt, .int big] [b.v] = .ok (.obj 1) [b'.v, .fl (fs.map tupI)] ∧ p.Nodup ∧ (p.length : Int) ≤ mp ∧ (∀ x ∈ p, 0 ≤ x ∧ x ≤ 15) ∧ (fs.length : Int) ≤ mt ∧ ∀ f ∈ fs, DF p big f := by
  unfold F_law_drawn_tops B_law_drawn_tops
  obtain ⟨r, b1, e1, r0, r1⟩ := take1 b (m := mp) p0 (by omega)
  walk_at "ev"
  simp only [e1]
  walk_at "ev"
  obtain ⟨p, b2, e2, l2, n2, g2⟩ := points_eq b1 (m := 1 + r) (by omega) (by omega)
  simp only [e2]
  walk_at "ev"
  obtain ⟨r3, b3, e3, r30, r31⟩ := take1 b2 (m := mt + 1) (by omega) (by omega)
  simp only [a_lcO]
  walk_at "ev"
  simp only [e3]
  walk_at "ev"
  rw [if_pos (by omega)]
  walk_at "ev"
  rw [rng_eq, if_neg (by rw [List.length_map, List.length_range]; show ¬ r3.toNat > 16777216; omega)]
  have pp : p ≠ [] := fun e => by rw [e] at l2; simp at l2; omega
  obtain ⟨fs, h', e4, ⟨b4, rfl⟩, l4, g4⟩ := lc_draw (b := bNm 5) (t := tTrue) (e := le_law_drawn_tops_1) (ρ := wp [some (.obj 0), some (.int mp), some (.int mt), some (.int big), some (.lst (p.map VV.int)), none] [5]) (fun (i : Nat) => VV.int (0 + (i : Int))) tupI (fun h => ∃ b : Bx, h = [b.v]) (DF p big) (ys := List.range r3.toNat) (h := [b3.v]) ⟨b3, rfl⟩ (by
    rintro y _ h ⟨b, rfl⟩
    obtain ⟨f, b', e, hf⟩ := drawn_face_eq b (p := p) (big := big) n2 pp (by omega) h0 h1
    refine ⟨_, f, [b'.v], rfl, rfl, ?_, rfl, ⟨b', rfl⟩, hf⟩
    simp only [wp]
    walk_at "ev"
    exact e)
  rw [e4, afterO_ok]
  walk_at "ev"
  exact ⟨p, fs, b4, rfl, n2, by omega, g2, by rw [l4, List.length_range]; omega, g4⟩
theorem fld_places {E : List (List Int)} {h : VH} : fldR "Web" "places" (insOf h (webV E)) h = .ok (.dT ((ordE E).map keyI) (ordV E)) h := rfl
theorem ordE_perm {E : List (List Int)} (w : WebF E) : (ordE E).Perm E := by
  refine nodup_perm ?_ w.nd fun x => mem_ordE w.face
  unfold ordE
  have dj : ∀ a b, a ≠ b → ∀ x ∈ sz E a, ∀ y ∈ sz E b, x ≠ y := fun a b hab x hx y hy e => hab (by rw [← (mem_sz.mp hx).2, ← (mem_sz.mp hy).2, e])
  have n := fun k => sz_nodup w.nd k
  refine List.nodup_append.mpr ⟨n 1, List.nodup_append.mpr ⟨n 2, List.nodup_append.mpr ⟨n 3, n 4, dj 3 4 (by decide)⟩, fun x hx y hy => ?_⟩, fun x hx y hy => ?_⟩
  · rcases List.mem_append.mp hy with z | z
    · exact dj 2 3 (by decide) x hx y z
    · exact dj 2 4 (by decide) x hx y z
  · rcases List.mem_append.mp hy with z | z
    · exact dj 1 2 (by decide) x hx y z
    · rcases List.mem_append.mp z with z | z
      · exact dj 1 3 (by decide) x hx y z
      · exact dj 1 4 (by decide) x hx y z
section
variable {E : List (List Int)} {h : VH}
theorem wlen_eq (w : WebF E) : F_Web_len [webV E] h = .ok (.int (E.length : Int)) h := by
  unfold F_Web_len B_Web_len
  walk_at "ev"
  simp only [fld_places]
  walk_at "ev"
  have e : cLenD h [.dT ((ordE E).map keyI) (ordV E)] = some (.int (E.length : Int)) := by
    show some (VV.int (((ordE E).map keyI).length : Int)) = _
    rw [List.length_map, (ordE_perm w).length_eq]
  simp only [e]
  walk_at "ev"
  rw [fin_ret rfl]
end
theorem own_len {E : List (List Int)} {h : VH} (w : WebF E) (hE : E.length ≤ 1000) : lenR "Web" F_Web_len (webV E) h = .ok (.int (E.length : Int)) h :=
  lenR_of (a := ("Web", ["table", "places"], [.lst [szL E 1, szL E 2, szL E 3, szL E 4], .dT ((ordE E).map keyI) (ordV E)])) rfl rfl (wlen_eq w) (by omega) (by omega)
theorem parts_clo {fs : List (List Int)} : (parts fs).eraseDups.length = (clo fs).length := by
  unfold clo
  rw [(fsort_perm _).length_eq]
/-! what the web does -/
theorem law_is_face_eq {f : List Int} {h : VH} (hl : f.length ≤ 50) : F_law_is_face [tupI f] h = .ok (.bl (isFaceB f)) h := by
  unfold F_law_is_face B_law_is_face isFaceB
  walk_at "ev"
  simp only [len_tupI]
  walk_at "ev"
  by_cases c1 : 1 ≤ f.length ∧ f.length ≤ 4
  · simp only [decide_eq_true (show (1 : Int) ≤ f.length by omega), decide_eq_true (show (f.length : Int) ≤ 4 by omega), decide_eq_true c1, if_true]
    walk_at "ev"
    have es : ∀ h : VH, cLenT h [tupI f] = some (.int (f.eraseDups.length : Int)) := fun h => lenT_tup (by omega)
    simp only [es]
    walk_at "ev"
    simp only [len_tupI]
    walk_at "ev"
    have en : decide ((f.eraseDups.length : Int) = (f.length : Int)) = decide f.Nodup := by
      have q := dd_lt f
      have q2 := dd_le f
      rw [eraseDups_dd]
      by_cases c : f.Nodup
      · rw [decide_eq_true c, Bool.not_true, decide_eq_false_iff_not] at q
        rw [decide_eq_true c, decide_eq_true (by omega)]
      · rw [decide_eq_false c, Bool.not_false, decide_eq_true_eq] at q
        rw [decide_eq_false c, decide_eq_false (by omega)]
    rw [en]
    by_cases c2 : f.Nodup
    · simp only [decide_eq_true c2, if_true]
      walk_at "ev"
      simp only [seq_tupI]
      walk_at "ev"
      rw [if_neg (by rw [List.length_map]; show ¬ f.length > 16777216; omega)]
      simp only [wp, List.set_cons_zero, List.set_cons_succ]
      rw [lc_map VV.int (fun p => VV.bl (decide (0 ≤ p ∧ p ≤ 15))) (fun p hp => ?_), afterL_ok]
      · walk_at "ev"
        rw [show f.map (fun p => VV.bl (decide (0 ≤ p ∧ p ≤ 15))) = (f.map fun p => decide (0 ≤ p ∧ p ≤ 15)).map VV.bl by rw [List.map_map]; rfl]
        simp only [all_bls]
        walk_at "ev"
        rw [fin_ret rfl, List.all_map]; rfl
      · refine ⟨_, rfl, rfl, ?_, rfl⟩
        walk_at "ev"
        by_cases c3 : 0 ≤ p
        · simp only [decide_eq_true c3, if_true]
          walk_at "ev"
          simp only [c3, true_and]
        · simp only [decide_eq_false c3, Bool.false_eq_true, if_false]
          walk_at "ev"
          simp only [c3, false_and, decide_false]
    · simp only [decide_eq_false c2, Bool.false_eq_true, if_false, Bool.and_false, Bool.false_and]
      walk_at "ev"
      rw [fin_ret rfl]
  · simp only [decide_eq_false c1, Bool.false_and]
    by_cases c0 : 1 ≤ f.length
    · simp only [decide_eq_true (show (1 : Int) ≤ f.length by omega), decide_eq_false (show ¬ (f.length : Int) ≤ 4 by omega), if_true, Bool.false_eq_true, if_false]
      walk_at "ev"
      rw [fin_ret rfl]
    · simp only [decide_eq_false (show ¬ (1 : Int) ≤ f.length by omega), Bool.false_eq_true, if_false]
      walk_at "ev"
      rw [fin_ret rfl]
theorem pick_tup {l : List (List Int)} {r : Int} {h : VH} (h0 : 0 ≤ r) (h1 : r < l.length) : ∃ g, opIx h (.lst (l.map tupI)) (.int r) = some (tupI g) ∧ g ∈ l := by
  obtain ⟨k, rfl⟩ := Int.eq_ofNat_of_zero_le h0
  have hk : k < l.length := by omega
  refine ⟨l[k], ?_, List.getElem_mem hk⟩
  rw [x_lst]
  exact atI_in (by rw [List.getElem?_map, List.getElem?_eq_getElem hk]; rfl)
theorem pick_int {l : List Int} {r : Int} {h : VH} (h0 : 0 ≤ r) (h1 : r < l.length) : ∃ g, opIx h (.lst (l.map VV.int)) (.int r) = some (.int g) ∧ g ∈ l := by
  obtain ⟨k, rfl⟩ := Int.eq_ofNat_of_zero_le h0
  have hk : k < l.length := by omega
  refine ⟨l[k], ?_, List.getElem_mem hk⟩
  rw [x_lst]
  exact atI_in (by rw [List.getElem?_map, List.getElem?_eq_getElem hk]; rfl)
theorem bent_eq {o9 : VO} (ho9 : lowO 2 o9 = true) (b : Bx) {f : List Int} {n : Nat} (hl : f.length ≤ n) (h5 : 5 ≤ n) (hn : n ≤ 40) : ∃ (g : List Int) (b' : Bx), F_law_bent_face [.obj 0, tupI f] [b.v, o9] = .ok (tupI g) [b'.v, o9] ∧ g.length ≤ n + 1 := by
  obtain ⟨r1, b1, e1, u0, u1⟩ := take_h b [o9] (m := 100000000000000000000) (by decide) (by decide)
  obtain ⟨r2, b2, e2, v0, v1⟩ := take_h b1 [o9] (m := 50) (by decide) (by decide)
  obtain ⟨r3, b3, e3, w0, w1⟩ := take_h b2 [o9] (m := 4) (by decide) (by decide)
  obtain ⟨r4, b4, e4, y0, y1⟩ := take_h b3 [o9] (m := 6) (by decide) (by decide)
  obtain ⟨far, ef, -⟩ := pick_int (l := [-1, 16, 17 + r1, -2 - r2]) (h := [b3.v, o9]) w0 (by simpa using w1)
  unfold F_law_bent_face B_law_bent_face
  walk_at "ev"
  rw [o_pow (by decide), show (10 : Int) ^ Int.toNat 20 = 100000000000000000000 from by decide]
  walk_at "ev"
  rw [e1]
  walk_at "ev"
  rw [e2]
  walk_at "ev"
  simp only [List.any_cons, List.any_nil, VV.isObj, Bool.or_false, Bool.false_eq_true, false_or]
  rw [if_neg (by decide)]
  walk_at "ev"
  rw [e3]
  walk_at "ev"
  have ef' : opIx [b3.v, o9] (.lst [.int (-1), .int 16, .int (17 + r1), .int (-2 - r2)]) (.int r3) = some (.int far) := ef
  rw [ef']
  walk_at "ev"
  have s1 : ∀ h : VH, opSl h (tupI f) none (some 1) = some (tupI (f.take 1)) := fun h => by
    show opSl h (.tup _) _ _ = _
    rw [J.sl_tup]
    by_cases c : 1 ≤ f.length
    · rw [show (1 : Int) = ((1 : Nat) : Int) from rfl, cut_fore (by rw [List.length_map]; exact c), ← List.map_take]; rfl
    · have : f = [] := List.eq_nil_of_length_eq_zero (by omega)
      subst this; rfl
  have s3 : ∀ h : VH, opSl h (tupI f) none (some 3) = some (tupI (f.take 3)) := fun h => by
    show opSl h (.tup _) _ _ = _
    rw [J.sl_tup]
    by_cases c : 3 ≤ f.length
    · rw [show (3 : Int) = ((3 : Nat) : Int) from rfl, cut_fore (by rw [List.length_map]; exact c), ← List.map_take]; rfl
    · match f, c with
      | [], _ => rfl
      | [a], _ => rfl
      | [a, b], _ => rfl
      | a :: b :: d :: r, c => exact absurd (by simp) c
  have ad : ∀ (a b : List Int) (h : VH), a.length + b.length ≤ 1000 → opAdd h (tupI a) (tupI b) = some (tupI (a ++ b)) := fun a b h hl => by
    show opAdd h (.tup _) (.tup _) = _
    rw [J.add_tup (by rw [List.length_map, List.length_map]; omega), ← List.map_append]; rfl
  have t1 : (f.take 1).length ≤ 1 := by rw [List.length_take]; omega
  have t3 : (f.take 3).length ≤ 3 := by rw [List.length_take]; omega
  obtain ⟨g, eg, hg⟩ := pick_tup (l := [[], [0, 1, 2, 3, 4], f.take 1 ++ f, f.take 3 ++ [far], [far], f]) (h := [b4.v, o9]) y0 (by simpa using y1)
  have eg' : opIx [b4.v, o9] (.lst [.tup [], .tup [.int 0, .int 1, .int 2, .int 3, .int 4], tupI (f.take 1 ++ f), tupI (f.take 3 ++ [far]), .tup [.int far], tupI f]) (.int r4) = some (tupI g) := eg
  have nt : ∀ a : List Int, (tupI a).isObj = false := fun _ => rfl
  have nu : ∀ a : List VV, (VV.tup a).isObj = false := fun _ => rfl
  repeat (rw [if_neg (by simp [VV.isObj, SZ])]; walk_at "ev")
  simp only [s1]
  walk_at "ev"
  rw [ad _ _ _ (by omega)]
  walk_at "ev"
  simp only [s3]
  walk_at "ev"
  repeat (rw [if_neg (by simp [VV.isObj, SZ])]; walk_at "ev")
  rw [show VV.tup [VV.int far] = tupI [far] from rfl, ad _ _ _ (by simp; omega)]
  walk_at "ev"
  repeat (rw [if_neg (by refine fun z => z.elim (fun z => ?_) (fun z => absurd z (by decide)); simp only [List.any_cons, List.any_nil, nt, nu, Bool.or_false, Bool.or_self] at z; cases z)]; walk_at "ev")
  rw [e4]
  walk_at "ev"
  rw [eg']
  walk_at "ev"
  rw [fin_ret (n := 2) rfl]
  refine ⟨g, b4, rfl, ?_⟩
  simp only [List.mem_cons, List.not_mem_nil, or_false] at hg
  rcases hg with rfl | rfl | rfl | rfl | rfl | rfl
  · simp
  · simp; omega
  · rw [List.length_append]; omega
  · rw [List.length_append]; simp; omega
  · simp
  · omega
/-! the law's lists -/
def PI : List (Nat × Nat) := (List.range 120).map fun k => (k % 15, (k + 1) % 16)
def pairF (far : List Int) (q : Nat × Nat) : List Int := [far.getD q.1 0, far.getD q.2 0]
theorem zip_pi {h : VH} : prs (List.replicate (Int.toNat 8) (rngV 0 (Int.toNat 15))).flatten (((List.range 120).map fun k : Nat => VV.int (((k + 1) % 16 : Nat) : Int))) = PI.map fun q => VV.tup [.int (q.1 : Int), .int (q.2 : Int)] := by
  kernel_rfl
def S16 : List Int := [0, 1, 2, 3, 4, 5, 6, 7, 8, 9, 10, 11, 12, 13, 14, 15]
theorem mem_S16 {x : Int} (h : 0 ≤ x ∧ x ≤ 15) : x ∈ S16 := by
  have : x = 0 ∨ x = 1 ∨ x = 2 ∨ x = 3 ∨ x = 4 ∨ x = 5 ∨ x = 6 ∨ x = 7 ∨ x = 8 ∨ x = 9 ∨ x = 10 ∨ x = 11 ∨ x = 12 ∨ x = 13 ∨ x = 14 ∨ x = 15 := by omega
  rcases this with rfl | rfl | rfl | rfl | rfl | rfl | rfl | rfl | rfl | rfl | rfl | rfl | rfl | rfl | rfl | rfl <;> decide
structure Good (fs : List (List Int)) : Prop where
  le : ∀ f ∈ fs, f.length ≤ 10
  len : fs.length ≤ 130
  few : (∀ f ∈ fs, Pts f) → (parts fs).eraseDups.length < 306
theorem dups_le {l D : List (List Int)} (h : ∀ x ∈ l, x ∈ D) : l.eraseDups.length ≤ D.length := by
  rw [← dd_len]
  have : ∀ (l D : List (List Int)), l.Nodup → (∀ x ∈ l, x ∈ D) → l.length ≤ D.length := by
    intro l
    induction l with
    | nil => intro D _ _; exact Nat.zero_le _
    | cons x l ih =>
      intro D hn hs
      obtain ⟨h1, h2⟩ := List.nodup_cons.mp hn
      have hx := hs x List.mem_cons_self
      have := ih (D.erase x) h2 fun y hy => (List.mem_erase_of_ne (fun e => h1 (by rw [← e]; exact hy))).mpr (hs y (List.mem_cons_of_mem _ hy))
      rw [List.length_erase_of_mem hx] at this
      have := List.length_pos_of_mem hx
      rw [List.length_cons]; omega
  exact this _ _ (dd_nodup l) fun x hx => h x (mem_dd.mp hx)
theorem good_few {fs : List (List Int)} (h4 : ∀ f ∈ fs, f.length ≤ 10) (hl : fs.length ≤ 20) : Good fs := ⟨h4, by omega, fun hp => by
  have q := parts_le (fs := fs) fun f hf => (hp f hf).le
  have := dups_le (l := parts fs) (D := parts fs) fun x hx => hx
  omega⟩
theorem good_pairs {fs : List (List Int)} (h2 : ∀ f ∈ fs, f.length = 2) (hl : fs.length ≤ 120) (hr : ∀ f ∈ fs, ∀ x ∈ f, 0 ≤ x ∧ x ≤ 15) : Good fs := ⟨fun f hf => by rw [h2 f hf]; decide, by omega, fun hp => by
  have q := dups_le (l := parts fs) (D := (S16.map fun x => [x]) ++ fs.map isort) fun s hs => by
    obtain ⟨f, hf, hs, hne⟩ := mem_parts.mp hs
    have l2 : (isort f).length = 2 := by rw [isort_len, h2 f hf]
    have ls := hs.length_le
    have lp := List.length_pos_iff.mpr hne
    by_cases c : s.length = 2
    · exact List.mem_append_right _ (List.mem_map.mpr ⟨f, hf, (hs.eq_of_length (by omega)).symm⟩)
    · match s, hs, lp, c, ls with
      | [x], hs, _, _, _ => exact List.mem_append_left _ (List.mem_map.mpr ⟨x, mem_S16 (hr f hf x ((isort_perm f).mem_iff.mp (hs.subset List.mem_cons_self))), rfl⟩)
      | [x, y], _, _, c, _ => exact absurd rfl c
      | x :: y :: z :: r, _, _, _, ls => rw [l2] at ls; simp at ls
  rw [List.length_append, List.length_map, List.length_map] at q
  have : S16.length = 16 := rfl
  omega⟩
/-! what is asked of the faces that were drawn -/
/-- the tops: a root, frozen or not, or a value -/
def TopsAt (fs : List (List Int)) (v : VV) (o9 : VO) : Prop := (v = .obj 1 ∧ o9 = .fl (fs.map tupI)) ∨ (v = .lst (fs.map tupI) ∧ ∃ xs : List (List Int), o9 = .fl (xs.map tupI))
section
variable {fs : List (List Int)} {v : VV} {o9 : VO} {b : Bx}
theorem TopsAt.len (T : TopsAt fs v o9) : cLen [b.v, o9] [v] = some (.int (fs.length : Int)) := by
  rcases T with ⟨rfl, rfl⟩ | ⟨rfl, -⟩
  · rw [← List.length_map (f := tupI)]; rfl
  · rw [len_lst, List.length_map]
theorem TopsAt.at (T : TopsAt fs v o9) {k : Nat} {f : List Int} (e : fs[k]? = some f) : opIx [b.v, o9] v (.int (k : Int)) = some (tupI f) := by
  have q : atI (fs.map tupI) (k : Int) = some (tupI f) := atI_in (by rw [List.getElem?_map, e]; rfl)
  rcases T with ⟨rfl, rfl⟩ | ⟨rfl, -⟩
  · exact q
  · rw [x_lst]; exact q
theorem TopsAt.frz (T : TopsAt fs v o9) : ∃ o9', frzR v [b.v, o9] = .ok (.lst (fs.map tupI)) [b.v, o9'] ∧ lowO 2 o9' = true ∧ frzR v [b.v, o9'] = .ok (.lst (fs.map tupI)) [b.v, o9'] := by
  rcases T with ⟨rfl, rfl⟩ | ⟨rfl, xs, rfl⟩
  · exact ⟨.fzn (.lst (fs.map tupI)), rfl, rfl, rfl⟩
  · exact ⟨_, frzR_lst, rfl, frzR_lst⟩
end
def badL (fs : List (List Int)) : List Nat := (List.range fs.length).filter fun k => !isFaceB (fs.getD k [])
theorem eq_badface {n : Int} {h : VH} : opEq h (.tup [.str "BadFace", .int n]) (.tup [.str "BadFace", .int n]) = some (.bl true) := by
  show (eqD _ _).map _ = _
  have td : toD (.tup [.str "BadFace", .int n]) = .tuple [.str "BadFace", .int n] := by rw [toD, toDs, toDs, toDs, toD, toD]
  have di : isD (.tup [.str "BadFace", .int n]) = true := by rw [isD, isDs, isDs, isDs, isD, isD]; rfl
  have sh : SeqAt.shaped (toD (.tup [.str "BadFace", .int n])) = true := by
    rw [td]
    unfold SeqAt.shaped
    have hw : PyData.strOk "BadFace" = true := by kernel_rfl
    simp only [PyData.canLay0, PyData.canLayAll0, PyData.depth, PyData.depthAll, hw]
    rfl
  unfold eqD
  rw [td] at sh
  simp only [di, sh, and_self, if_true, td, PyData.eqv, PyData.eqvAll, decide_true, Bool.and_self, beq_self_eq_true, Option.map_some]
theorem eq_full {h : VH} : opEq h (.tup [.str "Full", .int (-1)]) (.tup [.str "Full", .int (-1)]) = some (.bl true) := by kernel_rfl
/-! the law's end -/
theorem ne_nilI {l : List Int} {h : VH} : opNe h (.lst (l.map VV.int)) (.lst []) = some (.bl (!decide (l = []))) := by
  have := eq_ints (h := h) (l := l) (m := [])
  unfold opEq at this
  unfold opNe
  obtain ⟨b, e1, e2⟩ := Option.map_eq_some_iff.mp this
  rw [List.map_nil] at e1
  rw [e1]
  cases e2
  rfl
def okR (r : SR) : Prop := ∃ h', r = .ret (.bl true) h'
theorem seqQ {A B : SF} {ρ : VSt} {h : VH} {P : VSt → VH → Prop} {R : SR → Prop} (e : ∃ ρ1 h1, A ρ h = .nx ρ1 h1 ∧ P ρ1 h1) (k : ∀ ρ1 h1, P ρ1 h1 → R (B ρ1 h1)) : R (sSeq A B ρ h) := by
  obtain ⟨ρ1, h1, e1, p⟩ := e
  rw [seqN' e1]
  exact k ρ1 h1 p
theorem seqR {A B : SF} {ρ : VSt} {h h1 : VH} {v : VV} (e : A ρ h = .ret v h1) : sSeq A B ρ h = .ret v h1 := by rw [s_seq, e, thn_ret]
section
variable {fs : List (List Int)} {v : VV} {o9 : VO} {b : Bx} {s0 x3 x5 x6 x7 x8 x9 x10 : Option VV}
theorem bad_cut (hb : badL fs ≠ []) : ∃ pre f post, fs = pre ++ f :: post ∧ (∀ g ∈ pre, isFaceB g = true) ∧ isFaceB f = false ∧ ∃ r, badL fs = pre.length :: r := by
  obtain ⟨k, r, e⟩ : ∃ k r, badL fs = k :: r := by
    cases c : badL fs with
    | nil => exact absurd c hb
    | cons k r => exact ⟨k, r, rfl⟩
  have pw : (badL fs).Pairwise (· < ·) := List.Pairwise.filter _ List.pairwise_lt_range
  have mk : k ∈ badL fs := by rw [e]; exact List.mem_cons_self
  have m := List.mem_filter.mp mk
  have kl : k < fs.length := List.mem_range.mp m.1
  have ek : fs.getD k [] = fs[k] := by rw [List.getD_eq_getElem?_getD, List.getElem?_eq_getElem kl]; rfl
  refine ⟨fs.take k, fs[k], fs.drop (k + 1), ?_, fun g hg => ?_, ?_, r, ?_⟩
  · rw [← List.drop_eq_getElem_cons kl, List.take_append_drop]
  · obtain ⟨j, hj, ej⟩ := List.getElem_of_mem hg
    have jk : j < k := by rw [List.length_take] at hj; omega
    have jl : j < fs.length := by omega
    have eg : fs.getD j [] = g := by
      rw [List.getD_eq_getElem?_getD, List.getElem?_eq_getElem jl, ← ej, List.getElem_take]; rfl
    cases c : isFaceB g with
    | true => rfl
    | false =>
      have mj : j ∈ badL fs := List.mem_filter.mpr ⟨List.mem_range.mpr jl, by rw [eg, c]; rfl⟩
      rw [e] at mj pw
      rcases List.mem_cons.mp mj with z | z
      · omega
      · have := (List.pairwise_cons.mp pw).1 j z
        omega
  · have z := m.2
    rw [ek] at z
    simpa using z
  · rw [e, List.length_take, Nat.min_eq_left (by omega)]
theorem face_pts {f : List Int} (h : isFaceB f = true) : Pts f := by
  unfold isFaceB at h
  simp only [Bool.and_eq_true, decide_eq_true_eq, List.all_eq_true] at h
  exact ⟨h.1.2, fun e => by rw [e] at h; exact absurd h.1.1.1 (by decide), h.1.1.2, h.2⟩
theorem rest_eq (G : Good fs) (T : TopsAt fs v o9) : okR ((sSeq (sSet 4 (eLc [7] (iRange1 (eCall cLen (aCons (eVar 2) aNil))) (bNm 7) (tNot (tVal (eFn 1 F_law_is_face [] (aCons (eBin opIx (eVar 2) (eVar 7)) aNil)))) (eVar 7)))
    (sSeq (sIf (tVal (eBin opNe (eVar 4) (eLst aNil))) (sRet (eBin opEq (eRef ["BadFace", "Full"] lm_law_1) (eTup (aCons (eC (.str "BadFace")) (aCons (eBin opIx (eVar 4) (eC (.int 0))) aNil))))) sSkip)
    (sSeq (sSet 5 (eCall cLen (aCons (eFn 1 F_law_closed [] (aCons (eFrzD (eVar 2)) aNil)) aNil)))
    (sSeq (sIf (tVal (eBin opGt (eVar 5) (eC (.int 120)))) (sRet (eBin opEq (eRef ["BadFace", "Full"] lm_law_2) (eTup (aCons (eC (.str "Full")) (aCons (eUn opNeg (eC (.int 1))) aNil))))) sSkip)
    (sRet (eAnd (eBin opEq (eLenOwn "Web" F_Web_len (eMakeZ "Web" 2 F_Web_init [] (aCons (eCall cList (aCons (eFrzD (eVar 2)) aNil)) aNil))) (eVar 5)) (eBin opEq (eLenOwn "Web" F_Web_len (eMakeZ "Web" 2 F_Web_init [] (aCons (eCall cTuple (aCons (eFrzD (eVar 2)) aNil)) aNil))) (eVar 5))))))))
      [s0, some (.obj 0), some v, x3, none, x5, x6, x7, x8, x9, x10] [b.v, o9]) := by
  have lb : (badL fs).length ≤ fs.length := by
    have := List.length_filter_le (fun k => !isFaceB (fs.getD k [])) (List.range fs.length)
    rw [List.length_range] at this
    exact this
  have gl := G.len
  apply seqQ (P := fun ρ1 h1 => ρ1 = [s0, some (.obj 0), some v, x3, some (.lst ((badL fs).map fun k : Nat => VV.int (k : Int))), x5, x6, x7, x8, x9, x10] ∧ h1 = [b.v, o9])
  · refine ⟨_, _, ?_, rfl, rfl⟩
    walk_at "ev"
    rw [T.len]
    walk_at "ev"
    rw [if_pos (by omega)]
    walk_at "ev"
    rw [rng_eq, Int.toNat_natCast, if_neg (by rw [List.length_map, List.length_range]; show ¬ _ > 16777216; omega)]
    simp only [wp, List.set_cons_succ, List.set_cons_zero]
    rw [lc_mapF (b := bNm 7) (e := eVar 7) (fun i : Nat => VV.int (0 + (i : Int))) (fun k => !isFaceB (fs.getD k [])) (fun i : Nat => VV.int (0 + (i : Int))) (ys := List.range fs.length) (fun k hk => ⟨_, rfl, by
      have kl := List.mem_range.mp hk
      have eg : fs[k]? = some (fs.getD k []) := by rw [List.getD_eq_getElem?_getD, List.getElem?_eq_getElem kl]; rfl
      have gle := G.le _ (List.mem_of_getElem? eg)
      simp only [List.set_cons_succ, List.set_cons_zero]
      walk_at "ev"
      rw [Int.zero_add, T.at eg]
      walk_at "ev"
      simp only [law_is_face_eq (f := fs.getD k []) (by omega)]
      walk_at "ev", fun _ => ⟨rfl, rfl⟩⟩), afterL_ok]
    walk_at "ev"
    simp only [Int.zero_add]
    rfl
  rintro _ _ ⟨rfl, rfl⟩
  obtain ⟨o9', f1, f2, f3⟩ := T.frz (b := b)
  have fr : ∀ {w : VV} {n : Int}, opIx [b.v, o9] w (.int n) = opIx [b.v, o9] w (.int n) := rfl
  by_cases hb : badL fs = []
  · have all : ∀ f ∈ fs, isFaceB f = true := fun f hf => by
      cases c : isFaceB f with
      | true => rfl
      | false =>
        obtain ⟨k, kl, ek⟩ := List.getElem_of_mem hf
        have : k ∈ badL fs := List.mem_filter.mpr ⟨List.mem_range.mpr kl, by rw [List.getD_eq_getElem?_getD, List.getElem?_eq_getElem kl, Option.getD_some, ek, c]; rfl⟩
        rw [hb] at this
        cases this
    have pts : ∀ f ∈ fs, Pts f := fun f hf => face_pts (all f hf)
    have few := G.few pts
    have ecl : (clo fs).length = (parts fs).eraseDups.length := parts_clo.symm
    have w := webf_clo pts
    rw [hb]
    apply seqQ (P := fun ρ1 h1 => ρ1 = [s0, some (.obj 0), some v, x3, some (.lst []), x5, x6, x7, x8, x9, x10] ∧ h1 = [b.v, o9])
    · refine ⟨_, _, ?_, rfl, rfl⟩
      walk_at "ev"
      rw [if_neg (fun z => z.elim (fun z => by cases z) fun z => absurd z (by decide))]
      walk_at "ev"
      rw [show opNe [b.v, o9] (.lst []) (.lst []) = some (.bl false) from ne_nilI (l := [])]
      walk_at "ev"
    rintro _ _ ⟨rfl, rfl⟩
    apply seqQ (P := fun ρ1 h1 => ρ1 = [s0, some (.obj 0), some v, x3, some (.lst []), some (.int ((clo fs).length : Int)), x6, x7, x8, x9, x10] ∧ h1 = [b.v, o9'])
    · refine ⟨_, _, ?_, rfl, rfl⟩
      walk_at "ev"
      rw [f1]
      walk_at "ev"
      simp only [closed_eq (fs := fs) (fun f hf => (pts f hf).le) (by omega) few]
      walk_at "ev"
      simp only [len_lst, List.length_map]
      walk_at "ev"
    rintro _ _ ⟨rfl, rfl⟩
    by_cases c : 120 < (clo fs).length
    · obtain ⟨t, e⟩ := web_full_v (o := b.v) (o9 := o9') (v := .lst (fs.map tupI)) (.inl rfl) pts (by omega) (by omega)
      have el : lm_law_2 [s0, some (.obj 0), some v, x3, some (.lst []), some (.int ((clo fs).length : Int)), x6, x7, x8, x9, x10] [b.v, o9'] = .exc "Full" ["at", "word"] [.int (-1), .str "Full"] (b.v :: o9' :: t) := by
        walk_at "ev"
        rw [f3]
        walk_at "ev"
        simp only [list_lst]
        walk_at "ev"
        rw [e]
        rfl
      obtain ⟨hh, er⟩ : ∃ hh, eRef ["BadFace", "Full"] lm_law_2 [s0, some (.obj 0), some v, x3, some (.lst []), some (.int ((clo fs).length : Int)), x6, x7, x8, x9, x10] [b.v, o9'] = .ok (.tup [.str "Full", .int (-1)]) hh := ⟨_, ref_exc el (by decide)⟩
      refine ⟨hh, seqR ?_⟩
      walk_at "ev"
      simp only [decide_eq_true (show (120 : Int) < ((clo fs).length : Int) by omega), reduceIte]
      walk_at "ev"
      rw [er]
      walk_at "ev"
      rw [if_neg (fun z => z.elim (fun z => by cases z) fun z => absurd z (by decide))]
      walk_at "ev"
      rw [eq_full]
      walk_at "ev"
    · have m1 := web_make_v (o := b.v) (o9 := o9') (v := .lst (fs.map tupI)) (.inl rfl) rfl f2 pts (by omega) (by omega)
      have m2 := web_make_v (o := b.v) (o9 := o9') (v := .tup (fs.map tupI)) (.inr rfl) rfl f2 pts (by omega) (by omega)
      apply seqQ (P := fun ρ1 h1 => ρ1 = [s0, some (.obj 0), some v, x3, some (.lst []), some (.int ((clo fs).length : Int)), x6, x7, x8, x9, x10] ∧ h1 = [b.v, o9'])
      · refine ⟨_, _, ?_, rfl, rfl⟩
        walk_at "ev"
        simp only [decide_eq_false (show ¬ (120 : Int) < ((clo fs).length : Int) by omega), Bool.false_eq_true, reduceIte]
        walk_at "ev"
      rintro _ _ ⟨rfl, rfl⟩
      refine ⟨[b.v, o9'], ?_⟩
      walk_at "ev"
      rw [f3]
      walk_at "ev"
      simp only [list_lst]
      walk_at "ev"
      rw [m1]
      walk_at "ev"
      rw [own_len w (by omega)]
      walk_at "ev"
      rw [f3]
      walk_at "ev"
      simp only [tuple_lst]
      walk_at "ev"
      rw [m2]
      walk_at "ev"
      rw [own_len w (by omega)]
      walk_at "ev"
  · obtain ⟨pre, f, post, efs, hp, hf, r, er⟩ := bad_cut hb
    have lf : f.length ≤ 10 := G.le f (by rw [efs]; simp)
    have lp : pre.length ≤ 130 := by
      have := congrArg List.length efs
      rw [List.length_append, List.length_cons] at this
      omega
    obtain ⟨t, e⟩ := web_bad (o := b.v) (o9 := o9') (v := .lst (fs.map tupI)) (pre := pre) (post := post) (f := f) (.inl (by rw [efs])) (fun g hg => face_pts (hp g hg)) (by omega) hf (by omega)
    have el : lm_law_1 [s0, some (.obj 0), some v, x3, some (.lst ((badL fs).map fun k : Nat => VV.int (k : Int))), x5, x6, x7, x8, x9, x10] [b.v, o9] = .exc "BadFace" ["at", "word"] [.int (pre.length : Int), .str "BadFace"] (b.v :: o9' :: t) := by
      walk_at "ev"
      rw [f1]
      walk_at "ev"
      simp only [list_lst]
      walk_at "ev"
      rw [e]
      rfl
    obtain ⟨hh, e2⟩ : ∃ hh, eRef ["BadFace", "Full"] lm_law_1 [s0, some (.obj 0), some v, x3, some (.lst ((badL fs).map fun k : Nat => VV.int (k : Int))), x5, x6, x7, x8, x9, x10] [b.v, o9] = .ok (.tup [.str "BadFace", .int (pre.length : Int)]) hh := ⟨_, ref_exc el (by decide)⟩
    refine ⟨hh, seqR ?_⟩
    have el2 : (badL fs).map (fun k : Nat => VV.int (k : Int)) = ((pre.length : Int) :: r.map fun k : Nat => (k : Int)).map VV.int := by
      rw [er, List.map_cons, List.map_cons, List.map_map]; rfl
    rw [el2] at e2 ⊢
    walk_at "ev"
    rw [if_neg (fun z => z.elim (fun z => by cases z) fun z => absurd z (by decide))]
    walk_at "ev"
    have en : ∀ h : VH, opNe h (.lst (VV.int (pre.length : Int) :: List.map VV.int (r.map fun k : Nat => (k : Int)))) (.lst []) = some (.bl true) := fun h => ne_nilI (l := (pre.length : Int) :: r.map fun k : Nat => (k : Int))
    have ex : ∀ h : VH, opIx h (.lst (VV.int (pre.length : Int) :: List.map VV.int (r.map fun k : Nat => (k : Int)))) (.int 0) = some (.int (pre.length : Int)) := fun h => by rw [x_lst]; exact atI_in (k := 0) rfl
    rw [List.map_cons] at e2
    rw [en]
    walk_at "ev"
    rw [e2]
    walk_at "ev"
    rw [ex]
    walk_at "ev"
    rw [if_neg (fun z => z.elim (fun z => by cases z) fun z => absurd z (by decide))]
    walk_at "ev"
    rw [eq_badface]
    walk_at "ev"
end
/-! the law's beginning -/
theorem setI_top {b : Bx} {fs : List (List Int)} {k : Nat} {g : List Int} (hk : k < fs.length) : setI [b.v, .fl (fs.map tupI)] (.obj 1) (.int (k : Int)) (tupI g) = some [b.v, .fl ((fs.set k g).map tupI)] := by
  have e : setI [b.v, .fl (fs.map tupI)] (.obj 1) (.int (k : Int)) (tupI g) = (match ixN (fs.map tupI).length (k : Int) with
      | some j => if (tupI g).isObj = true then none else some ([b.v, .fl (fs.map tupI)].set 1 (.fl ((fs.map tupI).set j (tupI g))))
      | none => none) := rfl
  have ei : ixN (fs.map tupI).length (k : Int) = some k := by
    unfold ixN
    rw [List.length_map, if_pos (by omega), if_pos (by omega), Int.toNat_natCast]
  rw [e, ei]
  show some [b.v, .fl ((fs.map tupI).set k (tupI g))] = _
  rw [List.map_set]
theorem bend_turn {b : Bx} {fs : List (List Int)} {n : Nat} {s0 : Option VV} {y x7 : Option VV} (h8 : fs.length ≤ 8) (hl : ∀ f ∈ fs, f.length ≤ 5 + n) (hn : n ≤ 10) :
    ∃ (fs' : List (List Int)) (b' : Bx) (x7' : Option VV), lb_law_1 [s0, some (.obj 0), some (.obj 1), y, none, none, none, x7, none, none, none] [b.v, .fl (fs.map tupI)]
      = .nx [s0, some (.obj 0), some (.obj 1), y, none, none, none, x7', none, none, none] [b'.v, .fl (fs'.map tupI)] ∧ fs'.length ≤ 8 ∧ ∀ f ∈ fs', f.length ≤ 5 + (n + 1) := by
  have el : cLen [b.v, .fl (fs.map tupI)] [.obj 1] = some (.int (fs.length : Int)) := by rw [← List.length_map (f := tupI)]; rfl
  by_cases c : fs = []
  · subst c
    refine ⟨[], b, x7, ?_, by simp, by simp⟩
    walk_at "ev"
    rw [show cLen [b.v, .fl []] [.obj 1] = some (.int 0) from rfl]
    walk_at "ev"
    try rfl
  · have hp := List.length_pos_iff.mpr c
    obtain ⟨r, b1, e1, r0, r1⟩ := take_h b [.fl (fs.map tupI)] (m := fs.length) (by omega) (by omega)
    obtain ⟨k, rfl⟩ := Int.eq_ofNat_of_zero_le r0
    have hk : k < fs.length := by omega
    have ek : fs[k]? = some fs[k] := List.getElem?_eq_getElem hk
    obtain ⟨g, b2, e2, lg⟩ := bent_eq (o9 := .fl (fs.map tupI)) rfl b1 (f := fs[k]) (n := 5 + n) (hl _ (List.getElem_mem hk)) (by omega) (by omega)
    refine ⟨fs.set k g, b2, some (.int (k : Int)), ?_, by rw [List.length_set]; exact h8, fun f hf => ?_⟩
    · have ea : opIx [b1.v, .fl (fs.map tupI)] (.obj 1) (.int (k : Int)) = some (tupI fs[k]) := atI_in (xs := fs.map tupI) (by rw [List.getElem?_map, ek]; rfl)
      walk_at "ev"
      rw [el]
      walk_at "ev"
      simp only [decide_eq_true (show (0 : Int) < (fs.length : Int) by omega), reduceIte]
      walk_at "ev"
      rw [el]
      walk_at "ev"
      rw [e1]
      walk_at "ev"
      rw [ea]
      walk_at "ev"
      rw [e2]
      walk_at "ev"
      rw [setI_top hk]
      walk_at "ev"
    · rcases List.mem_or_eq_of_mem_set hf with z | z
      · have := hl f z; omega
      · rw [z]; omega
/-! the two other ways -/
abbrev if4 : SF := (sIf (tVal (eBin opEq (eFn 2 F_law_take [] (aCons (eVar 1) (aCons (eC (.int 4)) aNil))) (eC (.int 0)))) (sSeq (sSet 6 (eFn 2 F_law_points [] (aCons (eVar 1) (aCons (eC (.int 16)) aNil))))
    (sSeq (sSet 2 (eLc [8, 9] (iZip (aCons (eRep (eListRng (eC (.int 15))) (eC (.int 8))) (aCons (eLc [3] (iRange2 (aCons (eC (.int 1)) (aCons (eC (.int 121)) aNil))) (bNm 3) tTrue le_law_1) aNil))) (bTup 2 (bCons (bNm 8) (bCons (bNm 9) bNil))) tTrue le_law_2))
    (sSet 2 (eSl opSl (eLc [10] (iSeq (eFrzD (eVar 2))) (bNm 10) (tVal (eBin opNe (eBin opIx (eVar 10) (eC (.int 0))) (eBin opIx (eVar 10) (eC (.int 1))))) (eVar 10)) oNone (oSome (eBin opAdd (eC (.int 60)) (eFn 2 F_law_take [] (aCons (eVar 1) (aCons (eC (.int 60)) aNil))))))))) sSkip)
abbrev if5 : SF := (sIf (tVal (eBin opEq (eFn 2 F_law_take [] (aCons (eVar 1) (aCons (eC (.int 5)) aNil))) (eC (.int 0)))) (sSeq (sSet 6 (eFn 2 F_law_points [] (aCons (eVar 1) (aCons (eC (.int 16)) aNil))))
    (sSeq (sSet 5 (eFn 2 F_law_take [] (aCons (eVar 1) (aCons (eC (.int 17)) aNil))))
    (sSet 2 (eLc [3] (iRange1 (eVar 5)) (bNm 3) tTrue le_law_3)))) sSkip)
theorem mod16 (k : Nat) (h : VH) : opMod h (.int (k : Int)) (.int 16) = some (.int ((k % 16 : Nat) : Int)) := by
  rw [o_mod (by decide), Int.fmod_eq_emod_of_nonneg _ (by decide)]; rfl
theorem mod16a (k d : Nat) (h : VH) : opMod h (.int ((k : Int) + (d : Int))) (.int 16) = some (.int (((k + d) % 16 : Nat) : Int)) := mod16 (k + d) h
theorem perm_at {ps : List Int} (hl : (ps.length : Int) = 16) {k : Nat} (hk : k < 16) : ps[k]? = some (ps.getD k 0) := by
  rw [List.getD_eq_getElem?_getD, List.getElem?_eq_getElem (show k < ps.length by omega)]; rfl
section
variable {b : Bx} {fs : List (List Int)} {v : VV} {o9 : VO} {s0 x3 x5 x6 x7 : Option VV}
theorem if4_eq (T : TopsAt fs v o9) (G : Good fs) : ∃ (fs' : List (List Int)) (v' : VV) (o9' : VO) (b' : Bx) (x6' : Option VV), if4 [s0, some (.obj 0), some v, x3, none, x5, x6, x7, none, none, none] [b.v, o9]
    = .nx [s0, some (.obj 0), some v', x3, none, x5, x6', x7, none, none, none] [b'.v, o9'] ∧ TopsAt fs' v' o9' ∧ Good fs' := by
  obtain ⟨r, b1, e1, r0, r1⟩ := take_h b [o9] (m := 4) (by decide) (by decide)
  have lo : lowO 2 o9 = true := by rcases T with ⟨-, rfl⟩ | ⟨-, xs, rfl⟩ <;> rfl
  have of : ∃ xs : List (List Int), o9 = .fl (xs.map tupI) := by rcases T with ⟨-, rfl⟩ | ⟨-, xs, rfl⟩ <;> exact ⟨_, rfl⟩
  by_cases c : r = 0
  · obtain ⟨ps, b2, e2, l2, n2, g2⟩ := points_eq_r lo b1 (m := 16) (by decide) (by decide)
    have at_ : ∀ (k : Nat) (h : VH), k < 16 → opIx h (.lst (ps.map VV.int)) (.int (k : Int)) = some (.int (ps.getD k 0)) := fun k h hk => by
      rw [x_lst]
      exact atI_in (by rw [List.getElem?_map, perm_at l2 hk]; rfl)
    obtain ⟨r3, b3, e3, r30, r31⟩ := take_h b2 [o9] (m := 60) (by decide) (by decide)
    let all : List (List Int) := (PI.map (pairF ps)).filter fun f => !decide (f.getD 0 0 = f.getD 1 0)
    have pi_lt : ∀ q ∈ PI, q.1 < 16 ∧ q.2 < 16 := by decide +kernel
    let A : Nat := HT.sIx all.length 0 none
    let B : Nat := HT.sIx all.length all.length (some (60 + r3)) - A
    have hall : all.length ≤ 120 := by
      have q : all.length ≤ (PI.map (pairF ps)).length := List.length_filter_le _ _
      rw [List.length_map] at q
      exact q
    have hm : ∀ f ∈ (all.drop A).take B, f ∈ all := fun f hf => List.mem_of_mem_drop (List.mem_of_mem_take hf)
    have ec : cut (all.map tupI) none (some (60 + r3)) = ((all.drop A).take B).map tupI := by
      unfold cut
      rw [List.length_map, List.map_take, List.map_drop]
    have eR : ∀ (ρ : VSt) (h : VH), eRep (eListRng (eC (.int 15))) (eC (.int 8)) ρ h = .ok (.lst (List.replicate (Int.toNat 8) (rngV 0 (Int.toNat 15))).flatten) h := fun ρ h => by kernel_rfl
    have eI : ∀ (ρ : VSt) (h : VH), iRange2 (aCons (eC (.int 1)) (aCons (eC (.int 121)) aNil)) ρ h = .ok (rngV 1 120) h := fun ρ h => by kernel_rfl
    have eG : ∀ (h : VH), lcGo (bNm 3) tTrue le_law_1 [s0, some (.obj 0), some v, none, none, x5, some (.lst (ps.map VV.int)), x7, none, none, none] (rngV 1 120) h
        = .ok ((List.range 120).map fun k : Nat => VV.int (((k + 1) % 16 : Nat) : Int)) h := fun h => by kernel_rfl
    have ne_int : ∀ (a c : Int) (h : VH), opNe h (.int a) (.int c) = some (.bl (!decide (a = c))) := fun a c h => rfl
    refine ⟨(all.drop A).take B, .lst (((all.drop A).take B).map tupI), o9, b3, some (.lst (ps.map VV.int)), ?_, .inr ⟨rfl, of⟩, good_pairs (fun f hf => by
      obtain ⟨q, _, rfl⟩ := List.mem_map.mp (List.mem_filter.mp (hm f hf)).1
      rfl) (by rw [List.length_take, List.length_drop]; omega) fun f hf x hx => by
      obtain ⟨q, hq, rfl⟩ := List.mem_map.mp (List.mem_filter.mp (hm f hf)).1
      have ql := pi_lt q hq
      have hx : x = ps.getD q.1 0 ∨ x = ps.getD q.2 0 := by simpa [pairF] using hx
      rcases hx with rfl | rfl
      · exact g2 _ (List.mem_of_getElem? (perm_at l2 ql.1))
      · exact g2 _ (List.mem_of_getElem? (perm_at l2 ql.2))⟩
    walk_at "ev"
    rw [e1]
    walk_at "ev"
    simp only [c, decide_true, reduceIte]
    walk_at "ev"
    rw [e2]
    walk_at "ev"
    rw [eR]
    walk_at "ev"
    rw [eI]
    walk_at "ev"
    rw [if_neg (by rw [show (rngV 1 120).length = 120 from by kernel_rfl]; show ¬ 120 > 16777216; omega)]
    simp only [wp, List.set_cons_succ, List.set_cons_zero]
    rw [eG, afterL_ok]
    walk_at "ev"
    rw [zip_pi, if_neg (by rw [List.length_map]; show ¬ 120 > 16777216; omega)]
    try simp only [wp, List.set_cons_succ, List.set_cons_zero]
    rw [lc_map (b := bTup 2 (bCons (bNm 8) (bCons (bNm 9) bNil))) (t := tTrue) (e := le_law_2) (fun q : Nat × Nat => VV.tup [.int (q.1 : Int), .int (q.2 : Int)]) (fun q => tupI (pairF ps q)) (ys := PI) (fun q hq => ⟨_, pat_pair, rfl, by
      have ql := pi_lt q hq
      simp only [List.set_cons_succ, List.set_cons_zero]
      walk_at "ev"
      rw [at_ _ _ ql.1]
      walk_at "ev"
      rw [at_ _ _ ql.2]
      walk_at "ev"
      rw [if_neg (fun z => z.elim (fun z => by cases z) fun z => absurd z (by decide))]
      rfl, rfl⟩), afterL_ok]
    walk_at "ev"
    rw [show PI.map (fun q => tupI (pairF ps q)) = (PI.map (pairF ps)).map tupI by rw [List.map_map]; rfl]
    rw [if_neg (by rw [List.length_map, List.length_map]; show ¬ 120 > 16777216; omega)]
    simp only [wp, List.set_cons_succ, List.set_cons_zero]
    rw [lc_mapF (b := bNm 10) (e := eVar 10) tupI (fun f => !decide (f.getD 0 0 = f.getD 1 0)) tupI (ys := PI.map (pairF ps)) (fun f hf => ⟨_, rfl, by
      obtain ⟨q, _, rfl⟩ := List.mem_map.mp hf
      simp only [List.set_cons_succ, List.set_cons_zero]
      walk_at "ev"
      rw [show ∀ h : VH, opIx h (tupI (pairF ps q)) (.int 0) = some (.int (ps.getD q.1 0)) from fun _ => rfl]
      walk_at "ev"
      rw [show ∀ h : VH, opIx h (tupI (pairF ps q)) (.int 1) = some (.int (ps.getD q.2 0)) from fun _ => rfl]
      walk_at "ev"
      rfl, fun _ => ⟨rfl, rfl⟩⟩), afterL_ok]
    walk_at "ev"
    rw [e3]
    walk_at "ev"
    rw [J.sl_lst]
    walk_at "ev"
    rw [show List.map tupI (List.filter (fun f => !decide (f.getD 0 0 = f.getD 1 0)) (List.map (pairF ps) PI)) = all.map tupI from rfl, ec]
    exact []
  · refine ⟨fs, v, o9, b1, x6, ?_, T, G⟩
    walk_at "ev"
    rw [e1]
    walk_at "ev"
    simp only [decide_eq_false c, Bool.false_eq_true, reduceIte]
    walk_at "ev"
theorem if5_eq (T : TopsAt fs v o9) (G : Good fs) : ∃ (fs' : List (List Int)) (v' : VV) (o9' : VO) (b' : Bx) (x5' x6' : Option VV), if5 [s0, some (.obj 0), some v, x3, none, x5, x6, x7, none, none, none] [b.v, o9]
    = .nx [s0, some (.obj 0), some v', x3, none, x5', x6', x7, none, none, none] [b'.v, o9'] ∧ TopsAt fs' v' o9' ∧ Good fs' := by
  obtain ⟨r, b1, e1, r0, r1⟩ := take_h b [o9] (m := 5) (by decide) (by decide)
  have lo : lowO 2 o9 = true := by rcases T with ⟨-, rfl⟩ | ⟨-, xs, rfl⟩ <;> rfl
  have of : ∃ xs : List (List Int), o9 = .fl (xs.map tupI) := by rcases T with ⟨-, rfl⟩ | ⟨-, xs, rfl⟩ <;> exact ⟨_, rfl⟩
  by_cases c : r = 0
  · obtain ⟨ps, b2, e2, l2, n2, g2⟩ := points_eq_r lo b1 (m := 16) (by decide) (by decide)
    have at_ : ∀ (k : Nat) (h : VH), k < 16 → opIx h (.lst (ps.map VV.int)) (.int (k : Int)) = some (.int (ps.getD k 0)) := fun k h hk => by
      rw [x_lst]
      exact atI_in (by rw [List.getElem?_map, perm_at l2 hk]; rfl)
    obtain ⟨r3, b3, e3, r30, r31⟩ := take_h b2 [o9] (m := 17) (by decide) (by decide)
    let fo : Nat → List Int := fun k => [ps.getD (k % 16) 0, ps.getD ((k + 1) % 16) 0, ps.getD ((k + 3) % 16) 0, ps.getD ((k + 7) % 16) 0]
    refine ⟨(List.range r3.toNat).map fo, .lst (((List.range r3.toNat).map fo).map tupI), o9, b3, some (.int r3), some (.lst (ps.map VV.int)), ?_, .inr ⟨rfl, of⟩, good_few (fun f hf => by
      obtain ⟨k, _, rfl⟩ := List.mem_map.mp hf
      show 4 ≤ 10
      decide) (by rw [List.length_map, List.length_range]; omega)⟩
    walk_at "ev"
    rw [e1]
    walk_at "ev"
    simp only [c, decide_true, reduceIte]
    walk_at "ev"
    rw [e2]
    walk_at "ev"
    rw [e3]
    walk_at "ev"
    rw [if_pos (by omega)]
    walk_at "ev"
    rw [rng_eq, if_neg (by rw [List.length_map, List.length_range]; show ¬ _ > 16777216; omega)]
    simp only [wp, List.set_cons_succ, List.set_cons_zero]
    rw [lc_map (b := bNm 3) (t := tTrue) (e := le_law_3) (fun i : Nat => VV.int (0 + (i : Int))) (fun k : Nat => tupI (fo k)) (ys := List.range r3.toNat) (fun k hk => ⟨_, rfl, rfl, by
      simp only [List.set_cons_succ, List.set_cons_zero, Int.zero_add]
      walk_at "ev"
      rw [mod16]
      walk_at "ev"
      rw [at_ _ _ (Nat.mod_lt _ (by decide))]
      walk_at "ev"
      rw [show (1 : Int) = ((1 : Nat) : Int) from rfl, mod16a]
      walk_at "ev"
      rw [at_ _ _ (Nat.mod_lt _ (by decide))]
      walk_at "ev"
      rw [show (3 : Int) = ((3 : Nat) : Int) from rfl, mod16a]
      walk_at "ev"
      rw [at_ _ _ (Nat.mod_lt _ (by decide))]
      walk_at "ev"
      rw [show (7 : Int) = ((7 : Nat) : Int) from rfl, mod16a]
      walk_at "ev"
      rw [at_ _ _ (Nat.mod_lt _ (by decide))]
      walk_at "ev"
      rw [if_neg (fun z => z.elim (fun z => by cases z) fun z => absurd z (by decide))]
      rfl, rfl⟩), afterL_ok]
    walk_at "ev"
    rw [List.map_map]
    rfl
  · refine ⟨fs, v, o9, b1, x5, x6, ?_, T, G⟩
    walk_at "ev"
    rw [e1]
    walk_at "ev"
    simp only [decide_eq_false c, Bool.false_eq_true, reduceIte]
    walk_at "ev"
end
theorem law_true : ∀ ns : List Int, ns.length ≤ 63 → (∀ z ∈ ns, Builtin.Int.intBits z ≤ 1048576) → ∃ h', F_law [.scr (ns.map VV.int)] [] = .ok (.bl true) h' := by
  intro ns _ _
  obtain ⟨b0, e0⟩ := box_eq ns
  obtain ⟨p, fs, b1, e1, pn, pl, pr, fl, hf⟩ := drawn_topsO_eq b0 (mp := 7) (mt := 8) (big := 3) (by decide) (by decide) (by decide) (by decide) (by decide) (by decide)
  obtain ⟨r, b2, e2, r0, r1⟩ := take_h b1 [.fl (fs.map tupI)] (m := 4) (by decide) (by decide)
  have key : okR (B_law [some (.scr (ns.map VV.int)), none, none, none, none, none, none, none, none, none, none] []) := by
    unfold B_law
    apply seqQ (P := fun ρ1 h1 => ρ1 = [some (.scr (ns.map VV.int)), some (.obj 0), none, none, none, none, none, none, none, none, none] ∧ h1 = [b0.v])
    · refine ⟨_, _, ?_, rfl, rfl⟩
      walk_at "ev"
      rw [e0]
      walk_at "ev"
    rintro _ _ ⟨rfl, rfl⟩
    apply seqQ (P := fun ρ1 h1 => ρ1 = [some (.scr (ns.map VV.int)), some (.obj 0), some (.obj 1), none, none, none, none, none, none, none, none] ∧ h1 = [b1.v, .fl (fs.map tupI)])
    · refine ⟨_, _, ?_, rfl, rfl⟩
      walk_at "ev"
      rw [e1]
      walk_at "ev"
    rintro _ _ ⟨rfl, rfl⟩
    apply seqQ (P := fun ρ1 h1 => ∃ (fs : List (List Int)) (b : Bx) (x3 x7 : Option VV), ρ1 = [some (.scr (ns.map VV.int)), some (.obj 0), some (.obj 1), x3, none, none, none, x7, none, none, none] ∧ h1 = [b.v, .fl (fs.map tupI)] ∧ fs.length ≤ 8 ∧ ∀ f ∈ fs, f.length ≤ 10)
    · obtain ⟨ρ2, h2, e3, fs', b', x3, x7, rfl, rfl, l8, ll⟩ := for_pre (b := bNm 3) (body := lb_law_1) (fun (i : Nat) => VV.int (0 + (i : Int)))
        (fun pre ρ h => ∃ (fs : List (List Int)) (b : Bx) (x3 x7 : Option VV), ρ = [some (.scr (ns.map VV.int)), some (.obj 0), some (.obj 1), x3, none, none, none, x7, none, none, none] ∧ h = [b.v, .fl (fs.map tupI)] ∧ fs.length ≤ 8 ∧ ∀ f ∈ fs, f.length ≤ 5 + pre.length)
        (List.range r.toNat) (ρ := [some (.scr (ns.map VV.int)), some (.obj 0), some (.obj 1), none, none, none, none, none, none, none, none]) (h := [b2.v, .fl (fs.map tupI)]) ⟨fs, b2, none, none, rfl, rfl, by omega, fun f hf' => by have := (hf f hf').le; omega⟩ (by
          rintro pre y post ey ρ h ⟨fs, b, x3, x7, rfl, rfl, l8, ll⟩
          have lp : pre.length ≤ 4 := by
            have := congrArg List.length ey
            rw [List.length_append, List.length_range] at this; omega
          obtain ⟨fs', b', x7', e, k1, k2⟩ := bend_turn (b := b) (s0 := some (.scr (ns.map VV.int))) (y := some (.int (0 + (y : Int)))) (x7 := x7) l8 ll (by omega)
          exact ⟨_, _, _, rfl, e, fs', b', _, x7', rfl, rfl, k1, by rw [List.length_append]; exact k2⟩)
      refine ⟨_, _, ?_, fs', b', x3, x7, rfl, rfl, l8, fun f hf' => by have := ll f hf'; rw [List.length_range] at this; omega⟩
      walk_at "ev"
      rw [e2]
      walk_at "ev"
      rw [if_pos (by omega)]
      walk_at "ev"
      rw [rng_eq]
      exact e3
    rintro _ _ ⟨fs, b, x3, x7, rfl, rfl, l8, ll⟩
    obtain ⟨fs2, v2, o2, b4, x6, e4, T2, G2⟩ := if4_eq (b := b) (fs := fs) (v := .obj 1) (o9 := .fl (fs.map tupI)) (s0 := some (.scr (ns.map VV.int))) (x3 := x3) (x5 := none) (x6 := none) (x7 := x7) (.inl ⟨rfl, rfl⟩) (good_few ll (by omega))
    obtain ⟨fs3, v3, o3, b5, x5, x6', e5, T3, G3⟩ := if5_eq (b := b4) (s0 := some (.scr (ns.map VV.int))) (x3 := x3) (x5 := none) (x6 := x6) (x7 := x7) T2 G2
    apply seqQ (P := fun ρ1 h1 => ρ1 = [some (.scr (ns.map VV.int)), some (.obj 0), some v2, x3, none, none, x6, x7, none, none, none] ∧ h1 = [b4.v, o2])
    · exact ⟨_, _, e4, rfl, rfl⟩
    rintro _ _ ⟨rfl, rfl⟩
    apply seqQ (P := fun ρ1 h1 => ρ1 = [some (.scr (ns.map VV.int)), some (.obj 0), some v3, x3, none, x5, x6', x7, none, none, none] ∧ h1 = [b5.v, o3])
    · exact ⟨_, _, e5, rfl, rfl⟩
    rintro _ _ ⟨rfl, rfl⟩
    exact rest_eq G3 T3
  obtain ⟨h', e⟩ := key
  unfold F_law
  rw [fn_ap]
  show ∃ h', (B_law [some (.scr (ns.map VV.int)), none, none, none, none, none, none, none, none, none, none] []).fin 0 = .ok (.bl true) h'
  rw [e]
  exact ⟨_, rfl⟩
end L
namespace L
open PySem L2 J
structure Blt (K : PySem.W.Frag) (mg : Str → Option Value) : Prop where
  n_ValueError : mg "ValueError" = none
  n_all : mg "all" = none
  n_enumerate : mg "enumerate" = none
  n_isinstance : mg "isinstance" = none
  n_len : mg "len" = none
  n_list : mg "list" = none
  n_min : mg "min" = none
  n_range : mg "range" = none
  n_set : mg "set" = none
  n_sorted : mg "sorted" = none
  n_tuple : mg "tuple" = none
  n_zip : mg "zip" = none
  g_FACES_MOST : ∃ t, mg "FACES_MOST" = some (.int 120 t)
  g_POINTS_MOST : ∃ t, mg "POINTS_MOST" = some (.int 15 t)
  g_SIZE_MOST : ∃ t, mg "SIZE_MOST" = some (.int 3 t)
  f_Web_places : ∀ C, mg "Web" = some (.ref C) → Cls K C ∧ NoAttr K C "places"
  f_Web_table : ∀ C, mg "Web" = some (.ref C) → Cls K C ∧ NoAttr K C "table"
section
variable {P : Program} {w : World} {K : PySem.W.Frag} {mg : Str → Option Value} {base : Heap}
theorem sc_WebError_init : FnScope ["self", "word", "at"] ["self", "word", "at"] (defScope s_WebError_init) := ⟨rfl, rfl, rfl, by decide +kernel, rfl, by decide +kernel, by decide +kernel⟩
theorem we_L {f : Addr} {fd : FuncData} {dvs : List V} {kws : List (Str × V)} (D : Dm K "__init__" "WebError.__init__" s_WebError_init dvs kws f fd) : FnOk P w K mg base (L2N.CX P w) 1 f fd ["self", "word", "at"] (spWE K) := we_fn D.F sc_WebError_init rfl (.inl rfl) (.inl rfl) (.inl rfl)
theorem sc_BadFace_init : FnScope ["self", "at"] ["self", "at"] (defScope s_BadFace_init) := ⟨rfl, rfl, rfl, by decide +kernel, rfl, by decide +kernel, by decide +kernel⟩
theorem ox_BadFace {f fB B : Addr} {fd fdB : FuncData} (D : Dm K "__init__" "BadFace.__init__" s_BadFace_init [.int (-1)] [] f fd) (mW : mg "WebError" = some (.ref B)) (rd : ClX.CRead K B (.type "type")) (cv : PySem.W.findCls K (.ref B) (.type "type") "__init__" = some (.val (.ref fB))) (kB : PySem.W.keepIn K (.ref fB) = true) (FB : FnOk P w K mg base (L2N.CX P w) 1 fB fdB ["self", "word", "at"] (spWE K)) (hbB : Binds K fdB ["self", "word", "at"] []) : FnOk P w K mg base (L2N.CX P w) 2 f fd ["self", "at"] (spOX K "BadFace") :=
  ox_fn D.F sc_BadFace_init rfl (.inl rfl) (.inl rfl) rfl mW rd cv kB FB hbB (fun env => ⟨_, rfl⟩)
theorem sc_Full_init : FnScope ["self", "at"] ["self", "at"] (defScope s_Full_init) := ⟨rfl, rfl, rfl, by decide +kernel, rfl, by decide +kernel, by decide +kernel⟩
theorem ox_Full {f fB B : Addr} {fd fdB : FuncData} (D : Dm K "__init__" "Full.__init__" s_Full_init [.int (-1)] [] f fd) (mW : mg "WebError" = some (.ref B)) (rd : ClX.CRead K B (.type "type")) (cv : PySem.W.findCls K (.ref B) (.type "type") "__init__" = some (.val (.ref fB))) (kB : PySem.W.keepIn K (.ref fB) = true) (FB : FnOk P w K mg base (L2N.CX P w) 1 fB fdB ["self", "word", "at"] (spWE K)) (hbB : Binds K fdB ["self", "word", "at"] []) : FnOk P w K mg base (L2N.CX P w) 2 f fd ["self", "at"] (spOX K "Full") :=
  ox_fn D.F sc_Full_init rfl (.inl rfl) (.inl rfl) rfl mW rd cv kB FB hbB (fun env => ⟨_, rfl⟩)
theorem sc_law_kinds : FnScope ["_law_e", "_law_h", "_law_w", "_law_at"] ["_law_e"] (defScope s_law_kinds) := ⟨rfl, rfl, rfl, by decide +kernel, rfl, by decide +kernel, by decide +kernel⟩
theorem sc_law_refusal : FnScope ["_law_ask", "_law_found", "_law_kinds_here", "_law_e"] ["_law_ask"] (defScope s_law_refusal) := ⟨rfl, rfl, rfl, by decide +kernel, rfl, by decide +kernel, by decide +kernel⟩
theorem kinds_L (B : Blt K mg) {WE f : Addr} {k : Nat} : KindsOk P w K mg base WE k (defBody s_law_kinds) (defScope s_law_kinds) f := by
  intro cdv A outer s H a C dd oe x i R hz hf hd hot hr
  obtain ⟨C0, m0, k0⟩ := R.ks 0 (by decide)
  replace m0 : mg "BadFace" = some (.ref C0) := m0
  obtain ⟨C1, m1, k1⟩ := R.ks 1 (by decide)
  replace m1 : mg "Full" = some (.ref C1) := m1
  obtain ⟨C2, m2, k2⟩ := R.ks 2 (by decide)
  replace m2 : mg "BadSize" = some (.ref C2) := m2
  obtain ⟨C3, m3, k3⟩ := R.ks 3 (by decide)
  replace m3 : mg "BadRow" = some (.ref C3) := m3
  obtain ⟨C4, m4, k4⟩ := R.ks 4 (by decide)
  replace m4 : mg "BadRests" = some (.ref C4) := m4
  obtain ⟨C5, m5, k5⟩ := R.ks 5 (by decide)
  replace m5 : mg "NotShut" = some (.ref C5) := m5
  obtain ⟨C6, m6, k6⟩ := R.ks 6 (by decide)
  replace m6 : mg "BadMap" = some (.ref C6) := m6
  obtain ⟨C7, m7, k7⟩ := R.ks 7 (by decide)
  replace m7 : mg "NotFace" = some (.ref C7) := m7
  obtain ⟨C8, m8, k8⟩ := R.ks 8 (by decide)
  replace m8 : mg "NotNear" = some (.ref C8) := m8
  obtain ⟨C9, m9, k9⟩ := R.ks 9 (by decide)
  replace m9 : mg "NoFace" = some (.ref C9) := m9
  obtain ⟨C10, m10, k10⟩ := R.ks 10 (by decide)
  replace m10 : mg "NotFree" = some (.ref C10) := m10
  obtain ⟨C11, m11, k11⟩ := R.ks 11 (by decide)
  replace m11 : mg "BadName" = some (.ref C11) := m11
  obtain ⟨C12, m12, k12⟩ := R.ks 12 (by decide)
  replace m12 : mg "Taken" = some (.ref C12) := m12
  obtain ⟨C13, m13, k13⟩ := R.ks 13 (by decide)
  replace m13 : mg "NoWeb" = some (.ref C13) := m13
  obtain ⟨C14, m14, k14⟩ := R.ks 14 (by decide)
  replace m14 : mg "NoRow" = some (.ref C14) := m14
  obtain ⟨C15, m15, k15⟩ := R.ks 15 (by decide)
  replace m15 : mg "BadKind" = some (.ref C15) := m15
  obtain ⟨C16, m16, k16⟩ := R.ks 16 (by decide)
  replace m16 : mg "Unlike" = some (.ref C16) := m16
  obtain ⟨C17, m17, k17⟩ := R.ks 17 (by decide)
  replace m17 : mg "Had" = some (.ref C17) := m17
  obtain ⟨C18, m18, k18⟩ := R.ks 18 (by decide)
  replace m18 : mg "NothingLeft" = some (.ref C18) := m18
  obtain ⟨C19, m19, k19⟩ := R.ks 19 (by decide)
  replace m19 : mg "BadText" = some (.ref C19) := m19
  exact (js_cons (js_set (i := 1) sc_law_kinds.nd rfl (by first | exact Or.inl rfl | exact Or.inr rfl) (j_lst (ja_cons (j_isE (i := 0) (List.mem_cons_self ..) R.ec hz hf hd (by intro z; cases z) (by rfl) B.n_isinstance rfl (.inl rfl) (by rfl) m0 k0) (ja_cons (j_isE (i := 0) (List.mem_cons_self ..) R.ec hz hf hd (by intro z; cases z) (by rfl) B.n_isinstance rfl (.inl rfl) (by rfl) m1 k1) (ja_cons (j_isE (i := 0) (List.mem_cons_self ..) R.ec hz hf hd (by intro z; cases z) (by rfl) B.n_isinstance rfl (.inl rfl) (by rfl) m2 k2) (ja_cons (j_isE (i := 0) (List.mem_cons_self ..) R.ec hz hf hd (by intro z; cases z) (by rfl) B.n_isinstance rfl (.inl rfl) (by rfl) m3 k3) ja_nil))))))
      (js_cons (js_set (i := 1) sc_law_kinds.nd rfl (by first | exact Or.inl rfl | exact Or.inr rfl) (j_bin or_add (j_var 1 (pv 1)) (j_lst (ja_cons (j_isE (i := 0) (List.mem_cons_self ..) R.ec hz hf hd (by intro z; cases z) (by rfl) B.n_isinstance rfl (.inl rfl) (by rfl) m4 k4) (ja_cons (j_isE (i := 0) (List.mem_cons_self ..) R.ec hz hf hd (by intro z; cases z) (by rfl) B.n_isinstance rfl (.inl rfl) (by rfl) m5 k5) (ja_cons (j_isE (i := 0) (List.mem_cons_self ..) R.ec hz hf hd (by intro z; cases z) (by rfl) B.n_isinstance rfl (.inl rfl) (by rfl) m6 k6) (ja_cons (j_isE (i := 0) (List.mem_cons_self ..) R.ec hz hf hd (by intro z; cases z) (by rfl) B.n_isinstance rfl (.inl rfl) (by rfl) m7 k7) ja_nil)))))))
      (js_cons (js_set (i := 1) sc_law_kinds.nd rfl (by first | exact Or.inl rfl | exact Or.inr rfl) (j_bin or_add (j_var 1 (pv 1)) (j_lst (ja_cons (j_isE (i := 0) (List.mem_cons_self ..) R.ec hz hf hd (by intro z; cases z) (by rfl) B.n_isinstance rfl (.inl rfl) (by rfl) m8 k8) (ja_cons (j_isE (i := 0) (List.mem_cons_self ..) R.ec hz hf hd (by intro z; cases z) (by rfl) B.n_isinstance rfl (.inl rfl) (by rfl) m9 k9) (ja_cons (j_isE (i := 0) (List.mem_cons_self ..) R.ec hz hf hd (by intro z; cases z) (by rfl) B.n_isinstance rfl (.inl rfl) (by rfl) m10 k10) (ja_cons (j_isE (i := 0) (List.mem_cons_self ..) R.ec hz hf hd (by intro z; cases z) (by rfl) B.n_isinstance rfl (.inl rfl) (by rfl) m11 k11) ja_nil)))))))
      (js_cons (js_set (i := 1) sc_law_kinds.nd rfl (by first | exact Or.inl rfl | exact Or.inr rfl) (j_bin or_add (j_var 1 (pv 1)) (j_lst (ja_cons (j_isE (i := 0) (List.mem_cons_self ..) R.ec hz hf hd (by intro z; cases z) (by rfl) B.n_isinstance rfl (.inl rfl) (by rfl) m12 k12) (ja_cons (j_isE (i := 0) (List.mem_cons_self ..) R.ec hz hf hd (by intro z; cases z) (by rfl) B.n_isinstance rfl (.inl rfl) (by rfl) m13 k13) (ja_cons (j_isE (i := 0) (List.mem_cons_self ..) R.ec hz hf hd (by intro z; cases z) (by rfl) B.n_isinstance rfl (.inl rfl) (by rfl) m14 k14) (ja_cons (j_isE (i := 0) (List.mem_cons_self ..) R.ec hz hf hd (by intro z; cases z) (by rfl) B.n_isinstance rfl (.inl rfl) (by rfl) m15 k15) ja_nil)))))))
      (js_cons (js_set (i := 1) sc_law_kinds.nd rfl (by first | exact Or.inl rfl | exact Or.inr rfl) (j_bin or_add (j_var 1 (pv 1)) (j_lst (ja_cons (j_isE (i := 0) (List.mem_cons_self ..) R.ec hz hf hd (by intro z; cases z) (by rfl) B.n_isinstance rfl (.inl rfl) (by rfl) m16 k16) (ja_cons (j_isE (i := 0) (List.mem_cons_self ..) R.ec hz hf hd (by intro z; cases z) (by rfl) B.n_isinstance rfl (.inl rfl) (by rfl) m17 k17) (ja_cons (j_isE (i := 0) (List.mem_cons_self ..) R.ec hz hf hd (by intro z; cases z) (by rfl) B.n_isinstance rfl (.inl rfl) (by rfl) m18 k18) (ja_cons (j_isE (i := 0) (List.mem_cons_self ..) R.ec hz hf hd (by intro z; cases z) (by rfl) B.n_isinstance rfl (.inl rfl) (by rfl) m19 k19) ja_nil)))))))
      (js_cons (js_set (i := 2) sc_law_kinds.nd rfl (by first | exact Or.inl rfl | exact Or.inr rfl) j_str)
      (js_cons (js_set (i := 2) sc_law_kinds.nd rfl (by first | exact Or.inl rfl | exact Or.inr rfl) (j_split (j_bin or_add (j_var 2 (pv 2)) j_str) j_str))
      (js_one (js_ret (j_lcH ⟨_, hot, List.mem_cons_self ..⟩ sc_law_kinds.nd (ji_range1H (by rfl) B.n_range j_int) (blkOk_by (own := [("_law_at", 3)]) (by kernel_rfl)) (fun _ _ _ _ _ => (pg_name (i := 3) sc_law_kinds.nd rfl (by first | exact Or.inl rfl | exact Or.inr rfl))) (pat_nm 3) (fun _ _ _ _ _ => (jts_one (jt_val (j_ix ir_ix (j_var 1 (pv 1)) (j_var 3 (pv 3)) (fun _ _ => rfl))))) (fun _ _ _ _ _ => (j_ix ir_ix (j_var 2 (pv 2)) (j_var 3 (pv 3)) (fun _ _ => rfl)))))))))))))
theorem okR_L (B : Blt K mg) {WE g0 fk : Addr} {fdg fdk : FuncData} (mw : mg "WebError" = some (.ref WE)) (Dr : Dm K "_law_refusal" "_law_refusal" s_law_refusal [] [] g0 fdg) (hmr : mg "_law_refusal" = some (.ref g0)) (Dk : Dm K "_law_kinds" "_law_kinds" s_law_kinds [] [] fk fdk) (hmk : mg "_law_kinds" = some (.ref fk)) (RX : ∀ x ∈ (["BadFace", "Full"] : List Str), ∃ i C, RefC K mg WE x i C) : OkR P w K mg base ["BadFace", "Full"] 0 :=
  ⟨g0, hmr, Dr.F.kp, fun X hP hw hK hm hb => by
    subst hP hw hK hm hb
    exact fun W fb k params body scope hr hk L hbind hbody pins s1 σ H1 Q g ρ h0 f c' pm2 ctv I1 hf hfn hfr hco rh1 rs pp => ref_run hmr Dr.F sc_law_refusal (Dr.F.bindsN (fun _ _ _ _ _ _ us hl => match us, hl with | [_], _ => rfl)) rfl rfl rfl rfl rfl rfl rfl rfl rfl B.n_isinstance B.n_ValueError mw Dk.F sc_law_kinds hmk (Dk.F.bindsN (fun _ _ _ _ _ _ us hl => match us, hl with | [_], _ => rfl)) (kinds_L B) RX hr hk L hbind hbody I1 hf hfn hfr hco rh1 rs pp⟩
theorem sc_law_box : FnScope ["_law_script", "_law_seed", "_law_cell"] ["_law_script"] (defScope s_law_box) := ⟨rfl, rfl, rfl, by decide +kernel, rfl, by decide +kernel, by decide +kernel⟩
theorem fn_law_box (B : Blt K mg) {f : Addr} {fd : FuncData} (D : Dm K "_law_box" "_law_box" s_law_box [] [] f fd) : FnOk P w K mg base (L2N.CX P w) 1 f fd ["_law_script"] (spF ⟨K, mg⟩ 1 F_law_box) :=
  fnokM_of (k := 0) (N := ["_law_script", "_law_seed", "_law_cell"]) (n := 3) D sc_law_box rfl (by decide) rfl fun cdv A outer s H E hr =>
      (js_cons (js_set (i := 1) sc_law_box.nd rfl (by first | exact Or.inl rfl | exact Or.inr rfl) j_int)
      (js_cons (js_for (passes_of rfl) rfl (ji_seq (j_sl (j_var 0 (pv 0)) jo_none (jo_some j_int))) (pg_name (i := 2) sc_law_box.nd rfl (by first | exact Or.inl rfl | exact Or.inr rfl)) (pat_nm 2) (js_one (js_set (i := 1) sc_law_box.nd rfl (by first | exact Or.inl rfl | exact Or.inr rfl) (j_bin or_mod (j_bin or_add (j_bin or_add (j_bin or_mul (j_var 1 (pv 1)) j_int) (j_var 2 (pv 2))) j_int) j_int))))
      (js_one (js_ret (j_lstO (ja_cons (j_callTy cr_listJ (by rfl) B.n_list (by decide +kernel) (ja_cons (j_sl (j_var 0 (pv 0)) jo_none (jo_some j_int)) ja_nil)) (ja_cons j_int (ja_cons j_int (ja_cons j_int (ja_cons (j_var 1 (pv 1)) ja_nil))))))))))
theorem ok_law_box_L0 (B : Blt K mg) {f : Addr} {fd : FuncData} (D : Dm K "_law_box" "_law_box" s_law_box [] [] f fd) (hm : mg "_law_box" = some (.ref f)) : Ok1 P w K mg base 1 "_law_box" 1 [] F_law_box := ok_of ⟨D.F, hm⟩ (fn_law_box B D) (fun _ _ _ _ _ _ us hl => match us, hl with | [_], _ => rfl)
theorem sc_law_mixed : FnScope ["_law_number", "_law_turn", "_law_one", "_law_two"] ["_law_number", "_law_turn"] (defScope s_law_mixed) := ⟨rfl, rfl, rfl, by decide +kernel, rfl, by decide +kernel, by decide +kernel⟩
theorem fn_law_mixed (B : Blt K mg) {f : Addr} {fd : FuncData} (D : Dm K "_law_mixed" "_law_mixed" s_law_mixed [] [] f fd) : FnOk P w K mg base (L2N.CX P w) 1 f fd ["_law_number", "_law_turn"] (spF ⟨K, mg⟩ 2 F_law_mixed) :=
  fnokM_of (k := 0) (N := ["_law_number", "_law_turn", "_law_one", "_law_two"]) (n := 4) D sc_law_mixed rfl (by decide) rfl fun cdv A outer s H E hr =>
      (js_cons (js_set (i := 2) sc_law_mixed.nd rfl (by first | exact Or.inl rfl | exact Or.inr rfl) (j_bin or_mod (j_bin or_add (j_bin or_add (j_bin or_mul (j_var 0 (pv 0)) j_int) (j_bin or_mul (j_var 1 (pv 1)) j_int)) j_int) j_int))
      (js_cons (js_set (i := 3) sc_law_mixed.nd rfl (by first | exact Or.inl rfl | exact Or.inr rfl) (j_bin or_mod (j_bin or_add (j_bin or_add (j_bin or_mul (j_var 2 (pv 2)) (j_bin or_add (j_bin or_mod (j_var 2 (pv 2)) j_int) j_int)) (j_bin or_mul (j_var 1 (pv 1)) j_int)) (j_bin or_mod (j_var 0 (pv 0)) j_int)) j_int))
      (js_one (js_ret (j_bin or_fdiv (j_var 3 (pv 3)) j_int)))))
theorem ok_law_mixed_L0 (B : Blt K mg) {f : Addr} {fd : FuncData} (D : Dm K "_law_mixed" "_law_mixed" s_law_mixed [] [] f fd) (hm : mg "_law_mixed" = some (.ref f)) : Ok1 P w K mg base 1 "_law_mixed" 2 [] F_law_mixed := ok_of ⟨D.F, hm⟩ (fn_law_mixed B D) (fun _ _ _ _ _ _ us hl => match us, hl with | [_, _], _ => rfl)
theorem sc_law_take : FnScope ["_law_box_here", "_law_many", "_law_cell", "_law_left"] ["_law_box_here", "_law_many"] (defScope s_law_take) := ⟨rfl, rfl, rfl, by decide +kernel, rfl, by decide +kernel, by decide +kernel⟩
theorem fn_law_take (B : Blt K mg) {f : Addr} {fd : FuncData} (D : Dm K "_law_take" "_law_take" s_law_take [] [] f fd) (O_law_mixed_L0 : Ok1 P w K mg base 1 "_law_mixed" 2 [] F_law_mixed) : FnOk P w K mg base (L2N.CX P w) 2 f fd ["_law_box_here", "_law_many"] (spF ⟨K, mg⟩ 2 F_law_take) :=
  fnokM_of (k := 1) (N := ["_law_box_here", "_law_many", "_law_cell", "_law_left"]) (n := 4) D sc_law_take rfl (by decide) rfl fun cdv A outer s H E hr =>
      (js_cons (js_setI (j_bin or_add (j_ix ir_ix (j_var 0 (pv 0)) j_int (fun _ _ => rfl)) j_int) (j_var 0 (pv 0)) j_int)
      (js_cons (js_if (jt_cmp or_gt (j_ix ir_ix (j_var 0 (pv 0)) j_int (fun _ _ => rfl)) j_int (nomark _)) (js_cons (js_set (i := 3) sc_law_take.nd rfl (by first | exact Or.inl rfl | exact Or.inr rfl) (j_ix ir_ix (j_var 0 (pv 0)) j_int (fun _ _ => rfl)))
      (js_cons (js_setI (j_bin or_fdiv (j_var 3 (pv 3)) (j_var 1 (pv 1))) (j_var 0 (pv 0)) j_int)
      (js_one (js_ret (j_bin or_mod (j_var 3 (pv 3)) (j_var 1 (pv 1))))))) js_nil)
      (js_cons (js_if (jt_cmp or_ge (j_ix ir_ix (j_var 0 (pv 0)) j_int (fun _ _ => rfl)) (j_callB cr_len (by rfl) B.n_len (by decide +kernel) (ja_cons (j_ix ir_ix (j_var 0 (pv 0)) j_int (fun _ _ => rfl)) ja_nil)) (nomark _)) (js_one (js_ret (j_bin or_mod (j_callO O_law_mixed_L0 (hr.mono (by decide)) (by rfl) (L2N.takes_of rfl rfl rfl rfl) (ja_cons (j_ix ir_ix (j_var 0 (pv 0)) j_int (fun _ _ => rfl)) (ja_cons (j_ix ir_ix (j_var 0 (pv 0)) j_int (fun _ _ => rfl)) ja_nil))) (j_var 1 (pv 1))))) js_nil)
      (js_cons (js_set (i := 2) sc_law_take.nd rfl (by first | exact Or.inl rfl | exact Or.inr rfl) (j_ix ir_ix (j_ix ir_ix (j_var 0 (pv 0)) j_int (fun _ _ => rfl)) (j_ix ir_ix (j_var 0 (pv 0)) j_int (fun _ _ => rfl)) (fun _ _ => rfl)))
      (js_cons (js_setI (j_bin or_add (j_ix ir_ix (j_var 0 (pv 0)) j_int (fun _ _ => rfl)) j_int) (j_var 0 (pv 0)) j_int)
      (js_cons (js_if (jt_cmp or_lt (j_var 2 (pv 2)) (j_bin or_pow j_int j_int) (nomark _)) (js_one (js_ret (j_bin or_mod (j_callO O_law_mixed_L0 (hr.mono (by decide)) (by rfl) (L2N.takes_of rfl rfl rfl rfl) (ja_cons (j_var 2 (pv 2)) (ja_cons (j_ix ir_ix (j_var 0 (pv 0)) j_int (fun _ _ => rfl)) ja_nil))) (j_var 1 (pv 1))))) js_nil)
      (js_cons (js_setI (j_bin or_fdiv (j_var 2 (pv 2)) (j_var 1 (pv 1))) (j_var 0 (pv 0)) j_int)
      (js_one (js_ret (j_bin or_mod (j_var 2 (pv 2)) (j_var 1 (pv 1))))))))))))
theorem ok_law_take_L0 (B : Blt K mg) {f : Addr} {fd : FuncData} (D : Dm K "_law_take" "_law_take" s_law_take [] [] f fd) (O_law_mixed_L0 : Ok1 P w K mg base 1 "_law_mixed" 2 [] F_law_mixed) (hm : mg "_law_take" = some (.ref f)) : Ok1 P w K mg base 2 "_law_take" 2 [] F_law_take := ok_of ⟨D.F, hm⟩ (fn_law_take B D O_law_mixed_L0) (fun _ _ _ _ _ _ us hl => match us, hl with | [_, _], _ => rfl)
theorem sc_law_points : FnScope ["_law_box_here", "_law_many", "_law_pool", "_law_found", "_law_k"] ["_law_box_here", "_law_many"] (defScope s_law_points) := ⟨rfl, rfl, rfl, by decide +kernel, rfl, by decide +kernel, by decide +kernel⟩
theorem fn_law_points (B : Blt K mg) {f : Addr} {fd : FuncData} (D : Dm K "_law_points" "_law_points" s_law_points [] [] f fd) (O_law_take_L0 : Ok1 P w K mg base 2 "_law_take" 2 [] F_law_take) : FnOk P w K mg base (L2N.CX P w) 3 f fd ["_law_box_here", "_law_many"] (spF ⟨K, mg⟩ 2 F_law_points) :=
  fnokM_of (k := 2) (N := ["_law_box_here", "_law_many", "_law_pool", "_law_found", "_law_k"]) (n := 5) D sc_law_points rfl (by decide) rfl fun cdv A outer s H E hr =>
      (js_cons (js_set (i := 2) sc_law_points.nd rfl (by first | exact Or.inl rfl | exact Or.inr rfl) (j_listRngO rfl (by rfl) B.n_list (by rfl) B.n_range j_int))
      (js_cons (js_set (i := 3) sc_law_points.nd rfl (by first | exact Or.inl rfl | exact Or.inr rfl) (j_lstO ja_nil))
      (js_cons (js_for (passes_of rfl) rfl (ji_range1 (by rfl) B.n_range (j_var 1 (pv 1))) (pg_name (i := 4) sc_law_points.nd rfl (by first | exact Or.inl rfl | exact Or.inr rfl)) (pat_nm 4) (js_one (js_expr (j_app (j_var 3 (pv 3)) (j_pop (j_var 2 (pv 2)) (j_callO O_law_take_L0 (hr.mono (by decide)) (by rfl) (L2N.takes_of rfl rfl rfl rfl) (ja_cons (j_var 0 (pv 0)) (ja_cons (j_callB cr_len (by rfl) B.n_len (by decide +kernel) (ja_cons (j_var 2 (pv 2)) ja_nil)) ja_nil))))))))
      (js_one (js_ret (j_frzD (j_var 3 (pv 3))))))))
theorem ok_law_points_L0 (B : Blt K mg) {f : Addr} {fd : FuncData} (D : Dm K "_law_points" "_law_points" s_law_points [] [] f fd) (O_law_take_L0 : Ok1 P w K mg base 2 "_law_take" 2 [] F_law_take) (hm : mg "_law_points" = some (.ref f)) : Ok1 P w K mg base 3 "_law_points" 2 [] F_law_points := ok_of ⟨D.F, hm⟩ (fn_law_points B D O_law_take_L0) (fun _ _ _ _ _ _ us hl => match us, hl with | [_, _], _ => rfl)
theorem sc_law_drawn_face : FnScope ["_law_box_here", "_law_points_here", "_law_biggest", "_law_some", "_law_face", "_law_k"] ["_law_box_here", "_law_points_here", "_law_biggest"] (defScope s_law_drawn_face) := ⟨rfl, rfl, rfl, by decide +kernel, rfl, by decide +kernel, by decide +kernel⟩
theorem fn_law_drawn_face (B : Blt K mg) {f : Addr} {fd : FuncData} (D : Dm K "_law_drawn_face" "_law_drawn_face" s_law_drawn_face [] [] f fd) (O_law_take_L0 : Ok1 P w K mg base 2 "_law_take" 2 [] F_law_take) : FnOk P w K mg base (L2N.CX P w) 3 f fd ["_law_box_here", "_law_points_here", "_law_biggest"] (spF ⟨K, mg⟩ 3 F_law_drawn_face) :=
  fnokM_of (k := 2) (N := ["_law_box_here", "_law_points_here", "_law_biggest", "_law_some", "_law_face", "_law_k"]) (n := 6) D sc_law_drawn_face rfl (by decide) rfl fun cdv A outer s H E hr =>
      (js_cons (js_set (i := 3) sc_law_drawn_face.nd rfl (by first | exact Or.inl rfl | exact Or.inr rfl) (j_callTyO cr_listO (by rfl) B.n_list (by decide +kernel) (ja_cons (j_var 1 (pv 1)) ja_nil)))
      (js_cons (js_set (i := 4) sc_law_drawn_face.nd rfl (by first | exact Or.inl rfl | exact Or.inr rfl) (j_lstO ja_nil))
      (js_cons (js_for (passes_of rfl) rfl (ji_range1 (by rfl) B.n_range (j_callB (cr_minJ rfl) (by rfl) B.n_min (by decide +kernel) (ja_cons (j_callB cr_len (by rfl) B.n_len (by decide +kernel) (ja_cons (j_var 3 (pv 3)) ja_nil)) (ja_cons (j_bin or_add j_int (j_callO O_law_take_L0 (hr.mono (by decide)) (by rfl) (L2N.takes_of rfl rfl rfl rfl) (ja_cons (j_var 0 (pv 0)) (ja_cons (j_bin or_add (j_var 2 (pv 2)) j_int) ja_nil)))) ja_nil)))) (pg_name (i := 5) sc_law_drawn_face.nd rfl (by first | exact Or.inl rfl | exact Or.inr rfl)) (pat_nm 5) (js_one (js_expr (j_app (j_var 4 (pv 4)) (j_pop (j_var 3 (pv 3)) (j_callO O_law_take_L0 (hr.mono (by decide)) (by rfl) (L2N.takes_of rfl rfl rfl rfl) (ja_cons (j_var 0 (pv 0)) (ja_cons (j_callB cr_len (by rfl) B.n_len (by decide +kernel) (ja_cons (j_var 3 (pv 3)) ja_nil)) ja_nil))))))))
      (js_one (js_ret (j_callTy cr_tupleJ (by rfl) B.n_tuple (by decide +kernel) (ja_cons (j_frzD (j_var 4 (pv 4))) ja_nil)))))))
theorem ok_law_drawn_face_L0 (B : Blt K mg) {f : Addr} {fd : FuncData} (D : Dm K "_law_drawn_face" "_law_drawn_face" s_law_drawn_face [] [] f fd) (O_law_take_L0 : Ok1 P w K mg base 2 "_law_take" 2 [] F_law_take) (hm : mg "_law_drawn_face" = some (.ref f)) : Ok1 P w K mg base 3 "_law_drawn_face" 3 [] F_law_drawn_face := ok_of ⟨D.F, hm⟩ (fn_law_drawn_face B D O_law_take_L0) (fun _ _ _ _ _ _ us hl => match us, hl with | [_, _, _], _ => rfl)
theorem sc_law_drawn_tops : FnScope ["_law_box_here", "_law_most_points", "_law_most_tops", "_law_biggest", "_law_points_here", "_law_k"] ["_law_box_here", "_law_most_points", "_law_most_tops", "_law_biggest"] (defScope s_law_drawn_tops) := ⟨rfl, rfl, rfl, by decide +kernel, rfl, by decide +kernel, by decide +kernel⟩
theorem fn_law_drawn_tops (B : Blt K mg) {f : Addr} {fd : FuncData} (D : Dm K "_law_drawn_tops" "_law_drawn_tops" s_law_drawn_tops [] [] f fd) (O_law_take_L0 : Ok1 P w K mg base 2 "_law_take" 2 [] F_law_take) (O_law_points_L0 : Ok1 P w K mg base 3 "_law_points" 2 [] F_law_points) (O_law_drawn_face_L0 : Ok1 P w K mg base 3 "_law_drawn_face" 3 [] F_law_drawn_face) : FnOk P w K mg base (L2N.CX P w) 4 f fd ["_law_box_here", "_law_most_points", "_law_most_tops", "_law_biggest"] (spF ⟨K, mg⟩ 4 F_law_drawn_tops) :=
  fnokM_of (k := 3) (N := ["_law_box_here", "_law_most_points", "_law_most_tops", "_law_biggest", "_law_points_here", "_law_k"]) (n := 6) D sc_law_drawn_tops rfl (by decide) rfl fun cdv A outer s H E hr =>
      (js_cons (js_set (i := 4) sc_law_drawn_tops.nd rfl (by first | exact Or.inl rfl | exact Or.inr rfl) (j_callO O_law_points_L0 (hr.mono (by decide)) (by rfl) (L2N.takes_of rfl rfl rfl rfl) (ja_cons (j_var 0 (pv 0)) (ja_cons (j_bin or_add j_int (j_callO O_law_take_L0 (hr.mono (by decide)) (by rfl) (L2N.takes_of rfl rfl rfl rfl) (ja_cons (j_var 0 (pv 0)) (ja_cons (j_var 1 (pv 1)) ja_nil)))) ja_nil))))
      (js_one (js_ret (j_lcO rfl sc_law_drawn_tops.nd (ji_range1 (by rfl) B.n_range (j_callO O_law_take_L0 (hr.mono (by decide)) (by rfl) (L2N.takes_of rfl rfl rfl rfl) (ja_cons (j_var 0 (pv 0)) (ja_cons (j_bin or_add (j_var 2 (pv 2)) j_int) ja_nil)))) (blkOk_by (own := [("_law_k", 5)]) (by kernel_rfl)) (fun _ _ _ _ _ => (pg_name (i := 5) sc_law_drawn_tops.nd rfl (by first | exact Or.inl rfl | exact Or.inr rfl))) (pat_nm 5) (fun _ _ _ _ _ => jts_nil) (fun _ _ _ _ _ => (j_callO O_law_drawn_face_L0 (hr.mono (by decide)) (by rfl) takesN0 (ja_cons (j_var 0 (pv 0)) (ja_cons (j_var 4 (pv 4)) (ja_cons (j_var 3 (pv 3)) ja_nil)))))))))
theorem ok_law_drawn_tops_L0 (B : Blt K mg) {f : Addr} {fd : FuncData} (D : Dm K "_law_drawn_tops" "_law_drawn_tops" s_law_drawn_tops [] [] f fd) (O_law_take_L0 : Ok1 P w K mg base 2 "_law_take" 2 [] F_law_take) (O_law_points_L0 : Ok1 P w K mg base 3 "_law_points" 2 [] F_law_points) (O_law_drawn_face_L0 : Ok1 P w K mg base 3 "_law_drawn_face" 3 [] F_law_drawn_face) (hm : mg "_law_drawn_tops" = some (.ref f)) : Ok1 P w K mg base 4 "_law_drawn_tops" 4 [] F_law_drawn_tops := ok_of ⟨D.F, hm⟩ (fn_law_drawn_tops B D O_law_take_L0 O_law_points_L0 O_law_drawn_face_L0) (fun _ _ _ _ _ _ us hl => match us, hl with | [_, _, _, _], _ => rfl)
theorem sc_law_bent_face : FnScope ["_law_box_here", "_law_face", "_law_far"] ["_law_box_here", "_law_face"] (defScope s_law_bent_face) := ⟨rfl, rfl, rfl, by decide +kernel, rfl, by decide +kernel, by decide +kernel⟩
theorem fn_law_bent_face (B : Blt K mg) {f : Addr} {fd : FuncData} (D : Dm K "_law_bent_face" "_law_bent_face" s_law_bent_face [] [] f fd) (O_law_take_L0 : Ok1 P w K mg base 2 "_law_take" 2 [] F_law_take) : FnOk P w K mg base (L2N.CX P w) 3 f fd ["_law_box_here", "_law_face"] (spF ⟨K, mg⟩ 2 F_law_bent_face) :=
  fnokM_of (k := 2) (N := ["_law_box_here", "_law_face", "_law_far"]) (n := 3) D sc_law_bent_face rfl (by decide) rfl fun cdv A outer s H E hr =>
      (js_cons (js_set (i := 2) sc_law_bent_face.nd rfl (by first | exact Or.inl rfl | exact Or.inr rfl) (j_ix ir_ix (j_lst (ja_cons (j_un ur_neg j_int) (ja_cons j_int (ja_cons (j_bin or_add j_int (j_callO O_law_take_L0 (hr.mono (by decide)) (by rfl) (L2N.takes_of rfl rfl rfl rfl) (ja_cons (j_var 0 (pv 0)) (ja_cons (j_bin or_pow j_int j_int) ja_nil)))) (ja_cons (j_bin or_sub (j_un ur_neg j_int) (j_callO O_law_take_L0 (hr.mono (by decide)) (by rfl) (L2N.takes_of rfl rfl rfl rfl) (ja_cons (j_var 0 (pv 0)) (ja_cons j_int ja_nil)))) ja_nil))))) (j_callO O_law_take_L0 (hr.mono (by decide)) (by rfl) (L2N.takes_of rfl rfl rfl rfl) (ja_cons (j_var 0 (pv 0)) (ja_cons j_int ja_nil))) (fun _ _ => rfl)))
      (js_one (js_ret (j_ix ir_ix (j_lst (ja_cons (j_tup ja_nil) (ja_cons (j_tup (ja_cons j_int (ja_cons j_int (ja_cons j_int (ja_cons j_int (ja_cons j_int ja_nil)))))) (ja_cons (j_bin or_add (j_sl (j_var 1 (pv 1)) jo_none (jo_some j_int)) (j_var 1 (pv 1))) (ja_cons (j_bin or_add (j_sl (j_var 1 (pv 1)) jo_none (jo_some j_int)) (j_tup (ja_cons (j_var 2 (pv 2)) ja_nil))) (ja_cons (j_tup (ja_cons (j_var 2 (pv 2)) ja_nil)) (ja_cons (j_var 1 (pv 1)) ja_nil))))))) (j_callO O_law_take_L0 (hr.mono (by decide)) (by rfl) (L2N.takes_of rfl rfl rfl rfl) (ja_cons (j_var 0 (pv 0)) (ja_cons j_int ja_nil))) (fun _ _ => rfl)))))
theorem ok_law_bent_face_L0 (B : Blt K mg) {f : Addr} {fd : FuncData} (D : Dm K "_law_bent_face" "_law_bent_face" s_law_bent_face [] [] f fd) (O_law_take_L0 : Ok1 P w K mg base 2 "_law_take" 2 [] F_law_take) (hm : mg "_law_bent_face" = some (.ref f)) : Ok1 P w K mg base 3 "_law_bent_face" 2 [] F_law_bent_face := ok_of ⟨D.F, hm⟩ (fn_law_bent_face B D O_law_take_L0) (fun _ _ _ _ _ _ us hl => match us, hl with | [_, _], _ => rfl)
theorem sc_law_is_face : FnScope ["_law_face", "_law_point"] ["_law_face"] (defScope s_law_is_face) := ⟨rfl, rfl, rfl, by decide +kernel, rfl, by decide +kernel, by decide +kernel⟩
theorem fn_law_is_face (B : Blt K mg) {f : Addr} {fd : FuncData} (D : Dm K "_law_is_face" "_law_is_face" s_law_is_face [] [] f fd) : FnOk P w K mg base (L2N.CX P w) 1 f fd ["_law_face"] (spF ⟨K, mg⟩ 1 F_law_is_face) :=
  fnokM_of (k := 0) (N := ["_law_face", "_law_point"]) (n := 2) D sc_law_is_face rfl (by decide) rfl fun cdv A outer s H E hr =>
      (js_one (js_ret (j_and (j_chain or_le or_le j_int (j_callB cr_len (by rfl) B.n_len (by decide +kernel) (ja_cons (j_var 0 (pv 0)) ja_nil)) j_int) (j_and (j_cmp (or_eq hr) (j_lenSetT rfl (by rfl) B.n_len (by rfl) B.n_set (j_var 0 (pv 0))) (j_callB cr_len (by rfl) B.n_len (by decide +kernel) (ja_cons (j_var 0 (pv 0)) ja_nil)) (nomark _)) (j_one (j_callB (cr_allJ rfl) (by rfl) B.n_all (by decide +kernel) (ja_cons (j_lc rfl sc_law_is_face.nd (ji_seq (j_var 0 (pv 0))) (blkOk_by (own := [("_law_point", 1)]) (by kernel_rfl)) (fun _ _ _ _ _ => (pg_name (i := 1) sc_law_is_face.nd rfl (by first | exact Or.inl rfl | exact Or.inr rfl))) (pat_nm 1) (fun _ _ _ _ _ => jts_nil) (fun _ _ _ _ _ => (j_chain or_le or_le j_int (j_var 1 (pv 1)) j_int))) ja_nil)))))))
theorem ok_law_is_face_L0 (B : Blt K mg) {f : Addr} {fd : FuncData} (D : Dm K "_law_is_face" "_law_is_face" s_law_is_face [] [] f fd) (hm : mg "_law_is_face" = some (.ref f)) : Ok1 P w K mg base 1 "_law_is_face" 1 [] F_law_is_face := ok_of ⟨D.F, hm⟩ (fn_law_is_face B D) (fun _ _ _ _ _ _ us hl => match us, hl with | [_], _ => rfl)
theorem sc_is_face : FnScope ["face", "point"] ["face"] (defScope s_is_face) := ⟨rfl, rfl, rfl, by decide +kernel, rfl, by decide +kernel, by decide +kernel⟩
theorem fn_is_face (B : Blt K mg) {f : Addr} {fd : FuncData} (D : Dm K "is_face" "is_face" s_is_face [] [] f fd) : FnOk P w K mg base (L2N.CX P w) 1 f fd ["face"] (spF ⟨K, mg⟩ 1 F_is_face) :=
  fnokM_of (k := 0) (N := ["face", "point"]) (n := 2) D sc_is_face rfl (by decide) rfl fun cdv A outer s H E hr =>
      (js_cons (js_if (PW.pt (jw_or (jt_not (jt_chain or_le or_le j_int (j_callB cr_len (by rfl) B.n_len (by decide +kernel) (ja_cons (j_var 0 (pv 0)) ja_nil)) (j_bin or_add (j_globI (by rfl) B.g_SIZE_MOST) j_int))) (jw_or1 (jt_cmp or_lt (j_lenSc rfl sc_is_face.nd (by rfl) B.n_len (ji_seq (j_var 0 (pv 0))) (blkOk_by (own := [("point", 1)]) (by kernel_rfl)) (fun _ _ _ _ _ => (pg_name (i := 1) sc_is_face.nd rfl (by first | exact Or.inl rfl | exact Or.inr rfl))) (pat_nm 1) (fun _ _ _ _ _ => (j_var 1 (pv 1)))) (j_callB cr_len (by rfl) B.n_len (by decide +kernel) (ja_cons (j_var 0 (pv 0)) ja_nil)) (nomark _))))) (js_one (js_ret j_bl)) js_nil)
      (js_one (js_ret (j_callB (cr_allJ rfl) (by rfl) B.n_all (by decide +kernel) (ja_cons (j_lc rfl sc_is_face.nd (ji_seq (j_var 0 (pv 0))) (blkOk_by (own := [("point", 1)]) (by kernel_rfl)) (fun _ _ _ _ _ => (pg_name (i := 1) sc_is_face.nd rfl (by first | exact Or.inl rfl | exact Or.inr rfl))) (pat_nm 1) (fun _ _ _ _ _ => jts_nil) (fun _ _ _ _ _ => (j_chain or_le or_le j_int (j_var 1 (pv 1)) (j_globI (by rfl) B.g_POINTS_MOST)))) ja_nil)))))
theorem ok_is_face_L0 (B : Blt K mg) {f : Addr} {fd : FuncData} (D : Dm K "is_face" "is_face" s_is_face [] [] f fd) (hm : mg "is_face" = some (.ref f)) : Ok1 P w K mg base 1 "is_face" 1 [] F_is_face := ok_of ⟨D.F, hm⟩ (fn_is_face B D) (fun _ _ _ _ _ _ us hl => match us, hl with | [_], _ => rfl)
theorem sc_own_faces : FnScope ["face", "found", "point", "some"] ["face"] (defScope s_own_faces) := ⟨rfl, rfl, rfl, by decide +kernel, rfl, by decide +kernel, by decide +kernel⟩
theorem fn_own_faces (B : Blt K mg) {f : Addr} {fd : FuncData} (D : Dm K "own_faces" "own_faces" s_own_faces [] [] f fd) : FnOk P w K mg base (L2N.CX P w) 1 f fd ["face"] (spF ⟨K, mg⟩ 1 F_own_faces) :=
  fnokM_of (k := 0) (N := ["face", "found", "point", "some"]) (n := 4) D sc_own_faces rfl (by decide) rfl fun cdv A outer s H E hr =>
      (js_cons (js_set (i := 1) sc_own_faces.nd rfl (by first | exact Or.inl rfl | exact Or.inr rfl) (j_lst (ja_cons (j_tup ja_nil) ja_nil)))
      (js_cons (js_for (passes_of rfl) rfl (ji_seq (j_var 0 (pv 0))) (pg_name (i := 2) sc_own_faces.nd rfl (by first | exact Or.inl rfl | exact Or.inr rfl)) (pat_nm 2) (js_one (js_set (i := 1) sc_own_faces.nd rfl (by first | exact Or.inl rfl | exact Or.inr rfl) (j_bin or_add (j_var 1 (pv 1)) (j_lc rfl sc_own_faces.nd (ji_seq (j_var 1 (pv 1))) (blkOk_by (own := [("some", 3)]) (by kernel_rfl)) (fun _ _ _ _ _ => (pg_name (i := 3) sc_own_faces.nd rfl (by first | exact Or.inl rfl | exact Or.inr rfl))) (pat_nm 3) (fun _ _ _ _ _ => jts_nil) (fun _ _ _ _ _ => (j_bin or_add (j_var 3 (pv 3)) (j_tup (ja_cons (j_var 2 (pv 2)) ja_nil)))))))))
      (js_one (js_ret (j_sl (j_var 1 (pv 1)) (jo_some j_int) jo_none)))))
theorem ok_own_faces_L0 (B : Blt K mg) {f : Addr} {fd : FuncData} (D : Dm K "own_faces" "own_faces" s_own_faces [] [] f fd) (hm : mg "own_faces" = some (.ref f)) : Ok1 P w K mg base 1 "own_faces" 1 [] F_own_faces := ok_of ⟨D.F, hm⟩ (fn_own_faces B D) (fun _ _ _ _ _ _ us hl => match us, hl with | [_], _ => rfl)
theorem sc_Web_init : FnScope ["self", "faces", "known", "face", "at", "some", "size", "line"] ["self", "faces"] (defScope s_Web_init) := ⟨rfl, rfl, rfl, by decide +kernel, rfl, by decide +kernel, by decide +kernel⟩
theorem fn_Web_init (B : Blt K mg) {f : Addr} {fd : FuncData} {tp : Addr} (D : Dm K "__init__" "Web.__init__" s_Web_init [.ref tp] [] f fd) (O_is_face_L0 : Ok1 P w K mg base 1 "is_face" 1 [] F_is_face) (O_own_faces_L0 : Ok1 P w K mg base 1 "own_faces" 1 [] F_own_faces) (O_X_BadFace : OkX P w K mg base 2 "BadFace") (O_X_Full : OkX P w K mg base 2 "Full") : FnOk P w K mg base (L2N.CX P w) 4 f fd ["self", "faces"] (spF ⟨K, mg⟩ 2 F_Web_init) :=
  fnokM_of (k := 3) (N := ["self", "faces", "known", "face", "at", "some", "size", "line"]) (n := 8) D sc_Web_init rfl (by decide) rfl fun cdv A outer s H E hr =>
      (js_cons (js_set (i := 2) sc_Web_init.nd rfl (by first | exact Or.inl rfl | exact Or.inr rfl) j_dnew')
      (js_cons (js_for (passes_of rfl) rfl (ji_enumA (by rfl) B.n_enumerate (ja_cons (j_var 1 (pv 1)) ja_nil)) (pg_tup rfl (pgs_cons (pg_name (i := 4) sc_Web_init.nd rfl (by first | exact Or.inl rfl | exact Or.inr rfl)) (pgs_cons (pg_name (i := 3) sc_Web_init.nd rfl (by first | exact Or.inl rfl | exact Or.inr rfl)) pgs_nil))) (pat_tup (pats_cons (pat_nm 4) (pats_cons (pat_nm 3) pats_nil))) (js_cons (js_if (jt_not (jt_val (j_callO O_is_face_L0 (hr.mono (by decide)) (by rfl) (L2N.takes_of rfl rfl rfl rfl) (ja_cons (j_var 3 (pv 3)) ja_nil)))) (js_one (js_raise1 O_X_BadFace (hr.mono (by decide)) rfl (by rfl) (L2N.takes_of rfl rfl rfl rfl) (j_var 4 (pv 4)))) js_nil)
      (js_one (js_for (passes_of rfl) rfl (ji_seq (j_callO O_own_faces_L0 (hr.mono (by decide)) (by rfl) (L2N.takes_of rfl rfl rfl rfl) (ja_cons (j_callTy cr_tupleJ (by rfl) B.n_tuple (by decide +kernel) (ja_cons (j_callB (cr_sortedJ hr.units) (by rfl) B.n_sorted (by decide +kernel) (ja_cons (j_var 3 (pv 3)) ja_nil)) ja_nil)) ja_nil))) (pg_name (i := 5) sc_Web_init.nd rfl (by first | exact Or.inl rfl | exact Or.inr rfl)) (pat_nm 5) (js_one (js_setD hr j_bl (j_var 2 (pv 2)) (j_var 5 (pv 5))))))))
      (js_cons (js_if (jt_cmp or_gt (j_callB cr_lenD (by rfl) B.n_len (by decide +kernel) (ja_cons (j_var 2 (pv 2)) ja_nil)) (j_globI (by rfl) B.g_FACES_MOST) (nomark _)) (js_one (js_raise0 O_X_Full (hr.mono (by decide)) rfl (by rfl) (L2N.takes_of rfl rfl rfl rfl))) js_nil)
      (js_cons (js_fld B.f_Web_table (j_var 0 (pv 0)) (j_lcR rfl sc_Web_init.nd (ji_range1 (by rfl) B.n_range (j_bin or_add (j_globI (by rfl) B.g_SIZE_MOST) j_int)) (blkOk_by (own := [("size", 6)]) (by kernel_rfl)) (fun _ _ _ _ _ => (pg_name (i := 6) sc_Web_init.nd rfl (by first | exact Or.inl rfl | exact Or.inr rfl))) (pat_nm 6) (fun _ _ _ _ _ => jts_nil) (fun _ _ _ _ _ => (j_lstO ja_nil))))
      (js_cons (js_for (passes_of rfl) rfl (ji_seq (j_callB (cr_sortedJ hr.units) (by rfl) B.n_sorted (by decide +kernel) (ja_cons (j_callTy (cr_listD rfl) (by rfl) B.n_list (by decide +kernel) (ja_cons (j_var 2 (pv 2)) ja_nil)) ja_nil))) (pg_name (i := 3) sc_Web_init.nd rfl (by first | exact Or.inl rfl | exact Or.inr rfl)) (pat_nm 3) (js_one (js_expr (j_app (j_ix ir_ix (j_fld B.f_Web_table (j_var 0 (pv 0))) (j_bin or_sub (j_callB cr_len (by rfl) B.n_len (by decide +kernel) (ja_cons (j_var 3 (pv 3)) ja_nil)) j_int) (fun _ _ => rfl)) (j_var 3 (pv 3))))))
      (js_one (js_fld B.f_Web_places (j_var 0 (pv 0)) (j_dc2 hr rfl sc_Web_init.nd (ji_seq (j_frzD (j_fld B.f_Web_table (j_var 0 (pv 0))))) (blkOk_by (own := [("line", 7), ("at", 4), ("face", 3)]) (by kernel_rfl)) (fun _ _ _ _ _ => (pg_name (i := 7) sc_Web_init.nd rfl (by first | exact Or.inl rfl | exact Or.inr rfl))) (pat_nm 7) (by decide) (fun _ _ _ _ _ => (ji_enum (by rfl) B.n_enumerate (ja_cons (j_var 7 (pv 7)) ja_nil))) (fun _ _ _ _ _ => (pg_tup rfl (pgs_cons (pg_name (i := 4) sc_Web_init.nd rfl (by first | exact Or.inl rfl | exact Or.inr rfl)) (pgs_cons (pg_name (i := 3) sc_Web_init.nd rfl (by first | exact Or.inl rfl | exact Or.inr rfl)) pgs_nil)))) (pat_tup (pats_cons (pat_nm 4) (pats_cons (pat_nm 3) pats_nil))) (by decide) (fun _ _ _ _ _ => (j_var 3 (pv 3))) (fun _ _ _ _ _ => (j_var 4 (pv 4)))))))))))
theorem ok_Web_init_C (B : Blt K mg) {f : Addr} {fd : FuncData} {tp : Addr} (D : Dm K "__init__" "Web.__init__" s_Web_init [.ref tp] [] f fd) (O_is_face_L0 : Ok1 P w K mg base 1 "is_face" 1 [] F_is_face) (O_own_faces_L0 : Ok1 P w K mg base 1 "own_faces" 1 [] F_own_faces) (O_X_BadFace : OkX P w K mg base 2 "BadFace") (O_X_Full : OkX P w K mg base 2 "Full") {C : Addr} (T : ClsT K mg "Web" C) (M : Mk K C f) : OkC P w K mg base 4 "Web" 2 [] F_Web_init := okCD_of T M D (fn_Web_init B D O_is_face_L0 O_own_faces_L0 O_X_BadFace O_X_Full) 2 1 (by simp) rfl (fun _ _ _ _ _ _ _ us its h1 h2 => match us, h1, its, h2 with | [_, _], _, [_], _ => ⟨_, rfl, rfl⟩) (fun _ _ => rfl)
theorem sc_law_subs : FnScope ["_law_face", "_law_found", "_law_point", "_law_some"] ["_law_face"] (defScope s_law_subs) := ⟨rfl, rfl, rfl, by decide +kernel, rfl, by decide +kernel, by decide +kernel⟩
theorem fn_law_subs (B : Blt K mg) {f : Addr} {fd : FuncData} (D : Dm K "_law_subs" "_law_subs" s_law_subs [] [] f fd) : FnOk P w K mg base (L2N.CX P w) 1 f fd ["_law_face"] (spF ⟨K, mg⟩ 1 F_law_subs) :=
  fnokM_of (k := 0) (N := ["_law_face", "_law_found", "_law_point", "_law_some"]) (n := 4) D sc_law_subs rfl (by decide) rfl fun cdv A outer s H E hr =>
      (js_cons (js_set (i := 1) sc_law_subs.nd rfl (by first | exact Or.inl rfl | exact Or.inr rfl) (j_lst (ja_cons (j_tup ja_nil) ja_nil)))
      (js_cons (js_for (passes_of rfl) rfl (ji_seq (j_callB (cr_sortedJ hr.units) (by rfl) B.n_sorted (by decide +kernel) (ja_cons (j_var 0 (pv 0)) ja_nil))) (pg_name (i := 2) sc_law_subs.nd rfl (by first | exact Or.inl rfl | exact Or.inr rfl)) (pat_nm 2) (js_one (js_set (i := 1) sc_law_subs.nd rfl (by first | exact Or.inl rfl | exact Or.inr rfl) (j_bin or_add (j_var 1 (pv 1)) (j_lc rfl sc_law_subs.nd (ji_seq (j_var 1 (pv 1))) (blkOk_by (own := [("_law_some", 3)]) (by kernel_rfl)) (fun _ _ _ _ _ => (pg_name (i := 3) sc_law_subs.nd rfl (by first | exact Or.inl rfl | exact Or.inr rfl))) (pat_nm 3) (fun _ _ _ _ _ => jts_nil) (fun _ _ _ _ _ => (j_bin or_add (j_var 3 (pv 3)) (j_tup (ja_cons (j_var 2 (pv 2)) ja_nil)))))))))
      (js_one (js_ret (j_sl (j_var 1 (pv 1)) (jo_some j_int) jo_none)))))
theorem ok_law_subs_L0 (B : Blt K mg) {f : Addr} {fd : FuncData} (D : Dm K "_law_subs" "_law_subs" s_law_subs [] [] f fd) (hm : mg "_law_subs" = some (.ref f)) : Ok1 P w K mg base 1 "_law_subs" 1 [] F_law_subs := ok_of ⟨D.F, hm⟩ (fn_law_subs B D) (fun _ _ _ _ _ _ us hl => match us, hl with | [_], _ => rfl)
theorem sc_law_closed : FnScope ["_law_tops", "_law_found", "_law_face"] ["_law_tops"] (defScope s_law_closed) := ⟨rfl, rfl, rfl, by decide +kernel, rfl, by decide +kernel, by decide +kernel⟩
theorem fn_law_closed (B : Blt K mg) {f : Addr} {fd : FuncData} (D : Dm K "_law_closed" "_law_closed" s_law_closed [] [] f fd) (O_law_subs_L0 : Ok1 P w K mg base 1 "_law_subs" 1 [] F_law_subs) : FnOk P w K mg base (L2N.CX P w) 2 f fd ["_law_tops"] (spF ⟨K, mg⟩ 1 F_law_closed) :=
  fnokM_of (k := 1) (N := ["_law_tops", "_law_found", "_law_face"]) (n := 3) D sc_law_closed rfl (by decide) rfl fun cdv A outer s H E hr =>
      (js_cons (js_set (i := 1) sc_law_closed.nd rfl (by first | exact Or.inl rfl | exact Or.inr rfl) (j_lst ja_nil))
      (js_cons (js_for (passes_of rfl) rfl (ji_seq (j_var 0 (pv 0))) (pg_name (i := 2) sc_law_closed.nd rfl (by first | exact Or.inl rfl | exact Or.inr rfl)) (pat_nm 2) (js_one (js_set (i := 1) sc_law_closed.nd rfl (by first | exact Or.inl rfl | exact Or.inr rfl) (j_bin or_add (j_var 1 (pv 1)) (j_callO O_law_subs_L0 (hr.mono (by decide)) (by rfl) (L2N.takes_of rfl rfl rfl rfl) (ja_cons (j_var 2 (pv 2)) ja_nil))))))
      (js_one (js_ret (j_sortSet hr rfl (by rfl) B.n_sorted (by rfl) B.n_set (j_var 1 (pv 1)))))))
theorem ok_law_closed_L0 (B : Blt K mg) {f : Addr} {fd : FuncData} (D : Dm K "_law_closed" "_law_closed" s_law_closed [] [] f fd) (O_law_subs_L0 : Ok1 P w K mg base 1 "_law_subs" 1 [] F_law_subs) (hm : mg "_law_closed" = some (.ref f)) : Ok1 P w K mg base 2 "_law_closed" 1 [] F_law_closed := ok_of ⟨D.F, hm⟩ (fn_law_closed B D O_law_subs_L0) (fun _ _ _ _ _ _ us hl => match us, hl with | [_], _ => rfl)
theorem sc_Web_len : FnScope ["self"] ["self"] (defScope s_Web_len) := ⟨rfl, rfl, rfl, by decide +kernel, rfl, by decide +kernel, by decide +kernel⟩
theorem fn_Web_len (B : Blt K mg) {f : Addr} {fd : FuncData} (D : Dm K "__len__" "Web.__len__" s_Web_len [] [] f fd) : FnOk P w K mg base (L2N.CX P w) 1 f fd ["self"] (spF ⟨K, mg⟩ 1 F_Web_len) :=
  fnokM_of (k := 0) (N := ["self"]) (n := 1) D sc_Web_len rfl (by decide) rfl fun cdv A outer s H E hr =>
      (js_one (js_ret (j_callB cr_lenD (by rfl) B.n_len (by decide +kernel) (ja_cons (j_fld B.f_Web_places (j_var 0 (pv 0))) ja_nil))))
theorem ok_Web_len_M0 (B : Blt K mg) {f : Addr} {fd : FuncData} (D : Dm K "__len__" "Web.__len__" s_Web_len [] [] f fd) {C : Addr} (T : ClsT K mg "Web" C) (M : Meth K C "__len__" f) : OkM P w K mg base 1 "Web" "__len__" 1 [] F_Web_len := okM_of T M D (fn_Web_len B D) (fun _ _ _ _ _ _ us hl => match us, hl with | [_], _ => rfl)
theorem sc_law : FnScope ["_law_script", "_law_box_here", "_law_tops", "_law_k", "_law_bad", "_law_many", "_law_far", "_law_at", "_law_a", "_law_b", "_law_face"] ["_law_script"] (defScope s_law) := ⟨rfl, rfl, rfl, by decide +kernel, rfl, by decide +kernel, by decide +kernel⟩
theorem fn_law (B : Blt K mg) {f : Addr} {fd : FuncData} (D : Dm K "law" "law" s_law [] [] f fd) (O_law_box_L0 : Ok1 P w K mg base 1 "_law_box" 1 [] F_law_box) (O_law_drawn_tops_L0 : Ok1 P w K mg base 4 "_law_drawn_tops" 4 [] F_law_drawn_tops) (O_law_take_L0 : Ok1 P w K mg base 2 "_law_take" 2 [] F_law_take) (O_law_bent_face_L0 : Ok1 P w K mg base 3 "_law_bent_face" 2 [] F_law_bent_face) (O_law_points_L0 : Ok1 P w K mg base 3 "_law_points" 2 [] F_law_points) (O_law_is_face_L0 : Ok1 P w K mg base 1 "_law_is_face" 1 [] F_law_is_face) (O_Web_init_C : OkC P w K mg base 4 "Web" 2 [] F_Web_init) (O_law_closed_L0 : Ok1 P w K mg base 2 "_law_closed" 1 [] F_law_closed) (O_Web_len_M0 : OkM P w K mg base 1 "Web" "__len__" 1 [] F_Web_len) (O_R : OkR P w K mg base ["BadFace", "Full"] 0) {cL PL : Addr} (TB : LamX.TabB base mg cL PL) (hTab : PySem.W.tabIn K lamFn = some (cL, PL)) (hns : PySem.W.nsIn K mainGlobals "law" = some (some (.ref f))) : FnOk P w K mg base (L2N.CX P w) 8 f fd ["_law_script"] (spF ⟨K, mg⟩ 1 F_law) :=
  fn_okL (k := 7) (N := ["_law_script", "_law_box_here", "_law_tops", "_law_k", "_law_bad", "_law_many", "_law_far", "_law_at", "_law_a", "_law_b", "_law_face"]) (n := 11) D.F hns hTab sc_law rfl (by decide) rfl fun A outer s H E hr =>
      (js_cons (js_set (i := 1) sc_law.nd rfl (by first | exact Or.inl rfl | exact Or.inr rfl) (j_callO O_law_box_L0 (hr.mono (by decide)) (by rfl) (L2N.takes_of rfl rfl rfl rfl) (ja_cons (j_var 0 (pv 0)) ja_nil)))
      (js_cons (js_set (i := 2) sc_law.nd rfl (by first | exact Or.inl rfl | exact Or.inr rfl) (j_callO O_law_drawn_tops_L0 (hr.mono (by decide)) (by rfl) (L2N.takes_of rfl rfl rfl rfl) (ja_cons (j_var 1 (pv 1)) (ja_cons j_int (ja_cons j_int (ja_cons j_int ja_nil))))))
      (js_cons (js_for (passes_of rfl) rfl (ji_range1 (by rfl) B.n_range (j_callO O_law_take_L0 (hr.mono (by decide)) (by rfl) (L2N.takes_of rfl rfl rfl rfl) (ja_cons (j_var 1 (pv 1)) (ja_cons j_int ja_nil)))) (pg_name (i := 3) sc_law.nd rfl (by first | exact Or.inl rfl | exact Or.inr rfl)) (pat_nm 3) (js_one (js_if (jt_cmp or_gt (j_callB cr_len (by rfl) B.n_len (by decide +kernel) (ja_cons (j_var 2 (pv 2)) ja_nil)) j_int (nomark _)) (js_cons (js_set (i := 7) sc_law.nd rfl (by first | exact Or.inl rfl | exact Or.inr rfl) (j_callO O_law_take_L0 (hr.mono (by decide)) (by rfl) (L2N.takes_of rfl rfl rfl rfl) (ja_cons (j_var 1 (pv 1)) (ja_cons (j_callB cr_len (by rfl) B.n_len (by decide +kernel) (ja_cons (j_var 2 (pv 2)) ja_nil)) ja_nil))))
      (js_one (js_setI (j_callO O_law_bent_face_L0 (hr.mono (by decide)) (by rfl) (L2N.takes_of rfl rfl rfl rfl) (ja_cons (j_var 1 (pv 1)) (ja_cons (j_ix ir_ix (j_var 2 (pv 2)) (j_var 7 (pv 7)) (fun _ _ => rfl)) ja_nil))) (j_var 2 (pv 2)) (j_var 7 (pv 7))))) js_nil)))
      (js_cons (js_if (jt_cmp (or_eq hr) (j_callO O_law_take_L0 (hr.mono (by decide)) (by rfl) (L2N.takes_of rfl rfl rfl rfl) (ja_cons (j_var 1 (pv 1)) (ja_cons j_int ja_nil))) j_int (nomark _)) (js_cons (js_set (i := 6) sc_law.nd rfl (by first | exact Or.inl rfl | exact Or.inr rfl) (j_callO O_law_points_L0 (hr.mono (by decide)) (by rfl) (L2N.takes_of rfl rfl rfl rfl) (ja_cons (j_var 1 (pv 1)) (ja_cons j_int ja_nil))))
      (js_cons (js_set (i := 2) sc_law.nd rfl (by first | exact Or.inl rfl | exact Or.inr rfl) (j_lc rfl sc_law.nd (ji_zip (by rfl) B.n_zip (ja_cons (j_rep (j_listRng rfl (by rfl) B.n_list (by rfl) B.n_range j_int) j_int) (ja_cons (j_lc rfl sc_law.nd (ji_range2 (by rfl) B.n_range (ja_cons j_int (ja_cons j_int ja_nil))) (blkOk_by (own := [("_law_k", 3)]) (by kernel_rfl)) (fun _ _ _ _ _ => (pg_name (i := 3) sc_law.nd rfl (by first | exact Or.inl rfl | exact Or.inr rfl))) (pat_nm 3) (fun _ _ _ _ _ => jts_nil) (fun _ _ _ _ _ => (j_bin or_mod (j_var 3 (pv 3)) j_int))) ja_nil))) (blkOk_by (own := [("_law_a", 8), ("_law_b", 9)]) (by kernel_rfl)) (fun _ _ _ _ _ => (pg_tup rfl (pgs_cons (pg_name (i := 8) sc_law.nd rfl (by first | exact Or.inl rfl | exact Or.inr rfl)) (pgs_cons (pg_name (i := 9) sc_law.nd rfl (by first | exact Or.inl rfl | exact Or.inr rfl)) pgs_nil)))) (pat_tup (pats_cons (pat_nm 8) (pats_cons (pat_nm 9) pats_nil))) (fun _ _ _ _ _ => jts_nil) (fun _ _ _ _ _ => (j_tup (ja_cons (j_ix ir_ix (j_var 6 (pv 6)) (j_var 8 (pv 8)) (fun _ _ => rfl)) (ja_cons (j_ix ir_ix (j_var 6 (pv 6)) (j_var 9 (pv 9)) (fun _ _ => rfl)) ja_nil))))))
      (js_one (js_set (i := 2) sc_law.nd rfl (by first | exact Or.inl rfl | exact Or.inr rfl) (j_sl (j_lc rfl sc_law.nd (ji_seq (j_frzD (j_var 2 (pv 2)))) (blkOk_by (own := [("_law_face", 10)]) (by kernel_rfl)) (fun _ _ _ _ _ => (pg_name (i := 10) sc_law.nd rfl (by first | exact Or.inl rfl | exact Or.inr rfl))) (pat_nm 10) (fun _ _ _ _ _ => (jts_one (jt_cmp (or_ne hr) (j_ix ir_ix (j_var 10 (pv 10)) j_int (fun _ _ => rfl)) (j_ix ir_ix (j_var 10 (pv 10)) j_int (fun _ _ => rfl)) (nomark _)))) (fun _ _ _ _ _ => (j_var 10 (pv 10)))) jo_none (jo_some (j_bin or_add j_int (j_callO O_law_take_L0 (hr.mono (by decide)) (by rfl) (L2N.takes_of rfl rfl rfl rfl) (ja_cons (j_var 1 (pv 1)) (ja_cons j_int ja_nil)))))))))) js_nil)
      (js_cons (js_if (jt_cmp (or_eq hr) (j_callO O_law_take_L0 (hr.mono (by decide)) (by rfl) (L2N.takes_of rfl rfl rfl rfl) (ja_cons (j_var 1 (pv 1)) (ja_cons j_int ja_nil))) j_int (nomark _)) (js_cons (js_set (i := 6) sc_law.nd rfl (by first | exact Or.inl rfl | exact Or.inr rfl) (j_callO O_law_points_L0 (hr.mono (by decide)) (by rfl) (L2N.takes_of rfl rfl rfl rfl) (ja_cons (j_var 1 (pv 1)) (ja_cons j_int ja_nil))))
      (js_cons (js_set (i := 5) sc_law.nd rfl (by first | exact Or.inl rfl | exact Or.inr rfl) (j_callO O_law_take_L0 (hr.mono (by decide)) (by rfl) (L2N.takes_of rfl rfl rfl rfl) (ja_cons (j_var 1 (pv 1)) (ja_cons j_int ja_nil))))
      (js_one (js_set (i := 2) sc_law.nd rfl (by first | exact Or.inl rfl | exact Or.inr rfl) (j_lc rfl sc_law.nd (ji_range1 (by rfl) B.n_range (j_var 5 (pv 5))) (blkOk_by (own := [("_law_k", 3)]) (by kernel_rfl)) (fun _ _ _ _ _ => (pg_name (i := 3) sc_law.nd rfl (by first | exact Or.inl rfl | exact Or.inr rfl))) (pat_nm 3) (fun _ _ _ _ _ => jts_nil) (fun _ _ _ _ _ => (j_tup (ja_cons (j_ix ir_ix (j_var 6 (pv 6)) (j_bin or_mod (j_var 3 (pv 3)) j_int) (fun _ _ => rfl)) (ja_cons (j_ix ir_ix (j_var 6 (pv 6)) (j_bin or_mod (j_bin or_add (j_var 3 (pv 3)) j_int) j_int) (fun _ _ => rfl)) (ja_cons (j_ix ir_ix (j_var 6 (pv 6)) (j_bin or_mod (j_bin or_add (j_var 3 (pv 3)) j_int) j_int) (fun _ _ => rfl)) (ja_cons (j_ix ir_ix (j_var 6 (pv 6)) (j_bin or_mod (j_bin or_add (j_var 3 (pv 3)) j_int) j_int) (fun _ _ => rfl)) ja_nil))))))))))) js_nil)
      (js_cons (js_setLc (i := 4) rfl sc_law.nd rfl rfl (sw_true rfl rfl rfl (by decide +kernel)) (ji_range1 (by rfl) B.n_range (j_callB cr_len (by rfl) B.n_len (by decide +kernel) (ja_cons (j_var 2 (pv 2)) ja_nil))) (blkOk_by (own := [("_law_at", 7)]) (by kernel_rfl)) (fun _ _ _ _ _ => (pg_name (i := 7) sc_law.nd rfl (by first | exact Or.inl rfl | exact Or.inr rfl))) (pat_nm 7) (fun _ _ _ _ _ => (jts_one (jt_not (jt_val (j_callO O_law_is_face_L0 (hr.mono (by decide)) (by rfl) takesN0 (ja_cons (j_ix ir_ix (j_var 2 (pv 2)) (j_var 7 (pv 7)) (fun _ _ => rfl)) ja_nil)))))) (fun _ _ _ _ _ => (j_var 7 (pv 7))))
      (js_cons (js_if (jt_cmp (or_ne hr) (j_var 4 (pv 4)) (j_lst ja_nil) (nomark _)) (js_one (js_ret (j_cmp (or_eq hr) (j_ref (k := 5) O_R (by rfl) TB rfl hTab (by rfl) (hr.mono (by decide)) (by decide) (LamX.lamS_by (by kernel_rfl)) rfl (fun _ _ _ _ _ => rfl) (fun A outer s H E f c' hr => (j_makeX O_Web_init_C (hr.mono (by decide)) (by rfl) (L2N.takes_of rfl rfl rfl rfl) (ja_cons (j_callTy cr_listJ (by rfl) B.n_list (by decide +kernel) (ja_cons (j_frzD (j_var 2 (pv 2))) ja_nil)) ja_nil)))) (j_tup (ja_cons j_str (ja_cons (j_ix ir_ix (j_var 4 (pv 4)) j_int (fun _ _ => rfl)) ja_nil))) (nomark _)))) js_nil)
      (js_cons (js_set (i := 5) sc_law.nd rfl (by first | exact Or.inl rfl | exact Or.inr rfl) (j_callB cr_len (by rfl) B.n_len (by decide +kernel) (ja_cons (j_callO O_law_closed_L0 (hr.mono (by decide)) (by rfl) (L2N.takes_of rfl rfl rfl rfl) (ja_cons (j_frzD (j_var 2 (pv 2))) ja_nil)) ja_nil)))
      (js_cons (js_if (jt_cmp or_gt (j_var 5 (pv 5)) j_int (nomark _)) (js_one (js_ret (j_cmp (or_eq hr) (j_ref (k := 5) O_R (by rfl) TB rfl hTab (by rfl) (hr.mono (by decide)) (by decide) (LamX.lamS_by (by kernel_rfl)) rfl (fun _ _ _ _ _ => rfl) (fun A outer s H E f c' hr => (j_makeX O_Web_init_C (hr.mono (by decide)) (by rfl) (L2N.takes_of rfl rfl rfl rfl) (ja_cons (j_callTy cr_listJ (by rfl) B.n_list (by decide +kernel) (ja_cons (j_frzD (j_var 2 (pv 2))) ja_nil)) ja_nil)))) (j_tup (ja_cons j_str (ja_cons (j_un ur_neg j_int) ja_nil))) (nomark _)))) js_nil)
      (js_one (js_ret (j_and (j_cmp (or_eq hr) (j_lenOwn O_Web_len_M0 (hr.mono (by decide)) (by rfl) B.n_len (j_make O_Web_init_C (hr.mono (by decide)) (by rfl) (ja_cons (j_callTy cr_listJ (by rfl) B.n_list (by decide +kernel) (ja_cons (j_frzD (j_var 2 (pv 2))) ja_nil)) ja_nil))) (j_var 5 (pv 5)) (nomark _)) (j_one (j_cmp (or_eq hr) (j_lenOwn O_Web_len_M0 (hr.mono (by decide)) (by rfl) B.n_len (j_make O_Web_init_C (hr.mono (by decide)) (by rfl) (ja_cons (j_callTy cr_tupleJ (by rfl) B.n_tuple (by decide +kernel) (ja_cons (j_frzD (j_var 2 (pv 2))) ja_nil)) ja_nil))) (j_var 5 (pv 5)) (nomark _)))))))))))))))
end
theorem ex_at {h : Heap} {K : PySem.W.Frag} (Y : SaysL fs fn ex h K) {b : Bool} (i : Nat) (e : (exs K)[i]? = some b) : b = true := by
  have q := List.all_eq_true.mp Y.2.2 b (List.mem_of_getElem? e)
  exact q
theorem all_mk {P : Program} {w : World} {K : PySem.W.Frag} {h : Heap} {mg : Str → Option Value} {fa : Addr} (Y : SaysL fs fn ex h K) (G : h.Ns mainGlobals mg) (hfa : mg "law" = some (.ref fa))
    : ∃ (fd : FuncData) (cc TT : Addr), PySem.W.tabIn K lamFn = some (cc, TT) ∧ K.lookup TT = none ∧ (∀ (s : Shared) (v : Value), BindsTo s fd ⟨[v], []⟩ [("_law_script", v)]) ∧ ∀ base : Heap, K.In base → base.Ns mainGlobals mg → LamX.TabB base mg cc TT → FnOk P w K mg base (L2N.CX P w) 8 fa fd ["_law_script"] (spF ⟨K, mg⟩ 1 F_law) := by
  have e := hfa.symm.trans (Y.glo (x := "law") G 32 rfl)
  cases e
  have T_Web : ClsT K mg "Web" (He.ga K "Web") := Y.cls G 0 1 rfl rfl
  have M_Web := He.mkr_ok (Y.f (f := .mkr "Web") 2 rfl)
  have B : Blt K mg := ⟨Y.free G 3 rfl, Y.free G 4 rfl, Y.free G 5 rfl, Y.free G 6 rfl, Y.free G 7 rfl, Y.free G 8 rfl, Y.free G 9 rfl, Y.free G 10 rfl, Y.free G 11 rfl, Y.free G 12 rfl, Y.free G 13 rfl, Y.free G 14 rfl, Y.int G 15 rfl, Y.int G 16 rfl, Y.int G 17 rfl, fld_of T_Web (He.eqO_ok (Y.f (f := .noat "Web" "places") 18 rfl)), fld_of T_Web (He.eqO_ok (Y.f (f := .noat "Web" "table") 19 rfl))⟩
  obtain ⟨fd0, D0⟩ : ∃ fd, Dm K "_law_box" "_law_box" s_law_box [] [] (He.ga K "_law_box") fd := Y.dm (st := s_law_box) (df := []) (kw := []) 0 rfl
  have hm0 := Y.glo (x := "_law_box") G 20 rfl
  obtain ⟨fd1, D1⟩ : ∃ fd, Dm K "_law_mixed" "_law_mixed" s_law_mixed [] [] (He.ga K "_law_mixed") fd := Y.dm (st := s_law_mixed) (df := []) (kw := []) 1 rfl
  have hm1 := Y.glo (x := "_law_mixed") G 21 rfl
  obtain ⟨fd2, D2⟩ : ∃ fd, Dm K "_law_take" "_law_take" s_law_take [] [] (He.ga K "_law_take") fd := Y.dm (st := s_law_take) (df := []) (kw := []) 2 rfl
  have hm2 := Y.glo (x := "_law_take") G 22 rfl
  obtain ⟨fd3, D3⟩ : ∃ fd, Dm K "_law_points" "_law_points" s_law_points [] [] (He.ga K "_law_points") fd := Y.dm (st := s_law_points) (df := []) (kw := []) 3 rfl
  have hm3 := Y.glo (x := "_law_points") G 23 rfl
  obtain ⟨fd4, D4⟩ : ∃ fd, Dm K "_law_drawn_face" "_law_drawn_face" s_law_drawn_face [] [] (He.ga K "_law_drawn_face") fd := Y.dm (st := s_law_drawn_face) (df := []) (kw := []) 4 rfl
  have hm4 := Y.glo (x := "_law_drawn_face") G 24 rfl
  obtain ⟨fd5, D5⟩ : ∃ fd, Dm K "_law_drawn_tops" "_law_drawn_tops" s_law_drawn_tops [] [] (He.ga K "_law_drawn_tops") fd := Y.dm (st := s_law_drawn_tops) (df := []) (kw := []) 5 rfl
  have hm5 := Y.glo (x := "_law_drawn_tops") G 25 rfl
  obtain ⟨fd6, D6⟩ : ∃ fd, Dm K "_law_bent_face" "_law_bent_face" s_law_bent_face [] [] (He.ga K "_law_bent_face") fd := Y.dm (st := s_law_bent_face) (df := []) (kw := []) 6 rfl
  have hm6 := Y.glo (x := "_law_bent_face") G 26 rfl
  obtain ⟨fd7, D7⟩ : ∃ fd, Dm K "_law_is_face" "_law_is_face" s_law_is_face [] [] (He.ga K "_law_is_face") fd := Y.dm (st := s_law_is_face) (df := []) (kw := []) 7 rfl
  have hm7 := Y.glo (x := "_law_is_face") G 27 rfl
  obtain ⟨fd8, D8⟩ : ∃ fd, Dm K "is_face" "is_face" s_is_face [] [] (He.ga K "is_face") fd := Y.dm (st := s_is_face) (df := []) (kw := []) 8 rfl
  have hm8 := Y.glo (x := "is_face") G 28 rfl
  obtain ⟨fd9, D9⟩ : ∃ fd, Dm K "own_faces" "own_faces" s_own_faces [] [] (He.ga K "own_faces") fd := Y.dm (st := s_own_faces) (df := []) (kw := []) 9 rfl
  have hm9 := Y.glo (x := "own_faces") G 29 rfl
  obtain ⟨fd10, D10⟩ : ∃ fd, Dm K "__init__" "Web.__init__" s_Web_init [.ref (He.dflAt ("Web", some "__init__") 0 K)] [] (He.ma K (He.ga K "Web") "__init__") fd := Y.mm (st := s_Web_init) (df := [.adr (He.dflAt ("Web", some "__init__") 0)]) (kw := []) 10 rfl
  obtain ⟨fd11, D11⟩ : ∃ fd, Dm K "_law_subs" "_law_subs" s_law_subs [] [] (He.ga K "_law_subs") fd := Y.dm (st := s_law_subs) (df := []) (kw := []) 11 rfl
  have hm11 := Y.glo (x := "_law_subs") G 30 rfl
  obtain ⟨fd12, D12⟩ : ∃ fd, Dm K "_law_closed" "_law_closed" s_law_closed [] [] (He.ga K "_law_closed") fd := Y.dm (st := s_law_closed) (df := []) (kw := []) 12 rfl
  have hm12 := Y.glo (x := "_law_closed") G 31 rfl
  obtain ⟨fd13, D13⟩ : ∃ fd, Dm K "__len__" "Web.__len__" s_Web_len [] [] (He.ma K (He.ga K "Web") "__len__") fd := Y.mm (st := s_Web_len) (df := []) (kw := []) 13 rfl
  obtain ⟨fd14, D14⟩ : ∃ fd, Dm K "law" "law" s_law [] [] (He.ga K "law") fd := Y.dm (st := s_law) (df := []) (kw := []) 14 rfl
  have hm14 := Y.glo (x := "law") G 32 rfl
  obtain ⟨fdWE, DWE⟩ : ∃ fd, Dm K "__init__" "WebError.__init__" s_WebError_init [V.str "WebError", V.int (-1)] [] (He.ma K (He.ga K "WebError") "__init__") fd := Y.mm (st := s_WebError_init) (df := [.str "WebError", .int (-1)]) (kw := []) 15 rfl
  obtain ⟨fdXBadFace, DXBadFace⟩ : ∃ fd, Dm K "__init__" "BadFace.__init__" s_BadFace_init [V.int (-1)] [] (He.ma K (He.ga K "BadFace") "__init__") fd := Y.mm (st := s_BadFace_init) (df := [.int (-1)]) (kw := []) 16 rfl
  obtain ⟨fdXFull, DXFull⟩ : ∃ fd, Dm K "__init__" "Full.__init__" s_Full_init [V.int (-1)] [] (He.ma K (He.ga K "Full") "__init__") fd := Y.mm (st := s_Full_init) (df := [.int (-1)]) (kw := []) 17 rfl
  obtain ⟨fdRF, DRF⟩ : ∃ fd, Dm K "_law_refusal" "_law_refusal" s_law_refusal [] [] (He.ga K "_law_refusal") fd := Y.dm (st := s_law_refusal) (df := []) (kw := []) 18 rfl
  have hmRF := Y.glo (x := "_law_refusal") G 33 rfl
  obtain ⟨fdKI, DKI⟩ : ∃ fd, Dm K "_law_kinds" "_law_kinds" s_law_kinds [] [] (He.ga K "_law_kinds") fd := Y.dm (st := s_law_kinds) (df := []) (kw := []) 19 rfl
  have hmKI := Y.glo (x := "_law_kinds") G 34 rfl
  obtain ⟨cL, PL, hTab, tn⟩ := tabB_ok (ex_at Y 0 rfl)
  refine ⟨fd14, cL, PL, hTab, tn, fun s v => FunD.bindsA (ps := ["_law_script"]) D14.F (fun _ _ _ _ _ _ us hl => match us, hl with | [_], _ => rfl) s [v] rfl, fun base _ _ TB => ?_⟩
  have mW := Y.glo (x := "WebError") G 35 rfl
  obtain ⟨we1, we2, we3⟩ := weB_ok (ex_at Y 1 rfl)
  obtain ⟨dsW, vW, bW⟩ := DWE.F.binds1 (ps := ["self", "word", "at"]) 3 2 (by simp) rfl (fun _ _ _ _ _ _ _ us its h1 h2 => match us, h1, its, h2 with | [_, _, _], _, [_, _], _ => ⟨_, rfl, rfl⟩)
  cases vW
  obtain ⟨xc_BadFace, rb_BadFace, ai_BadFace, ti_BadFace⟩ := xrB_ok (ex_at Y 2 rfl)
  have mx_BadFace := Y.glo (x := "BadFace") G 36 rfl
  have O_X_BadFace : OkX P w K mg base 2 "BadFace" := okX_mk DXBadFace (ox_BadFace DXBadFace mW ⟨we1, we2⟩ we3 DWE.F.kp (we_L DWE) bW) mx_BadFace xc_BadFace ai_BadFace ti_BadFace (fun _ _ _ _ _ _ _ us its h1 h2 => match us, h1, its, h2 with | [_], _, [_], _ => ⟨_, rfl, rfl⟩) (fun _ _ _ _ _ _ _ us its h1 h2 => match us, h1, its, h2 with | [_, _], _, [_], _ => ⟨_, rfl, rfl⟩)
  obtain ⟨xc_Full, rb_Full, ai_Full, ti_Full⟩ := xrB_ok (ex_at Y 3 rfl)
  have mx_Full := Y.glo (x := "Full") G 37 rfl
  have O_X_Full : OkX P w K mg base 2 "Full" := okX_mk DXFull (ox_Full DXFull mW ⟨we1, we2⟩ we3 DWE.F.kp (we_L DWE) bW) mx_Full xc_Full ai_Full ti_Full (fun _ _ _ _ _ _ _ us its h1 h2 => match us, h1, its, h2 with | [_], _, [_], _ => ⟨_, rfl, rfl⟩) (fun _ _ _ _ _ _ _ us its h1 h2 => match us, h1, its, h2 with | [_, _], _, [_], _ => ⟨_, rfl, rfl⟩)
  have O_R := okR_L (P := P) (w := w) (base := base) B mW DRF hmRF DKI hmKI (fun x hx => by simp only [List.mem_cons, List.not_mem_nil, or_false] at hx; rcases hx with rfl | rfl <;> first | exact ⟨0, _, refB_ok Y.1 G mx_BadFace rb_BadFace⟩ | exact ⟨1, _, refB_ok Y.1 G mx_Full rb_Full⟩)
  have O_law_box_L0 := ok_law_box_L0 (P := P) (w := w) (base := base) B D0 hm0
  have O_law_mixed_L0 := ok_law_mixed_L0 (P := P) (w := w) (base := base) B D1 hm1
  have O_law_take_L0 := ok_law_take_L0 (P := P) (w := w) (base := base) B D2 O_law_mixed_L0 hm2
  have O_law_points_L0 := ok_law_points_L0 (P := P) (w := w) (base := base) B D3 O_law_take_L0 hm3
  have O_law_drawn_face_L0 := ok_law_drawn_face_L0 (P := P) (w := w) (base := base) B D4 O_law_take_L0 hm4
  have O_law_drawn_tops_L0 := ok_law_drawn_tops_L0 (P := P) (w := w) (base := base) B D5 O_law_take_L0 O_law_points_L0 O_law_drawn_face_L0 hm5
  have O_law_bent_face_L0 := ok_law_bent_face_L0 (P := P) (w := w) (base := base) B D6 O_law_take_L0 hm6
  have O_law_is_face_L0 := ok_law_is_face_L0 (P := P) (w := w) (base := base) B D7 hm7
  have O_is_face_L0 := ok_is_face_L0 (P := P) (w := w) (base := base) B D8 hm8
  have O_own_faces_L0 := ok_own_faces_L0 (P := P) (w := w) (base := base) B D9 hm9
  have O_Web_init_C := ok_Web_init_C (P := P) (w := w) (base := base) B D10 O_is_face_L0 O_own_faces_L0 O_X_BadFace O_X_Full T_Web M_Web
  have O_law_subs_L0 := ok_law_subs_L0 (P := P) (w := w) (base := base) B D11 hm11
  have O_law_closed_L0 := ok_law_closed_L0 (P := P) (w := w) (base := base) B D12 O_law_subs_L0 hm12
  have O_Web_len_M0 := ok_Web_len_M0 (P := P) (w := w) (base := base) B D13 T_Web (He.meth_ok (Y.f (f := .meth "Web" "__len__") 38 rfl))
  exact fn_law B D14 O_law_box_L0 O_law_drawn_tops_L0 O_law_take_L0 O_law_bent_face_L0 O_law_points_L0 O_law_is_face_L0 O_Web_init_C O_law_closed_L0 O_Web_len_M0 O_R TB hTab (He.eqO_ok (Y.f (f := .glo "law") 32 rfl))
end L
open PySem PySem.W PySem.Calls PyProof.Rows in
set_option maxRecDepth 100000 in
set_option maxHeartbeats 0 in
theorem PySem.Challenge.cw_cupweb_k09_faces_refused_holds : PySem.Challenge.rw_cupweb_k09_faces_refused.Holds := by
  w_on; o_law
  refine HandSHeadRun.head_any (r := OpenLaw.row PySem.Challenge.rw_cupweb_k09_faces_refused) (q := L.hq) (H := L.hk) (ob := L.hob) (M := 30000) (loose := L.loose) (d := HandSHeadRun.topDef (OpenLaw.row PySem.Challenge.rw_cupweb_k09_faces_refused).prog 44) (kwd := []) J.obsL_eq
    (by kernel_rfl) (fun s => by kernel_rfl) L.hrun (by kernel_rfl) (by kernel_rfl) (by kernel_rfl) (by rfl) (by first | assumption | decide +kernel) (by decide +kernel) ⟨rfl, rfl, rfl, rfl, rfl, by decide +kernel⟩ ?hw ?hc
  case hw => w_witness2
  case hc => exact J.walk_L (l := PySem.Challenge.rw_cupweb_k09_faces_refused) (n := 63) (k := 8) (x := "_law_script") (Fm := L.F_law) rfl (by decide) (by kernel_rfl) ⟨rfl, by decide, by decide⟩ (by kernel_rfl) (by kernel_rfl) (fun w mg fa h K Y G hmg => L.all_mk Y G hmg) L.law_true
