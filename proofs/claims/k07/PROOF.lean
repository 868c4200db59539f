import PyProof.Rows.All
import Wide.All
import OpenK.AllK
import Wide.FinOn
import HandS.ForMost
import HandS.ForExc
import HandS.CallSlots
import HandS.Defaults
import HandS.Wide
import HandS.IsInst
import HandS.Lambda
import HandS.ExcCtx
import KE.KNest
import HandS.Style
import HandS.Zip
import HandS.TupAny
import HandS.EndTab
import HandS.DictComp
import HandS.SetBool
import HandS.TupSets
import HandS.Conv
import HandS.Strs
import KE.SortData
import HandS.MapObj
import HandS.Small
import HandS.TupLen
import HandS.Sort
import HandS.Deep
import PyProof.ListRange
import HandS.More
import KE.KDictZip
import HandS.ExcInit
import HandS.ClsMeth
import HandS.HotCalls
import HandS.ExcIs
import HandS.ExcField
import HandS.Text
import PyProof.FactsAll.object_2
import HandS.SetFor
import PyProof.FactsAll.set_1
import PyProof.FactsAll.set_2
import KE.KEqDict
import HandS.Head0
import HandS.Head1
import HandS.Head2
import HandS.HeadHook1
import HandS.HeadHook2
import HandS.HeadHook3
import HandS.HeadHook4
import KE.KDictWalk
import KE.GoesMore
import KE.GoesZip
import KE.GoesEnum
import HandS.SortKw
import KE.DataMinMax
import HandS.TryOnly
import HandS.List
import HandS.Zip0
import HandS.FStr
import HandS.RaiseMore
import KE.KUnpackStar
import PySem.Challenge.RW_cupweb_k07_rests_refused
set_option Elab.async false
set_option linter.all false
set_option maxRecDepth 100000
set_option autoImplicit false
set_option exponentiation.threshold 2000
namespace J
open PySem L2
/-! values -/
inductive VV where
  | non | bl (b : Bool) | int (i : Int) | str (x : Str)
  | tup (xs : List VV) | lst (xs : List VV) | scr (xs : List VV)
  | dT (ks : List (List Key)) (vs : List VV)
  | dK (ks : List Key) (vs : List VV)
  | ins (c : Str) (ns : List Str) (vs : List VV)
  | obj (n : Nat)
  | glb (x : Str)
  | ty (n : String)
  | raw (a : Addr)
/-- a mutable root -/
inductive VO where
  | fzn (v : VV)
  | fl (xs : List VV)
  | lo (xs : List VV)
  | dT (ks : List (List Key)) (vs : List VV)
  | dK (ks : List Key) (vs : List VV)
  | ins (c : Str) (ns : List Str) (vs : List VV)
abbrev VH := List VO
abbrev VSt := List (Option VV)
inductive Res (α : Type) where
  | no
  | ok (a : α) (h : VH)
  | exc (x : Str) (ns : List Str) (vs : List VV) (h : VH)
def Res.bind {α β : Type} (r : Res α) (k : α → VH → Res β) : Res β :=
  match r with
  | .no => .no
  | .ok a h => k a h
  | .exc x ns vs h => .exc x ns vs h
structure Ct where
  K : PySem.W.Frag
  mg : Str → Option Value
structure Gh where
  io : List Addr
  fz : Addr → Prop
  kp : Addr → Prop
/-- a tuple: a frozen one -/
def TupAt (_c : Ct) (_ : Addr → Prop) (H : Hp) (p : Addr) (us : List V) : Prop := H p = some (.tup us)
theorem TupAt.sq {c : Ct} {z : Addr → Prop} {H : Hp} {p : Addr} {us : List V} (h : TupAt c z H p us) : SqT c.K H p us := .inl (.inl h)
theorem TupAt.stp {c : Ct} {z z' : Addr → Prop} {H H' : Hp} {p : Addr} {us : List V} (ht : ∀ p us, H p = some (.tup us) → H' p = some (.tup us)) (h : TupAt c z H p us) : TupAt c z' H' p us := ht _ _ h
/-- a list that is only read: a frozen one, or one of the module's -/
def LstAt (c : Ct) (z : Addr → Prop) (H : Hp) (p : Addr) (us : List V) : Prop :=
  (z p ∧ Rd H p (.lst us)) ∨ ∃ (o : Obj) (its : Array Value) (n : Nat), c.K.lookup p = some o ∧ o.cls = .type "list" ∧ o.dict = none ∧ o.data = .seq its n ∧ its.size ≤ sizeLine ∧ Vals us its.toList
theorem LstAt.sq {c : Ct} {z : Addr → Prop} {H : Hp} {p : Addr} {us : List V} (h : LstAt c z H p us) : SqL c.K H p us := by
  rcases h with h | h
  · exact .inl h.2
  · exact .inr h
theorem rd_same {H H' : Hp} {p : Addr} {o : HO} (e : H' p = H p) (h : Rd H p o) : Rd H' p o := by
  rcases h with h | ⟨q, h⟩
  · exact .inl (e.trans h)
  · exact .inr ⟨q, e.trans h⟩
/-- what may be locked -/
def Lk (o : HO) : Prop := (∃ kvs, o = .dK kvs) ∨ ∃ kvs, o = .dT kvs
/-- what is frozen stands; a dict may be locked -/
def Ke (o o' : Option HO) : Prop := o' = o ∨ ∃ od u, Lk u ∧ o = some u ∧ o' = some (.frz od u)
theorem Ke.refl {o : Option HO} : Ke o o := .inl rfl
theorem Lk.frz {od : Obj} {u : HO} (h : Lk (.frz od u)) : False := by
  rcases h with ⟨_, e⟩ | ⟨_, e⟩ <;> cases e
theorem Ke.trans {a b c : Option HO} (h : Ke a b) (k : Ke b c) : Ke a c := by
  rcases h with h | ⟨od, u, l, h1, h2⟩
  · rw [← h]; exact k
  · rcases k with k | ⟨od2, u2, l2, k1, k2⟩
    · exact .inr ⟨od, u, l, h1, k.trans h2⟩
    · rw [h2] at k1; cases k1; exact l2.frz.elim
theorem Ke.at {o : HO} {a b : Option HO} (h : Ke a b) (e : a = some o) (n : ∀ kvs, o ≠ .dK kvs) (n2 : ∀ kvs, o ≠ .dT kvs := by intro _ z; cases z) : b = some o := by
  rcases h with h | ⟨od, u, l, h1, h2⟩
  · exact h.trans e
  · rw [e] at h1
    rcases l with ⟨kvs, l⟩ | ⟨kvs, l⟩
    · exact absurd ((Option.some.inj h1).trans l) (n kvs)
    · exact absurd ((Option.some.inj h1).trans l) (n2 kvs)
theorem Ke.ex {a b : Option HO} (h : Ke a b) (e : ∃ o, a = some o) : ∃ o, b = some o := by
  obtain ⟨o, e⟩ := e
  rcases h with h | ⟨od, u, l, h1, h2⟩
  · exact ⟨o, h.trans e⟩
  · exact ⟨_, h2⟩
theorem Ke.rdL {H H' : Hp} {p : Addr} {o : HO} (h : Ke (H p) (H' p)) (r : Rd H p o) : Rd H' p o := by
  rcases h with h | ⟨od, u, l, h1, h2⟩
  · exact rd_same h r
  · rcases r with r | ⟨q, r⟩
    · rw [r] at h1; cases h1; exact .inr ⟨od, h2⟩
    · rw [r] at h1; cases h1; exact l.frz.elim
theorem Ke.rd {H H' : Hp} {p : Addr} {o : HO} (h : Ke (H p) (H' p)) (r : Rd H p o) (_ : ∀ kvs, o ≠ .dK kvs) : Rd H' p o := h.rdL r
theorem Ke.dk {H H' : Hp} {p : Addr} {kvs : List (Key × V)} (h : Ke (H p) (H' p)) (r : Rd H p (.dK kvs)) : Rd H' p (.dK kvs) := h.rdL r
theorem LstAt.stp {c : Ct} {z z' : Addr → Prop} {H H' : Hp} {p : Addr} {us : List V} (hz : ∀ p, z p → z' p) (hH : ∀ p, z p → Ke (H p) (H' p)) (h : LstAt c z H p us) : LstAt c z' H' p us := by
  rcases h with h | h
  · exact .inl ⟨hz p h.1, (hH p h.1).rd h.2 (fun _ z => nomatch z)⟩
  · exact .inr h
mutual
def RV (c : Ct) (z : Addr → Prop) (H : Hp) : VV → V → Prop
  | .non, u => u = .non
  | .bl b, u => u = .bl b
  | .int i, u => u = .int i
  | .str x, u => u = .str x
  | .tup xs, u => ∃ p us, u = .ref p ∧ TupAt c z H p us ∧ RVs c z H xs us
  | .lst xs, u => ∃ p us, u = .ref p ∧ z p ∧ H p = some (.lst us) ∧ RVs c z H xs us
  | .scr xs, u => ∃ p us, u = .ref p ∧ LstAt c z H p us ∧ RVs c z H xs us
  | .dT ks vs, u => ∃ p us, u = .ref p ∧ z p ∧ Rd H p (.dT (ks.zip us)) ∧ ks.length = us.length ∧ RVs c z H vs us
  | .dK ks vs, u => ∃ p us, u = .ref p ∧ z p ∧ Rd H p (.dK (ks.zip us)) ∧ ks.length = us.length ∧ RVs c z H vs us
  | .ins x ns vs, u => ∃ p C dx us, u = .ref p ∧ z p ∧ c.mg x = some (.ref C) ∧ H p = some (.ins C dx (ns.zip us)) ∧ ns.length = us.length ∧ RVs c z H vs us
  | .obj _, _ => False
  | .glb x, u => ∃ a, c.mg x = some (.ref a) ∧ u = .ref a
  | .ty n, u => u = .ty n
  | .raw a, u => u = .ref a
def RVs (c : Ct) (z : Addr → Prop) (H : Hp) : List VV → List V → Prop
  | [], us => us = []
  | x :: xs, us => ∃ u r, us = u :: r ∧ RV c z H x u ∧ RVs c z H xs r
end
/-- a value at the top: a root, or data -/
def RT (c : Ct) (g : Gh) (H : Hp) : VV → V → Prop
  | .obj n, u => ∃ a, g.io[n]? = some a ∧ u = .ref a
  | v, u => RV c g.fz H v u
def RTs (c : Ct) (g : Gh) (H : Hp) : List VV → List V → Prop
  | [], us => us = []
  | x :: xs, us => ∃ u r, us = u :: r ∧ RT c g H x u ∧ RTs c g H xs r
def VV.isObj : VV → Bool
  | .obj _ => true
  | _ => false
def RO (c : Ct) (g : Gh) (H : Hp) : VO → Addr → Prop
  | .fzn v, a => g.fz a ∧ RV c g.fz H v (.ref a)
  | .fl xs, a => ¬ g.fz a ∧ ∃ us, H a = some (.lst us) ∧ RVs c g.fz H xs us
  | .lo xs, a => ¬ g.fz a ∧ ∃ us, H a = some (.lst us) ∧ RTs c g H xs us
  | .dT ks vs, a => ¬ g.fz a ∧ ∃ us, H a = some (.dT (ks.zip us)) ∧ ks.length = us.length ∧ RVs c g.fz H vs us
  | .dK ks vs, a => ¬ g.fz a ∧ ∃ us, H a = some (.dK (ks.zip us)) ∧ ks.length = us.length ∧ RVs c g.fz H vs us
  | .ins x ns vs, a => ¬ g.fz a ∧ ∃ C dx us, c.mg x = some (.ref C) ∧ H a = some (.ins C dx (ns.zip us)) ∧ ns.length = us.length ∧ RTs c g H vs us
/-- the table of lambdas of the def that makes some -/
def lamFn : Str := "law"
def lamQ : Str := lamFn ++ ".<locals>." ++ "<lambda>"
def LTab (c : Ct) (H : Hp) : Prop := ∀ cc P, PySem.W.tabIn c.K lamFn = some (cc, P) → LamX.TabS H P lamQ
def NoTab (D : Addr) (o : Option HO) : Prop := (∀ ps, o ≠ some (.tbl ps)) ∧ ∀ q, o ≠ some (LamX.CodeO D q)
theorem NoTab.none {D : Addr} {o : Option HO} (e : o = Option.none) : NoTab D o := by
  subst e
  exact ⟨fun _ z => (by cases z), fun _ z => (by cases z)⟩
theorem noTab_of {D : Addr} {o : HO} (h : ∀ ps, o ≠ .tbl ps) (h2 : ∀ f, o ≠ .ext f) : NoTab D (some o) :=
  ⟨fun ps z => h ps (Option.some.inj z), fun q z => by
    have z := Option.some.inj z
    unfold LamX.CodeO at z
    exact h2 _ z⟩
theorem LTab.upd {c : Ct} {H : Hp} {D : Addr} {O : HO} (t : LTab c H) (n : NoTab D (H D)) : LTab c (upd H D O) := fun cc P e => by
  obtain ⟨ps, h1, h2, h3⟩ := t cc P e
  refine ⟨ps, by rw [upd_ne (fun z => n.1 ps (by rw [← z]; exact h1))]; exact h1, h2, fun pos cv hc => ?_⟩
  obtain ⟨k, e1, e2⟩ := h3 pos cv hc
  exact ⟨k, e1, by rw [upd_ne (fun z => n.2 lamQ (by rw [← z]; exact e2))]; exact e2⟩
theorem RO.noTab {c : Ct} {g : Gh} {H : Hp} {o : VO} {a : Addr} (h : RO c g H o a) (nz : ¬ g.fz a) : NoTab a (H a) := by
  cases o with
  | fzn v => exact absurd h.1 nz
  | fl xs => obtain ⟨h1, us, h3, h4⟩ := h; rw [h3]; exact noTab_of (fun _ z => by cases z) (fun _ z => by cases z)
  | lo xs => obtain ⟨h1, us, h3, h4⟩ := h; rw [h3]; exact noTab_of (fun _ z => by cases z) (fun _ z => by cases z)
  | dT ks vs => obtain ⟨h1, us, h3, h4⟩ := h; rw [h3]; exact noTab_of (fun _ z => by cases z) (fun _ z => by cases z)
  | dK ks vs => obtain ⟨h1, us, h3, h4⟩ := h; rw [h3]; exact noTab_of (fun _ z => by cases z) (fun _ z => by cases z)
  | ins x ns vs => obtain ⟨h1, C, dx, us, h3, h4, h5⟩ := h; rw [h4]; exact noTab_of (fun _ z => by cases z) (fun _ z => by cases z)
structure RH (c : Ct) (g : Gh) (h : VH) (H : Hp) : Prop where
  len : g.io.length = h.length
  nd : g.io.Nodup
  at' : ∀ (n : Nat) (o : VO) (a : Addr), h[n]? = some o → g.io[n]? = some a → RO c g H o a
  fz : ∀ q, g.fz q → ∃ o, H q = some o
  kp : ∀ q, g.kp q → ∃ o, H q = some o
  kd : ∀ q, g.kp q → ¬ g.fz q ∧ q ∉ g.io
  tb : LTab c H
  nt : ∀ q, g.fz q ∨ g.kp q → ∀ ps, H q ≠ some (.tbl ps)
structure Stp (g : Gh) (H : Hp) (g' : Gh) (H' : Hp) : Prop where
  io : g.io <+: g'.io
  fz : ∀ p, g.fz p → g'.fz p
  kp : ∀ p, g.kp p → g'.kp p
  fH : ∀ p, g.fz p → Ke (H p) (H' p)
  kH : ∀ p, g.kp p → H' p = H p
  tp : ∀ p us, H p = some (.tup us) → H' p = some (.tup us)
theorem Stp.refl {g : Gh} {H : Hp} : Stp g H g H := ⟨List.prefix_rfl, fun _ h => h, fun _ h => h, fun _ _ => .refl, fun _ _ => rfl, fun _ _ h => h⟩
theorem Stp.trans {g g1 g2 : Gh} {H H1 H2 : Hp} (a : Stp g H g1 H1) (b : Stp g1 H1 g2 H2) : Stp g H g2 H2 :=
  ⟨a.io.trans b.io, fun p h => b.fz p (a.fz p h), fun p h => b.kp p (a.kp p h), fun p h => (a.fH p h).trans (b.fH p (a.fz p h)), fun p h => (b.kH p (a.kp p h)).trans (a.kH p h), fun p us h => b.tp p us (a.tp p us h)⟩
mutual
theorem RV.stp {c : Ct} {z z' : Addr → Prop} {H H' : Hp} (hz : ∀ p, z p → z' p) (hH : ∀ p, z p → Ke (H p) (H' p)) (ht : ∀ p us, H p = some (.tup us) → H' p = some (.tup us)) : ∀ (v : VV) (u : V), RV c z H v u → RV c z' H' v u
  | .non, u, h => by simpa only [RV] using h
  | .bl b, u, h => by simpa only [RV] using h
  | .int i, u, h => by simpa only [RV] using h
  | .str x, u, h => by simpa only [RV] using h
  | .tup xs, u, h => by
    rw [RV] at h ⊢
    obtain ⟨p, us, e, r, q⟩ := h
    exact ⟨p, us, e, r.stp ht, RVs.stp hz hH ht xs us q⟩
  | .lst xs, u, h => by
    rw [RV] at h ⊢
    obtain ⟨p, us, e, hp, r, q⟩ := h
    exact ⟨p, us, e, hz p hp, (hH p hp).at r (fun _ z => nomatch z), RVs.stp hz hH ht xs us q⟩
  | .scr xs, u, h => by
    rw [RV] at h ⊢
    obtain ⟨p, us, e, r, q⟩ := h
    exact ⟨p, us, e, r.stp hz hH, RVs.stp hz hH ht xs us q⟩
  | .dT ks vs, u, h => by
    rw [RV] at h ⊢
    obtain ⟨p, us, e, hp, r, l, q⟩ := h
    exact ⟨p, us, e, hz p hp, (hH p hp).rdL r, l, RVs.stp hz hH ht vs us q⟩
  | .dK ks vs, u, h => by
    rw [RV] at h ⊢
    obtain ⟨p, us, e, hp, r, l, q⟩ := h
    exact ⟨p, us, e, hz p hp, (hH p hp).dk r, l, RVs.stp hz hH ht vs us q⟩
  | .ins x ns vs, u, h => by
    rw [RV] at h ⊢
    obtain ⟨p, C, dx, us, e, hp, m, r, l, q⟩ := h
    exact ⟨p, C, dx, us, e, hz p hp, m, (hH p hp).at r (fun _ z => nomatch z), l, RVs.stp hz hH ht vs us q⟩
  | .obj _, _, h => by rw [RV] at h; exact h.elim
  | .glb x, u, h => by simpa only [RV] using h
  | .ty n, u, h => by simpa only [RV] using h
  | .raw a, u, h => by simpa only [RV] using h
theorem RVs.stp {c : Ct} {z z' : Addr → Prop} {H H' : Hp} (hz : ∀ p, z p → z' p) (hH : ∀ p, z p → Ke (H p) (H' p)) (ht : ∀ p us, H p = some (.tup us) → H' p = some (.tup us)) : ∀ (vs : List VV) (us : List V), RVs c z H vs us → RVs c z' H' vs us
  | [], us, h => by simpa only [RVs] using h
  | x :: xs, us, h => by
    rw [RVs] at h ⊢
    obtain ⟨u, r, e, a, b⟩ := h
    exact ⟨u, r, e, RV.stp hz hH ht x u a, RVs.stp hz hH ht xs r b⟩
end
theorem Stp.rv {c : Ct} {g g' : Gh} {H H' : Hp} (s : Stp g H g' H') {v : VV} {u : V} (h : RV c g.fz H v u) : RV c g'.fz H' v u := RV.stp s.fz s.fH s.tp _ _ h
theorem Stp.rvs {c : Ct} {g g' : Gh} {H H' : Hp} (s : Stp g H g' H') {v : List VV} {u : List V} (h : RVs c g.fz H v u) : RVs c g'.fz H' v u := RVs.stp s.fz s.fH s.tp _ _ h
theorem RT.of_rv {c : Ct} {g : Gh} {H : Hp} {v : VV} {u : V} (h : RV c g.fz H v u) : RT c g H v u := by
  cases v with
  | obj n => rw [RV] at h; exact h.elim
  | _ => exact h
theorem RT.rv {c : Ct} {g : Gh} {H : Hp} {v : VV} {u : V} (h : RT c g H v u) (n : v.isObj = false) : RV c g.fz H v u := by
  cases v with
  | obj n => cases n
  | _ => exact h
theorem RT.stp {c : Ct} {g g' : Gh} {H H' : Hp} (s : Stp g H g' H') {v : VV} {u : V} (h : RT c g H v u) : RT c g' H' v u := by
  cases v with
  | obj n =>
    obtain ⟨a, e, hu⟩ := h
    refine ⟨a, ?_, hu⟩
    obtain ⟨l, hl⟩ := s.io
    rw [← hl, List.getElem?_append_left (List.getElem?_eq_some_iff.mp e).1]
    exact e
  | _ => exact RT.of_rv (RV.stp s.fz s.fH s.tp _ _ (RT.rv h rfl))
theorem RTs.stp {c : Ct} {g g' : Gh} {H H' : Hp} (s : Stp g H g' H') : ∀ {vs : List VV} {us : List V}, RTs c g H vs us → RTs c g' H' vs us
  | [], us, h => h
  | x :: xs, us, h => by
    obtain ⟨u, r, e, a, b⟩ := h
    exact ⟨u, r, e, a.stp s, RTs.stp s b⟩
theorem RTs.of_rvs {c : Ct} {g : Gh} {H : Hp} : ∀ {vs : List VV} {us : List V}, RVs c g.fz H vs us → RTs c g H vs us
  | [], us, h => by rw [RVs] at h; exact h
  | x :: xs, us, h => by
    rw [RVs] at h
    obtain ⟨u, r, e, a, b⟩ := h
    exact ⟨u, r, e, RT.of_rv a, RTs.of_rvs b⟩
theorem RTs.rvs {c : Ct} {g : Gh} {H : Hp} : ∀ {vs : List VV} {us : List V}, RTs c g H vs us → vs.any VV.isObj = false → RVs c g.fz H vs us
  | [], us, h, _ => by rw [RVs]; exact h
  | x :: xs, us, h, n => by
    obtain ⟨u, r, e, a, b⟩ := h
    rw [List.any_cons, Bool.or_eq_false_iff] at n
    rw [RVs]
    exact ⟨u, r, e, a.rv n.1, RTs.rvs b n.2⟩
theorem RVs.len {c : Ct} {z : Addr → Prop} {H : Hp} : ∀ {vs : List VV} {us : List V}, RVs c z H vs us → vs.length = us.length
  | [], us, h => by rw [RVs] at h; rw [h]; rfl
  | x :: xs, us, h => by
    rw [RVs] at h
    obtain ⟨u, r, e, a, b⟩ := h
    rw [e, List.length_cons, List.length_cons, RVs.len b]
theorem RTs.len {c : Ct} {g : Gh} {H : Hp} : ∀ {vs : List VV} {us : List V}, RTs c g H vs us → vs.length = us.length
  | [], us, h => by rw [show us = [] from h]; rfl
  | x :: xs, us, h => by
    obtain ⟨u, r, e, a, b⟩ := h
    rw [e, List.length_cons, List.length_cons, RTs.len b]
theorem RVs.get {c : Ct} {z : Addr → Prop} {H : Hp} : ∀ {vs : List VV} {us : List V} {i : Nat} {v : VV}, RVs c z H vs us → vs[i]? = some v → ∃ u, us[i]? = some u ∧ RV c z H v u
  | [], us, i, v, h, e => by simp at e
  | x :: xs, us, i, v, h, e => by
    rw [RVs] at h
    obtain ⟨u, r, rfl, a, b⟩ := h
    cases i with
    | zero => simp at e; subst e; exact ⟨u, rfl, a⟩
    | succ i => exact RVs.get (i := i) b (by simpa using e)
theorem RVs.app {c : Ct} {z : Addr → Prop} {H : Hp} : ∀ {vs ws : List VV} {us ys : List V}, RVs c z H vs us → RVs c z H ws ys → RVs c z H (vs ++ ws) (us ++ ys)
  | [], ws, us, ys, h, k => by rw [RVs] at h; subst h; exact k
  | x :: xs, ws, us, ys, h, k => by
    rw [RVs] at h
    obtain ⟨u, r, rfl, a, b⟩ := h
    show RVs c z H (x :: (xs ++ ws)) (u :: (r ++ ys))
    rw [RVs]
    exact ⟨u, _, rfl, a, RVs.app b k⟩
theorem RVs.set {c : Ct} {z : Addr → Prop} {H : Hp} {v : VV} {u : V} (q : RV c z H v u) : ∀ {vs : List VV} {us : List V} {i : Nat}, RVs c z H vs us → RVs c z H (vs.set i v) (us.set i u)
  | [], us, i, h => by rw [RVs] at h; subst h; simp only [List.set_nil]; rw [RVs]
  | x :: xs, us, i, h => by
    rw [RVs] at h
    obtain ⟨y, r, rfl, a, b⟩ := h
    cases i with
    | zero => simp only [List.set_cons_zero]; rw [RVs]; exact ⟨u, r, rfl, q, b⟩
    | succ i => simp only [List.set_cons_succ]; rw [RVs]; exact ⟨y, _, rfl, a, RVs.set q b⟩
theorem RVs.one {c : Ct} {z : Addr → Prop} {H : Hp} {v : VV} {u : V} (q : RV c z H v u) : RVs c z H [v] [u] := by
  rw [RVs]; exact ⟨u, [], rfl, q, by rw [RVs]⟩
theorem RVs.nil {c : Ct} {z : Addr → Prop} {H : Hp} : RVs c z H [] [] := by rw [RVs]
theorem RVs.cons {c : Ct} {z : Addr → Prop} {H : Hp} {v : VV} {u : V} {vs us} (q : RV c z H v u) (r : RVs c z H vs us) : RVs c z H (v :: vs) (u :: us) := by
  rw [RVs]; exact ⟨u, us, rfl, q, r⟩
theorem RVs.take {c : Ct} {z : Addr → Prop} {H : Hp} : ∀ {vs : List VV} {us : List V} (n : Nat), RVs c z H vs us → RVs c z H (vs.take n) (us.take n)
  | _, _, 0, _ => by simp only [List.take_zero]; exact RVs.nil
  | [], us, n + 1, h => by rw [RVs] at h; subst h; simp only [List.take_nil]; exact RVs.nil
  | x :: xs, us, n + 1, h => by
    rw [RVs] at h
    obtain ⟨u, r, rfl, a, b⟩ := h
    simp only [List.take_succ_cons]
    exact RVs.cons a (RVs.take n b)
theorem RVs.drop {c : Ct} {z : Addr → Prop} {H : Hp} : ∀ {vs : List VV} {us : List V} (n : Nat), RVs c z H vs us → RVs c z H (vs.drop n) (us.drop n)
  | _, _, 0, h => by simpa only [List.drop_zero] using h
  | [], us, n + 1, h => by rw [RVs] at h; subst h; simp only [List.drop_nil]; exact RVs.nil
  | x :: xs, us, n + 1, h => by
    rw [RVs] at h
    obtain ⟨u, r, rfl, a, b⟩ := h
    simp only [List.drop_succ_cons]
    exact RVs.drop n b
theorem RT.back {c : Ct} {g g' : Gh} {H : Hp} (e1 : g'.io = g.io) (e2 : g'.fz = g.fz) {v : VV} {u : V} (h : RT c g H v u) : RT c g' H v u := by
  cases v with
  | obj n => obtain ⟨a, b, d⟩ := h; exact ⟨a, by rw [e1]; exact b, d⟩
  | _ => exact RT.of_rv (by rw [e2]; exact RT.rv h rfl)
theorem RTs.back {c : Ct} {g : Gh} {H : Hp} {k : Addr → Prop} : ∀ {vs : List VV} {us : List V}, RTs c g H vs us → RTs c { g with kp := k } H vs us
  | [], us, h => h
  | x :: xs, us, h => by
    obtain ⟨u, r, e, a, b⟩ := h
    exact ⟨u, r, e, a.back rfl rfl, RTs.back b⟩
/-- slots -/
structure RS (c : Ct) (g : Gh) (H : Hp) (ρ : VSt) (σ : St) : Prop where
  len : ρ.length = σ.length
  get : ∀ (i : Nat) (v : VV), ρ[i]? = some (some v) → ∃ u, σ[i]? = some (some u) ∧ RT c g H v u
theorem RS.stp {c : Ct} {g g' : Gh} {H H' : Hp} {ρ : VSt} {σ : St} (s : Stp g H g' H') (h : RS c g H ρ σ) : RS c g' H' ρ σ := ⟨h.len, fun i v e => by
  obtain ⟨u, a, b⟩ := h.get i v e
  exact ⟨u, a, b.stp s⟩⟩
theorem RO.stp {c : Ct} {g g' : Gh} {H H' : Hp} {o : VO} {a : Addr} (s : Stp g H g' H') (nz : ¬ g.fz a → ¬ g'.fz a) (e : H' a = H a) (h : RO c g H o a) : RO c g' H' o a := by
  cases o with
  | fzn v => exact ⟨s.fz a h.1, s.rv h.2⟩
  | fl xs =>
    obtain ⟨h1, us, h3, h4⟩ := h
    exact ⟨nz h1, us, e.trans h3, s.rvs h4⟩
  | lo xs =>
    obtain ⟨h1, us, h3, h4⟩ := h
    exact ⟨nz h1, us, e.trans h3, h4.stp s⟩
  | dT ks vs =>
    obtain ⟨h1, us, h3, h4, h5⟩ := h
    exact ⟨nz h1, us, e.trans h3, h4, s.rvs h5⟩
  | dK ks vs =>
    obtain ⟨h1, us, h3, h4, h5⟩ := h
    exact ⟨nz h1, us, e.trans h3, h4, s.rvs h5⟩
  | ins x ns vs =>
    obtain ⟨h1, C, dx, us, h3, h4, h5, h6⟩ := h
    exact ⟨nz h1, C, dx, us, h3, e.trans h4, h5, h6.stp s⟩
theorem RO.some {c : Ct} {g : Gh} {H : Hp} {o : VO} {a : Addr} (fz : ∀ q, g.fz q → ∃ o, H q = some o) (h : RO c g H o a) : ∃ o, H a = some o := by
  cases o with
  | fzn v => exact fz a h.1
  | fl xs => obtain ⟨h1, us, h3, h4⟩ := h; exact ⟨_, h3⟩
  | lo xs => obtain ⟨h1, us, h3, h4⟩ := h; exact ⟨_, h3⟩
  | dT ks vs => obtain ⟨h1, us, h3, h4⟩ := h; exact ⟨_, h3⟩
  | dK ks vs => obtain ⟨h1, us, h3, h4⟩ := h; exact ⟨_, h3⟩
  | ins x ns vs => obtain ⟨h1, C, dx, us, h3, h4, h5⟩ := h; exact ⟨_, h4⟩
theorem RH.root {c : Ct} {g : Gh} {h : VH} {H : Hp} (R : RH c g h H) {a : Addr} (ha : a ∈ g.io) : ∃ o, H a = some o := by
  obtain ⟨n, hn, e⟩ := List.getElem_of_mem ha
  have hl : n < h.length := by rw [← R.len]; exact hn
  exact (R.at' n h[n] a (List.getElem?_eq_getElem hl) (by rw [List.getElem?_eq_getElem hn, e])).some R.fz
theorem RH.rootNt {c : Ct} {g : Gh} {h : VH} {H : Hp} (R : RH c g h H) {a : Addr} (ha : a ∈ g.io) (ps : Array Value) : H a ≠ some (.tbl ps) := by
  obtain ⟨n, hn, e⟩ := List.getElem_of_mem ha
  have hl : n < h.length := by rw [← R.len]; exact hn
  by_cases z : g.fz a
  · exact R.nt a (.inl z) ps
  · exact (RO.noTab (R.at' n h[n] a (List.getElem?_eq_getElem hl) (by rw [List.getElem?_eq_getElem hn, e])) z).1 ps
theorem nodup_inj {l : List Addr} (h : l.Nodup) {i j : Nat} {a : Addr} (h1 : l[i]? = some a) (h2 : l[j]? = some a) : i = j :=
  (List.getElem?_inj (List.getElem?_eq_some_iff.mp h1).1 h).mp (h1.trans h2.symm)
/-- new data: p, frozen -/
def Gh.frz (g : Gh) (p : Addr) : Gh := { g with fz := fun q => g.fz q ∨ q = p }
theorem Stp.new {c : Ct} {g : Gh} {h : VH} {H : Hp} (R : RH c g h H) {p : Addr} {o : HO} (np : H p = none) : Stp g H (g.frz p) (upd H p o) := by
  have ne : ∀ q, (∃ o, H q = some o) → q ≠ p := fun q ⟨o, e⟩ z => by rw [z, np] at e; cases e
  exact ⟨List.prefix_rfl, fun _ h => .inl h, fun _ h => h, fun q h => .inl (upd_ne (ne q (R.fz q h))), fun q h => upd_ne (ne q (R.kp q h)), fun q us h => (upd_ne (ne q ⟨_, h⟩)).trans h⟩
theorem RH.new {c : Ct} {g : Gh} {h : VH} {H : Hp} (R : RH c g h H) {p : Addr} {o : HO} (np : H p = none) (nt : ∀ ps, o ≠ .tbl ps := by intro _ z; cases z) : RH c (g.frz p) h (upd H p o) := by
  have ne : ∀ q, (∃ o, H q = some o) → q ≠ p := fun q ⟨o, e⟩ z => by rw [z, np] at e; cases e
  refine ⟨R.len, R.nd, fun n o a h1 h2 => ?_, fun q h => ?_, fun q h => ?_, fun q h => ⟨fun z => z.elim (R.kd q h).1 (ne q (R.kp q h)), (R.kd q h).2⟩, R.tb.upd (.none np), fun q h ps z => ?_⟩
  rotate_left 3
  · by_cases e : q = p
    · subst e; rw [upd_same] at z; exact nt ps (Option.some.inj z)
    · rw [upd_ne e] at z
      rcases h with h | h
      · exact R.nt q (.inl (h.elim id (fun y => absurd y e))) ps z
      · exact R.nt q (.inr h) ps z
  · have na : a ≠ p := ne a (R.root (List.mem_of_getElem? h2))
    exact RO.stp (Stp.new R np) (fun h z => z.elim h na) (upd_ne na) (R.at' n o a h1 h2)
  · rcases h with h | h
    · rw [upd_ne (ne q (R.fz q h))]; exact R.fz q h
    · rw [h]; exact ⟨_, upd_same⟩
  · rw [upd_ne (ne q (R.kp q h))]; exact R.kp q h
/-- heap beside that is not ours -/
theorem Stp.junk {c : Ct} {g : Gh} {h : VH} {H : Hp} (R : RH c g h H) {p : Addr} {o : HO} (np : H p = none) : Stp g H g (upd H p o) := by
  have ne : ∀ q, (∃ o, H q = some o) → q ≠ p := fun q ⟨o, e⟩ z => by rw [z, np] at e; cases e
  exact ⟨List.prefix_rfl, fun _ h => h, fun _ h => h, fun q h => .inl (upd_ne (ne q (R.fz q h))), fun q h => upd_ne (ne q (R.kp q h)), fun q us h => (upd_ne (ne q ⟨_, h⟩)).trans h⟩
theorem RH.junk {c : Ct} {g : Gh} {h : VH} {H : Hp} (R : RH c g h H) {p : Addr} {o : HO} (np : H p = none) : RH c g h (upd H p o) := by
  have ne : ∀ q, (∃ o, H q = some o) → q ≠ p := fun q ⟨o, e⟩ z => by rw [z, np] at e; cases e
  refine ⟨R.len, R.nd, fun n o a h1 h2 => ?_, fun q h => ?_, fun q h => ?_, R.kd, R.tb.upd (.none np), fun q h ps z => R.nt q h ps (by rw [upd_ne (ne q (h.elim (R.fz q) (R.kp q)))] at z; exact z)⟩
  · have na : a ≠ p := ne a (R.root (List.mem_of_getElem? h2))
    exact RO.stp (Stp.junk R np) (fun h => h) (upd_ne na) (R.at' n o a h1 h2)
  · rw [upd_ne (ne q (R.fz q h))]; exact R.fz q h
  · rw [upd_ne (ne q (R.kp q h))]; exact R.kp q h
/-- a new root -/
def Gh.add (g : Gh) (p : Addr) : Gh := { g with io := g.io ++ [p] }
theorem Stp.add {g : Gh} {H : Hp} {p : Addr} : Stp g H (g.add p) H := ⟨List.prefix_append _ _, fun _ h => h, fun _ h => h, fun _ _ => .refl, fun _ _ => rfl, fun _ _ h => h⟩
theorem RH.add {c : Ct} {g : Gh} {h : VH} {H : Hp} (R : RH c g h H) {p : Addr} {o : VO} (hp : p ∉ g.io) (hk : ¬ g.kp p) (ro : RO c (g.add p) H o p) : RH c (g.add p) (h ++ [o]) H := by
  refine ⟨by show (g.io ++ [p]).length = _; simp [R.len], ?_, fun n o' a h1 h2 => ?_, R.fz, R.kp, fun q h => ⟨(R.kd q h).1, fun z => ?_⟩, R.tb, R.nt⟩
  · show (g.io ++ [p]).Nodup
    rw [List.nodup_append]
    exact ⟨R.nd, by simp, fun a ha b hb => by simp at hb; subst hb; intro e; subst e; exact hp ha⟩
  · have h2' : (g.io ++ [p])[n]? = some a := h2
    by_cases hn : n < h.length
    · rw [List.getElem?_append_left hn] at h1
      rw [List.getElem?_append_left (by rw [R.len]; exact hn)] at h2'
      exact RO.stp Stp.add (fun h => h) rfl (R.at' n o' a h1 h2')
    · have : n = h.length := by
        have := (List.getElem?_eq_some_iff.mp h1).1
        simp at this; omega
      subst this
      rw [List.getElem?_append_right (Nat.le_refl _), Nat.sub_self] at h1
      rw [List.getElem?_append_right (by rw [R.len]; exact Nat.le_refl _), R.len, Nat.sub_self] at h2'
      simp at h1 h2'
      subst h1 h2'
      exact ro
  · rcases List.mem_append.mp z with z | z
    · exact (R.kd q h).2 z
    · simp at z; subst z; exact hk h
/-- a root is written -/
theorem Stp.wr {c : Ct} {g : Gh} {H : Hp} {a : Addr} {O : HO} (nz : ¬ g.fz a) (nk : ¬ g.kp a) (nt : ∀ us, H a ≠ some (.tup us)) : Stp g H g (upd H a O) :=
  ⟨List.prefix_rfl, fun _ h => h, fun _ h => h, fun q h => .inl (upd_ne (fun z => nz (z ▸ h))), fun q h => upd_ne (fun z => nk (z ▸ h)), fun q us h => (upd_ne (fun (z : q = a) => nt us (by rw [← z]; exact h))).trans h⟩
theorem RH.wr {c : Ct} {g : Gh} {h : VH} {H : Hp} (R : RH c g h H) {n : Nat} {a : Addr} {o : VO} {O : HO} (ha : g.io[n]? = some a) (nz : ¬ g.fz a) (nt : ∀ us, H a ≠ some (.tup us)) (ro : RO c g (upd H a O) o a) : RH c g (h.set n o) (upd H a O) := by
  have nk : ¬ g.kp a := fun z => (R.kd a z).2 (List.mem_of_getElem? ha)
  have hio : ∃ o0, h[n]? = some o0 := by
    have hl : n < h.length := by rw [← R.len]; exact (List.getElem?_eq_some_iff.mp ha).1
    exact ⟨_, List.getElem?_eq_getElem hl⟩
  obtain ⟨o0, ho0⟩ := hio
  refine ⟨by rw [List.length_set]; exact R.len, R.nd, fun m o' b h1 h2 => ?_, fun q h => ?_, fun q h => ?_, R.kd, R.tb.upd ((R.at' n o0 a ho0 ha).noTab nz), fun q h ps z => R.nt q h ps (by rw [upd_ne (show q ≠ a from fun y => h.elim (fun h => nz (y ▸ h)) (fun h => nk (y ▸ h)))] at z; exact z)⟩
  · by_cases e : m = n
    · subst e
      rw [ha] at h2; cases h2
      have hl : m < h.length := by have := (List.getElem?_eq_some_iff.mp h1).1; simpa using this
      rw [List.getElem?_set_self hl] at h1
      cases h1
      exact ro
    · rw [List.getElem?_set_ne (Ne.symm e)] at h1
      have nb : b ≠ a := fun z => by
        subst z
        exact e (nodup_inj R.nd h2 ha)
      exact RO.stp (Stp.wr (c := c) nz nk nt) (fun h => h) (upd_ne nb) (R.at' m o' b h1 h2)
  · rw [upd_ne (show q ≠ a from fun z => nz (z ▸ h))]; exact R.fz q h
  · rw [upd_ne (show q ≠ a from fun z => nk (z ▸ h))]; exact R.kp q h
/-- a root is frozen -/
theorem Stp.kill {g : Gh} {H : Hp} {p : Addr} : Stp g H (g.frz p) H := ⟨List.prefix_rfl, fun _ h => .inl h, fun _ h => h, fun _ _ => .refl, fun _ _ => rfl, fun _ _ h => h⟩
theorem RH.kill {c : Ct} {g : Gh} {h : VH} {H : Hp} (R : RH c g h H) {n : Nat} {a : Addr} {v : VV} (ha : g.io[n]? = some a) (rv : RV c (g.frz a).fz H v (.ref a)) : RH c (g.frz a) (h.set n (.fzn v)) H := by
  refine ⟨by rw [List.length_set]; exact R.len, R.nd, fun m o' b h1 h2 => ?_, fun q h => ?_, R.kp, fun q h => ⟨fun z => z.elim (R.kd q h).1 (fun e => (R.kd q h).2 (e ▸ List.mem_of_getElem? ha)), (R.kd q h).2⟩, R.tb, fun q h ps z => ?_⟩
  rotate_left 2
  · rcases h with (h | h) | h
    · exact R.nt q (.inl h) ps z
    · rw [h] at z; exact R.rootNt (List.mem_of_getElem? ha) ps z
    · exact R.nt q (.inr h) ps z
  · have h2' : g.io[m]? = some b := h2
    by_cases e : m = n
    · subst e
      rw [ha] at h2'; cases h2'
      have hl : m < h.length := by have := (List.getElem?_eq_some_iff.mp h1).1; simpa using this
      rw [List.getElem?_set_self hl] at h1
      cases h1
      exact ⟨.inr rfl, rv⟩
    · rw [List.getElem?_set_ne (Ne.symm e)] at h1
      have nb : b ≠ a := fun z => by
        subst z
        exact e (nodup_inj R.nd h2' ha)
      exact RO.stp Stp.kill (fun h z => z.elim h nb) rfl (R.at' m o' b h1 h2')
  · rcases h with h | h
    · exact R.fz q h
    · rw [h]; exact R.root (List.mem_of_getElem? ha)
/-- an address that is ours for a while: others keep it -/
def Gh.keep (g : Gh) (D : Addr) : Gh := { g with kp := fun q => g.kp q ∨ q = D }
def Gh.back (g : Gh) (k : Addr → Prop) : Gh := { g with kp := k }
theorem Stp.keep {g : Gh} {H : Hp} {D : Addr} : Stp g H (g.keep D) H := ⟨List.prefix_rfl, fun _ h => h, fun _ h => .inl h, fun _ _ => .refl, fun _ _ => rfl, fun _ _ h => h⟩
theorem RH.keep {c : Ct} {g : Gh} {h : VH} {H : Hp} (R : RH c g h H) {D : Addr} {o : HO} (e : H D = some o) (nf : ¬ g.fz D) (ni : D ∉ g.io) (nt : ∀ ps, o ≠ .tbl ps := by intro _ z; cases z) : RH c (g.keep D) h H :=
  ⟨R.len, R.nd, fun n o a h1 h2 => RO.stp Stp.keep (fun h => h) rfl (R.at' n o a h1 h2), R.fz, fun q h => h.elim (R.kp q) (fun z => by rw [z]; exact ⟨o, e⟩), fun q h => h.elim (R.kd q) (fun z => by rw [z]; exact ⟨nf, ni⟩), R.tb, fun q h ps z => by
    rcases h with h | h | h
    · exact R.nt q (.inl h) ps z
    · exact R.nt q (.inr h) ps z
    · rw [h, e] at z; exact nt ps (Option.some.inj z)⟩
theorem RH.back {c : Ct} {g : Gh} {h : VH} {H : Hp} (R : RH c g h H) {k : Addr → Prop} (hk : ∀ p, k p → g.kp p) : RH c (g.back k) h H := by
  refine ⟨R.len, R.nd, fun n o a h1 h2 => ?_, R.fz, fun q h => R.kp q (hk q h), fun q h => R.kd q (hk q h), R.tb, fun q h => R.nt q (h.imp id (hk q))⟩
  have := R.at' n o a h1 h2
  cases o with
  | fzn v => exact this
  | fl xs => exact this
  | lo xs =>
    obtain ⟨h1, us, h3, h4⟩ := this
    exact ⟨h1, us, h3, RTs.back h4⟩
  | dT ks vs => exact this
  | dK ks vs => exact this
  | ins x ns vs =>
    obtain ⟨h1, C, dx, us, h3, h4, h5, h6⟩ := this
    refine ⟨h1, C, dx, us, h3, h4, h5, ?_⟩
    exact RTs.back h6
/-! the reading of a semantics -/
def Pst {α β : Type} (c : Ct) (W : WX) (σ : St) (R : Gh → Hp → α → β → Prop) (g : Gh) (H : Hp) (Q : β → Hp → Prop) : Res α → Prop
  | .no => False
  | .ok v h' => ∀ g' H' u, Stp g H g' H' → RH c g' h' H' → R g' H' v u → Q u H'
  | .exc x ns vs h' => ∀ g' H' C d us, Stp g H g' H' → RH c g' h' H' → c.mg x = some (.ref C) → (H' d = some (.xd (ns.zip us)) ∧ ¬ g'.fz d ∧ d ∉ g'.io) → ns.length = us.length → RVs c g'.fz H' vs us → W (.ref C) (some d) σ H'
theorem Pst.step {α β : Type} {c : Ct} {W : WX} {σ : St} {R : Gh → Hp → α → β → Prop} {g g1 : Gh} {H H1 : Hp} {Q : β → Hp → Prop} {r : Res α} (s : Stp g H g1 H1) (h : Pst c W σ R g H Q r) : Pst c W σ R g1 H1 Q r := by
  cases r with
  | no => exact h
  | ok v h' => exact fun g' H' u st => h g' H' u (s.trans st)
  | exc x ns vs h' => exact fun g' H' C d us st => h g' H' C d us (s.trans st)
theorem Pst.bind {α β γ δ : Type} {c : Ct} {W : WX} {σ : St} {R : Gh → Hp → α → β → Prop} {R' : Gh → Hp → γ → δ → Prop} {g : Gh} {H : Hp} {Q : δ → Hp → Prop} {r : Res α} {k : α → VH → Res γ} (h : Pst c W σ R' g H Q (r.bind k)) :
    Pst c W σ R g H (fun u H1 => ∃ g1 v h1, Stp g H g1 H1 ∧ RH c g1 h1 H1 ∧ R g1 H1 v u ∧ Pst c W σ R' g1 H1 Q (k v h1)) r := by
  cases r with
  | no => exact h
  | ok v h' => exact fun g' H' u st rh rv => ⟨g', v, h', st, rh, rv, Pst.step st h⟩
  | exc x ns vs h' => exact h
theorem Pst.imp {α β : Type} {c : Ct} {W : WX} {σ : St} {R : Gh → Hp → α → β → Prop} {g : Gh} {H : Hp} {Q Q' : β → Hp → Prop} {r : Res α} (h : Pst c W σ R g H Q r) (hq : ∀ u H, Q u H → Q' u H) : Pst c W σ R g H Q' r := by
  cases r with
  | no => exact h
  | ok v h' => exact fun g' H' u a b d => hq _ _ (h g' H' u a b d)
  | exc x ns vs h' => exact h
def tG {α β : Type} (c : Ct) (W : WX) (R : Gh → Hp → α → β → Prop) (f : VSt → VH → Res α) : St → Hp → (β → Hp → Prop) → Prop :=
  fun σ H Q => ∃ g ρ h, RH c g h H ∧ RS c g H ρ σ ∧ Pst c W σ R g H Q (f ρ h)
abbrev EF := VSt → VH → Res VV
abbrev TF := VSt → VH → Res Bool
abbrev AF := VSt → VH → Res (List VV)
def RB (_ : Gh) (_ : Hp) (a b : Bool) : Prop := b = a
abbrev tE (c : Ct) (W : WX) (f : EF) : TE := tG c W (RT c) f
abbrev tT (c : Ct) (W : WX) (f : TF) : TT := tG c W RB f
abbrev tA (c : Ct) (W : WX) (f : AF) : TA := tG c W (RTs c) f
abbrev ct (X : Cx) : Ct := ⟨X.K, X.mg⟩
theorem PE.mono {X : Cx} {e : Expr} {t t' : TE} (h : PE X e t) (m : ∀ σ H Q, t' σ H Q → t σ H Q) : PE X e t' := ⟨fun pins s σ H Q I q => h.run pins s σ H Q I (m σ H Q q)⟩
theorem PT.mono {X : Cx} {e : Expr} {t t' : TT} (h : PT X e t) (m : ∀ σ H Q, t' σ H Q → t σ H Q) : PT X e t' := ⟨fun pins s σ H Q I q => h.run pins s σ H Q I (m σ H Q q)⟩
theorem PW.mono {X : Cx} {e : Expr} {t t' : TT} (h : PW X e t) (m : ∀ σ H Q, t' σ H Q → t σ H Q) : PW X e t' := ⟨fun wh pins s σ H Q I q => h.run wh pins s σ H Q I (m σ H Q q)⟩
theorem PA.mono {X : Cx} {e : List Expr} {t t' : TA} (h : PA X e t) (m : ∀ σ H Q, t' σ H Q → t σ H Q) : PA X e t' := ⟨fun pos pins s σ H Q I q => h.run pos pins s σ H Q I (m σ H Q q)⟩
theorem PS.mono {X : Cx} {e : Stmt} {t t' : TS} (h : PS X e t) (m : ∀ D σ H, t' D σ H → t D σ H) : PS X e t' := ⟨fun pins s σ H D I q => h.run pins s σ H D I (m D σ H q)⟩
theorem PSs.mono {X : Cx} {e : List Stmt} {t t' : TS} (h : PSs X e t) (m : ∀ D σ H, t' D σ H → t D σ H) : PSs X e t' := ⟨fun pins s σ H D I q => h.run pins s σ H D I (m D σ H q)⟩
theorem PI.mono {X : Cx} {tg e : Expr} {t t' : TI} (h : PI X tg e t) (m : ∀ σ H R, t' σ H R → t σ H R) : PI X tg e t' := ⟨fun pins s σ H R I q => h.run pins s σ H R I (m σ H R q)⟩
/-- what is left behind a first part -/
theorem tG.bind {α β γ δ : Type} {c : Ct} {W : WX} {R : Gh → Hp → α → β → Prop} {R' : Gh → Hp → γ → δ → Prop} {f : VSt → VH → Res α} {k : α → VSt → VH → Res γ} {σ : St} {H : Hp} {Q : δ → Hp → Prop}
    (h : tG c W R' (fun ρ h => (f ρ h).bind fun v h1 => k v ρ h1) σ H Q) :
    tG c W R f σ H (fun u H1 => ∃ g1 ρ v h1, RH c g1 h1 H1 ∧ RS c g1 H1 ρ σ ∧ R g1 H1 v u ∧ Pst c W σ R' g1 H1 Q (k v ρ h1)) := by
  obtain ⟨g, ρ, h0, rh, rs, p⟩ := h
  refine ⟨g, ρ, h0, rh, rs, (Pst.bind (R := R) p).imp fun u H1 ⟨g1, v, h1, st, r1, rv, p1⟩ => ⟨g1, ρ, v, h1, r1, rs.stp st, rv, p1⟩⟩
end J
namespace J
open PySem L2
/-! semantic functions -/
abbrev SZ : Nat := 16777216
theorem SZ_le {n : Nat} (h : n ≤ SZ) : n ≤ sizeLine := by rw [sizeLine_eq]; exact h
theorem SZ_lt {n : Nat} (h : n < SZ) : n < sizeLine := by rw [sizeLine_eq]; exact h
def eVar (i : Nat) : EF := fun ρ h => match ρ[i]? with
  | some (some v) => .ok v h
  | _ => .no
def eC (v : VV) : EF := fun _ h => .ok v h
/-- an operation on values that makes no root and changes none -/
abbrev Op2 := VH → VV → VV → Option VV
abbrev Op1 := VH → VV → Option VV
abbrev OpN := VH → List VV → Option VV
def lift (o : Option VV) (h : VH) : Res VV := match o with
  | some v => .ok v h
  | none => .no
def eBin (op : Op2) (a b : EF) : EF := fun ρ h => (a ρ h).bind fun v h1 => (b ρ h1).bind fun w h2 => lift (op h2 v w) h2
def eUn (op : Op1) (a : EF) : EF := fun ρ h => (a ρ h).bind fun v h1 => lift (op h1 v) h1
def eCall (op : OpN) (a : AF) : EF := fun ρ h => (a ρ h).bind fun v h1 => lift (op h1 v) h1
def aNil : AF := fun _ h => .ok [] h
def aCons (a : EF) (b : AF) : AF := fun ρ h => (a ρ h).bind fun v h1 => (b ρ h1).bind fun w h2 => .ok (v :: w) h2
/-- what a rule on values must take: the operation's answer, new or old data -/
def Rd2 (c : Ct) (op : Op2) : R2 := fun x y H Q => ∃ g h v w r, RH c g h H ∧ RT c g H v x ∧ RT c g H w y ∧ op h v w = some r ∧ ∀ g' H' u, Stp g H g' H' → RH c g' h H' → RT c g' H' r u → Q u H'
def Rd1 (c : Ct) (op : Op1) : V → Hp → VK → Prop := fun x H Q => ∃ g h v r, RH c g h H ∧ RT c g H v x ∧ op h v = some r ∧ ∀ g' H' u, Stp g H g' H' → RH c g' h H' → RT c g' H' r u → Q u H'
def RdN (c : Ct) (op : OpN) : List V → Hp → VK → Prop := fun xs H Q => ∃ g h vs r, RH c g h H ∧ RTs c g H vs xs ∧ op h vs = some r ∧ ∀ g' H' u, Stp g H g' H' → RH c g' h H' → RT c g' H' r u → Q u H'
theorem OpR.imp {X : Cx} {f : Value → Value → Sem Value} {r r' : R2} (h : OpR X f r) (m : ∀ x y H Q, r' x y H Q → r x y H Q) : OpR X f r' :=
  fun pins s σ H x y v u Q I a b q => h pins s σ H x y v u Q I a b (m x y H Q q)
theorem IxR.imp {X : Cx} {r r' : R2} (h : IxR X r) (m : ∀ x y H Q, r' x y H Q → r x y H Q) : IxR X r' := by
  unfold IxR at h ⊢
  intros
  apply h <;> first | assumption | (apply m; assumption)
theorem UnR.imp {X : Cx} {f : Value → Sem Value} {r r' : V → Hp → VK → Prop} (h : UnR X f r) (m : ∀ x H Q, r' x H Q → r x H Q) : UnR X f r' :=
  fun pins s σ H x v Q I a q => h pins s σ H x v Q I a (m x H Q q)
theorem CallR.imp {X : Cx} {f : Value} {r r' : List V → Hp → VK → Prop} (h : CallR X f r) (m : ∀ x H Q, r' x H Q → r x H Q) : CallR X f r' :=
  fun pins s σ H x v Q I a q => h pins s σ H x v Q I a (m x H Q q)
section
variable {X : Cx} {W : WX}
theorem j_var (i : Nat) {x : Str} {pos : Pos} (h : PE X (.Name x pos) (tVar i)) : PE X (.Name x pos) (tE (ct X) W (eVar i)) :=
  PE.mono h fun σ H Q ⟨g, ρ, hh, rh, rs, p⟩ => by
    unfold eVar at p
    split at p
    · rename_i v e
      obtain ⟨u, a, b⟩ := rs.get i v e
      exact ⟨u, a, p g H u .refl rh b⟩
    · exact p.elim
theorem j_c {e : Expr} {v : VV} {u : V} (h : PE X e (tC u)) (r : ∀ g H, RT (ct X) g H v u) : PE X e (tE (ct X) W (eC v)) :=
  PE.mono h fun σ H Q ⟨g, ρ, hh, rh, rs, p⟩ => p g H u .refl rh (r g H)
theorem rt_int {c : Ct} {g : Gh} {H : Hp} {i : Int} : RT c g H (.int i) (.int i) := by show RV _ _ _ _ _; rw [RV]
theorem rt_bl {c : Ct} {g : Gh} {H : Hp} {i : Bool} : RT c g H (.bl i) (.bl i) := by show RV _ _ _ _ _; rw [RV]
theorem rt_str {c : Ct} {g : Gh} {H : Hp} {i : Str} : RT c g H (.str i) (.str i) := by show RV _ _ _ _ _; rw [RV]
theorem rt_non {c : Ct} {g : Gh} {H : Hp} : RT c g H .non .non := by show RV _ _ _ _ _; rw [RV]
theorem j_int {i j pos} : PE X (.Constant (.int i) j pos) (tE (ct X) W (eC (.int i))) := j_c pe_int fun _ _ => rt_int
theorem j_bl {i j pos} : PE X (.Constant (.bool i) j pos) (tE (ct X) W (eC (.bl i))) := j_c pe_bl fun _ _ => rt_bl
theorem j_str {i j pos} : PE X (.Constant (.str i) j pos) (tE (ct X) W (eC (.str i))) := j_c pe_str fun _ _ => rt_str
theorem j_non {j pos} : PE X (.Constant .none j pos) (tE (ct X) W (eC .non)) := j_c pe_non fun _ _ => rt_non
/-- from a bind to a continuation -/
theorem tOp_of {r : R2} {op : Op2} {fa fb : EF} (m : ∀ x y H Q, Rd2 (ct X) op x y H Q → r x y H Q) {σ : St} {H : Hp} {Q : VK} (h : tE (ct X) W (eBin op fa fb) σ H Q) :
    tOp r (tE (ct X) W fa) (tE (ct X) W fb) σ H Q := by
  have h1 := tG.bind (R := RT (ct X)) (f := fa) (k := fun v ρ h1 => (fb ρ h1).bind fun w h2 => lift (op h2 v w) h2) h
  obtain ⟨g, ρ, h0, rh, rs, p⟩ := h1
  refine ⟨g, ρ, h0, rh, rs, p.imp fun u H1 ⟨g1, ρ1, v, h1, rh1, rs1, rv1, p1⟩ => ?_⟩
  refine ⟨g1, ρ1, h1, rh1, rs1, (Pst.bind (R := RT (ct X)) p1).imp fun u2 H2 ⟨g2, w, h2, st, rh2, rv2, p2⟩ => ?_⟩
  refine m _ _ _ _ ?_
  unfold lift at p2
  split at p2
  · rename_i r e
    exact ⟨g2, h2, v, w, r, rh2, rv1.stp st, rv2, e, p2⟩
  · exact p2.elim
theorem j_bin {op : Op2} {o : Operator} {a b : Expr} {fa fb : EF} {pos : Pos} (ho : OpR X (binaryOp o) (Rd2 (ct X) op)) (ha : PE X a (tE (ct X) W fa)) (hb : PE X b (tE (ct X) W fb)) : PE X (.BinOp a o b pos) (tE (ct X) W (eBin op fa fb)) :=
  PE.mono (pe_op ho ha hb) fun σ H Q h => tOp_of (fun _ _ _ _ q => q) h
theorem j_ix {op : Op2} {a b : Expr} {fa fb : EF} {pos : Pos} (ho : IxR X (Rd2 (ct X) op)) (ha : PE X a (tE (ct X) W fa)) (hb : PE X b (tE (ct X) W fb)) (hs : PlainIx b) : PE X (.Subscript a b pos) (tE (ct X) W (eBin op fa fb)) :=
  PE.mono (pe_ix ho ha hb hs) fun σ H Q h => tOp_of (fun _ _ _ _ q => q) h
theorem j_cmp {op : Op2} {o : CmpOp} {a b : Expr} {fa fb : EF} {pos : Pos} (ho : OpR X (compareOp o) (Rd2 (ct X) op)) (ha : PE X a (tE (ct X) W fa)) (hb : PE X b (tE (ct X) W fb)) (hm : behindInMarks o b = false) : PE X (.Compare a [o] [b] pos) (tE (ct X) W (eBin op fa fb)) :=
  PE.mono (pe_cmpR ho ha hb hm) fun σ H Q h => tOp_of (fun _ _ _ _ q => q) h
theorem j_un {op : Op1} {o : UnaryOp} {a : Expr} {fa : EF} {pos : Pos} (ho : UnR X (unaryOp o) (Rd1 (ct X) op)) (ha : PE X a (tE (ct X) W fa)) : PE X (.UnaryOp o a pos) (tE (ct X) W (eUn op fa)) :=
  PE.mono (pe_un ho ha) fun σ H Q h => by
    obtain ⟨g, ρ, h0, rh, rs, p⟩ := tG.bind (R := RT (ct X)) (f := fa) (k := fun v ρ h1 => lift (op h1 v) h1) h
    refine ⟨g, ρ, h0, rh, rs, p.imp fun u H1 ⟨g1, ρ1, v, h1, rh1, rs1, rv1, p1⟩ => ?_⟩
    unfold lift at p1
    split at p1
    · rename_i r e
      exact ⟨g1, h1, v, r, rh1, rv1, e, p1⟩
    · exact p1.elim
/-! arguments -/
theorem ja_nil : PA X [] (tA (ct X) W aNil) := PA.mono pa_nil fun σ H Q ⟨g, ρ, h0, rh, rs, p⟩ => p g H [] .refl rh rfl
theorem ja_cons {e : Expr} {es : List Expr} {fa : EF} {fb : AF} (ha : PE X e (tE (ct X) W fa)) (hr : PA X es (tA (ct X) W fb)) (hs : starEach (e :: es) X.env = (false, eval e X.env) :: starEach es X.env := by rfl) : PA X (e :: es) (tA (ct X) W (aCons fa fb)) :=
  PA.mono (pa_cons ha hr hs) fun σ H Q h => by
    obtain ⟨g, ρ, h0, rh, rs, p⟩ := tG.bind (R := RT (ct X)) (f := fa) (k := fun v ρ h1 => (fb ρ h1).bind fun w h2 => .ok (v :: w) h2) h
    refine ⟨g, ρ, h0, rh, rs, p.imp fun u H1 ⟨g1, ρ1, v, h1, rh1, rs1, rv1, p1⟩ => ?_⟩
    refine ⟨g1, ρ1, h1, rh1, rs1, (Pst.bind (R := RTs (ct X)) p1).imp fun u2 H2 ⟨g2, w, h2, st, rh2, rv2, p2⟩ => ?_⟩
    exact p2 g2 H2 (u :: u2) .refl rh2 ⟨u, u2, rfl, rv1.stp st, rv2⟩
theorem tCB_of {r : List V → Hp → VK → Prop} {op : OpN} {fa : AF} (m : ∀ x H Q, RdN (ct X) op x H Q → r x H Q) {σ : St} {H : Hp} {Q : VK} (h : tE (ct X) W (eCall op fa) σ H Q) : tCB r (tA (ct X) W fa) σ H Q := by
  obtain ⟨g, ρ, h0, rh, rs, p⟩ := tG.bind (R := RTs (ct X)) (f := fa) (k := fun v ρ h1 => lift (op h1 v) h1) h
  refine ⟨g, ρ, h0, rh, rs, p.imp fun u H1 ⟨g1, ρ1, v, h1, rh1, rs1, rv1, p1⟩ => ?_⟩
  unfold lift at p1
  split at p1
  · rename_i r e
    exact m _ _ _ ⟨g1, h1, v, r, rh1, rv1, e, p1⟩
  · exact p1.elim
theorem j_callB {x : Str} {p pos : Pos} {id : String} {op : OpN} {e : Expr} {es : List Expr} {fa : AF} (hc : CallR X (.builtin id) (RdN (ct X) op)) (hg : Gl X x) (hm : X.mg x = none) (hv : bootBuiltins x = some (.builtin id)) (ha : PA X (e :: es) (tA (ct X) W fa)) (hn : x ≠ "__name__" := by decide) (hdb : (x == ("__debug__" : Str)) = false := by decide)
    (he : starEach (e :: es) X.env = (false, eval e X.env) :: starEach es X.env := by rfl) (hpl : (backTo pos (starEach es X.env)).any (·.1) = false := by rfl) : PE X (.Call (.Name x p) (e :: es) [] pos) (tE (ct X) W (eCall op fa)) :=
  PE.mono (pe_callB hc hg hm hv ha hn hdb he hpl) fun σ H Q h => tCB_of (fun _ _ _ q => q) h
theorem j_callTy {x : Str} {p pos : Pos} {T : String} {op : OpN} {e : Expr} {es : List Expr} {fa : AF} (hc : CallR X (.type T) (RdN (ct X) op)) (hg : Gl X x) (hm : X.mg x = none) (hv : bootBuiltins x = some (.type T)) (ha : PA X (e :: es) (tA (ct X) W fa)) (hn : x ≠ "__name__" := by decide) (hdb : (x == ("__debug__" : Str)) = false := by decide)
    (he : starEach (e :: es) X.env = (false, eval e X.env) :: starEach es X.env := by rfl) (hpl : (backTo pos (starEach es X.env)).any (·.1) = false := by rfl) : PE X (.Call (.Name x p) (e :: es) [] pos) (tE (ct X) W (eCall op fa)) :=
  PE.mono (pe_callTy hc hg hm hv ha hn hdb he hpl) fun σ H Q h => tCB_of (fun _ _ _ q => q) h
/-! displays -/
def eTup (a : AF) : EF := fun ρ h => (a ρ h).bind fun vs h1 => if vs.any VV.isObj = true ∨ vs.length > SZ then .no else .ok (.tup vs) h1
def eLst (a : AF) : EF := fun ρ h => (a ρ h).bind fun vs h1 => if vs.any VV.isObj = true ∨ vs.length > SZ then .no else .ok (.lst vs) h1
/-- a display whose list is a root -/
def eLstO (a : AF) : EF := fun ρ h => (a ρ h).bind fun vs h1 => if vs.any VV.isObj = true ∨ vs.length > SZ then .no else .ok (.obj h1.length) (h1 ++ [.fl vs])
theorem j_tup {es : List Expr} {fa : AF} {x1} {pos : Pos} (ha : PA X es (tA (ct X) W fa)) : PE X (.Tuple es x1 pos) (tE (ct X) W (eTup fa)) :=
  PE.mono (pe_tup ha) fun σ H Q h => by
    obtain ⟨g, ρ, h0, rh, rs, p⟩ := tG.bind (R := RTs (ct X)) (f := fa) (k := fun (vs : List VV) ρ h1 => if vs.any VV.isObj = true ∨ vs.length > SZ then .no else .ok (VV.tup vs) h1) h
    refine ⟨g, ρ, h0, rh, rs, p.imp fun u H1 ⟨g1, ρ1, v, h1, rh1, rs1, rv1, p1⟩ => ?_⟩
    by_cases c : v.any VV.isObj = true ∨ v.length > SZ
    · rw [if_pos c] at p1; exact p1.elim
    · rw [if_neg c] at p1
      rw [not_or, Bool.not_eq_true] at c
      refine ⟨by rw [← rv1.len]; exact SZ_le (by omega), fun p hp => p1 (g1.frz p) (upd H1 p (.tup u)) (.ref p) (.new rh1 hp) (rh1.new hp) ?_⟩
      show RV _ _ _ _ _
      rw [RV]
      exact ⟨p, u, rfl, upd_same, (Stp.new rh1 hp).rvs (rv1.rvs c.1)⟩
theorem j_lst {es : List Expr} {fa : AF} {pos : Pos} (ha : PA X es (tA (ct X) W fa)) : PE X (.List es pos) (tE (ct X) W (eLst fa)) :=
  PE.mono (pe_lst ha) fun σ H Q h => by
    obtain ⟨g, ρ, h0, rh, rs, p⟩ := tG.bind (R := RTs (ct X)) (f := fa) (k := fun (vs : List VV) ρ h1 => if vs.any VV.isObj = true ∨ vs.length > SZ then .no else .ok (VV.lst vs) h1) h
    refine ⟨g, ρ, h0, rh, rs, p.imp fun u H1 ⟨g1, ρ1, v, h1, rh1, rs1, rv1, p1⟩ => ?_⟩
    by_cases c : v.any VV.isObj = true ∨ v.length > SZ
    · rw [if_pos c] at p1; exact p1.elim
    · rw [if_neg c] at p1
      rw [not_or, Bool.not_eq_true] at c
      refine ⟨by rw [← rv1.len]; exact SZ_le (by omega), fun p hp => p1 (g1.frz p) (upd H1 p (.lst u)) (.ref p) (.new rh1 hp) (rh1.new hp) ?_⟩
      show RV _ _ _ _ _
      rw [RV]
      exact ⟨p, u, rfl, .inr rfl, upd_same, (Stp.new rh1 hp).rvs (rv1.rvs c.1)⟩
/-- a new list of data that nobody holds becomes a root -/
theorem root_new {c : Ct} {g : Gh} {h : VH} {H : Hp} {p : Addr} {vs : List VV} {us : List V} (rh : RH c g h H) (hp : H p = none) (rv : RVs c g.fz H vs us) :
    Stp g H (g.add p) (upd H p (.lst us)) ∧ RH c (g.add p) (h ++ [.fl vs]) (upd H p (.lst us)) ∧ RT c (g.add p) (upd H p (.lst us)) (.obj h.length) (.ref p) := by
  have st : Stp g H g (upd H p (.lst us)) := .junk rh hp
  have rh1 : RH c g h (upd H p (.lst us)) := rh.junk hp
  have np : p ∉ g.io := fun z => by
    obtain ⟨o, e⟩ := rh.root z
    rw [hp] at e; cases e
  refine ⟨st.trans .add, rh1.add np (fun z => ?_) ⟨fun z => ?_, us, upd_same, st.rvs rv⟩, p, ?_, rfl⟩
  · obtain ⟨o, e⟩ := rh.kp p z
    rw [hp] at e; cases e
  · obtain ⟨o, e⟩ := rh.fz p z
    rw [hp] at e; cases e
  · show (g.io ++ [p])[h.length]? = some p
    rw [← rh.len, List.getElem?_append_right (Nat.le_refl _), Nat.sub_self]; rfl
theorem j_lstO {es : List Expr} {fa : AF} {pos : Pos} (ha : PA X es (tA (ct X) W fa)) : PE X (.List es pos) (tE (ct X) W (eLstO fa)) :=
  PE.mono (pe_lst ha) fun σ H Q h => by
    obtain ⟨g, ρ, h0, rh, rs, p⟩ := tG.bind (R := RTs (ct X)) (f := fa) (k := fun (vs : List VV) ρ h1 => if vs.any VV.isObj = true ∨ vs.length > SZ then .no else .ok (VV.obj h1.length) (h1 ++ [.fl vs])) h
    refine ⟨g, ρ, h0, rh, rs, p.imp fun u H1 ⟨g1, ρ1, v, h1, rh1, rs1, rv1, p1⟩ => ?_⟩
    by_cases c : v.any VV.isObj = true ∨ v.length > SZ
    · rw [if_pos c] at p1; exact p1.elim
    · rw [if_neg c] at p1
      rw [not_or, Bool.not_eq_true] at c
      refine ⟨by rw [← rv1.len]; exact SZ_le (by omega), fun p hp => ?_⟩
      obtain ⟨a, b, d⟩ := root_new rh1 hp (rv1.rvs c.1)
      exact p1 _ _ _ a b d
/-! tests -/
def tVal (a : EF) : TF := fun ρ h => (a ρ h).bind fun v h1 => match v with
  | .bl b => .ok b h1
  | _ => .no
def tAnd (a b : TF) : TF := fun ρ h => (a ρ h).bind fun v h1 => if v = true then b ρ h1 else .ok false h1
def tOr (a b : TF) : TF := fun ρ h => (a ρ h).bind fun v h1 => if v = true then .ok true h1 else b ρ h1
def tNot (a : TF) : TF := fun ρ h => (a ρ h).bind fun v h1 => .ok (!v) h1
theorem tVal_of {a : EF} {σ : St} {H : Hp} {Q : Bool → Hp → Prop} (h : tT (ct X) W (tVal a) σ H Q) : tE (ct X) W a σ H (fun x H1 => ∃ k, x = .bl k ∧ Q k H1) := by
  obtain ⟨g, ρ, h0, rh, rs, p⟩ := tG.bind (R := RT (ct X)) (f := a) (k := fun v ρ h1 => match v with
    | .bl b => .ok b h1
    | _ => .no) h
  refine ⟨g, ρ, h0, rh, rs, p.imp fun u H1 ⟨g1, ρ1, v, h1, rh1, rs1, rv1, p1⟩ => ?_⟩
  cases v with
  | bl b =>
    have e : u = .bl b := by have := rv1.rv rfl; rw [RV] at this; exact this
    exact ⟨b, e, p1 g1 H1 b .refl rh1 rfl⟩
  | _ => exact p1.elim
theorem jt_val {e : Expr} {fa : EF} (h : PE X e (tE (ct X) W fa)) (he : ∀ whole, isTrue e X.env whole = (do let v ← whole; standAt e.pos; holding [v] (truthy v)) := by intro _; rfl) : PT X e (tT (ct X) W (tVal fa)) :=
  PT.mono (pt_val h he) fun σ H Q q => tVal_of q
theorem jt_cmp {op : Op2} {o : CmpOp} {a b : Expr} {fa fb : EF} {pos : Pos} (ho : OpR X (compareOp o) (Rd2 (ct X) op)) (ha : PE X a (tE (ct X) W fa)) (hb : PE X b (tE (ct X) W fb)) (hm : behindInMarks o b = false) : PT X (.Compare a [o] [b] pos) (tT (ct X) W (tVal (eBin op fa fb))) :=
  PT.mono (pt_cmpR ho ha hb hm) fun σ H Q q => tOp_of (fun _ _ _ _ q => q) (tVal_of q)
theorem jw_and1 {a : Expr} {fa : TF} {pos : Pos} (ha : PT X a (tT (ct X) W fa)) : PW X (.BoolOp .And [a] pos) (tT (ct X) W fa) := pw_and1 ha
theorem jw_or1 {a : Expr} {fa : TF} {pos : Pos} (ha : PT X a (tT (ct X) W fa)) : PW X (.BoolOp .Or [a] pos) (tT (ct X) W fa) := pw_or1 ha
theorem jw_and {a b : Expr} {rest : List Expr} {fa fb : TF} {pos : Pos} (ha : PT X a (tT (ct X) W fa)) (hb : PW X (.BoolOp .And (b :: rest) pos) (tT (ct X) W fb)) : PW X (.BoolOp .And (a :: b :: rest) pos) (tT (ct X) W (tAnd fa fb)) :=
  PW.mono (pw_and ha hb) fun σ H Q h => by
    obtain ⟨g, ρ, h0, rh, rs, p⟩ := tG.bind (R := RB) (f := fa) (k := fun v ρ h1 => if v = true then fb ρ h1 else .ok false h1) h
    refine ⟨g, ρ, h0, rh, rs, p.imp fun u H1 ⟨g1, ρ1, v, h1, rh1, rs1, rv1, p1⟩ => ?_⟩
    cases rv1
    cases u with
    | true => rw [if_pos rfl] at p1 ⊢; exact ⟨g1, ρ1, h1, rh1, rs1, p1⟩
    | false => rw [if_neg Bool.false_ne_true] at p1 ⊢; exact p1 g1 H1 false .refl rh1 rfl
theorem jw_or {a b : Expr} {rest : List Expr} {fa fb : TF} {pos : Pos} (ha : PT X a (tT (ct X) W fa)) (hb : PW X (.BoolOp .Or (b :: rest) pos) (tT (ct X) W fb)) : PW X (.BoolOp .Or (a :: b :: rest) pos) (tT (ct X) W (tOr fa fb)) :=
  PW.mono (pw_or ha hb) fun σ H Q h => by
    obtain ⟨g, ρ, h0, rh, rs, p⟩ := tG.bind (R := RB) (f := fa) (k := fun v ρ h1 => if v = true then .ok true h1 else fb ρ h1) h
    refine ⟨g, ρ, h0, rh, rs, p.imp fun u H1 ⟨g1, ρ1, v, h1, rh1, rs1, rv1, p1⟩ => ?_⟩
    cases rv1
    cases u with
    | true => rw [if_pos rfl] at p1 ⊢; exact p1 g1 H1 true .refl rh1 rfl
    | false => rw [if_neg Bool.false_ne_true] at p1 ⊢; exact ⟨g1, ρ1, h1, rh1, rs1, p1⟩
theorem jt_not {a : Expr} {fa : TF} {pos : Pos} (ha : PT X a (tT (ct X) W fa)) : PT X (.UnaryOp .Not a pos) (tT (ct X) W (tNot fa)) :=
  PT.mono (pt_not ha) fun σ H Q h => by
    obtain ⟨g, ρ, h0, rh, rs, p⟩ := tG.bind (R := RB) (f := fa) (k := fun v ρ h1 => .ok (!v) h1) h
    refine ⟨g, ρ, h0, rh, rs, p.imp fun u H1 ⟨g1, ρ1, v, h1, rh1, rs1, rv1, p1⟩ => ?_⟩
    cases rv1
    exact p1 g1 H1 _ .refl rh1 rfl
def eIf (c : TF) (a b : EF) : EF := fun ρ h => (c ρ h).bind fun v h1 => if v = true then a ρ h1 else b ρ h1
theorem j_if {c a b : Expr} {fc : TF} {fa fb : EF} {pos : Pos} (hc : PT X c (tT (ct X) W fc)) (ha : PE X a (tE (ct X) W fa)) (hb : PE X b (tE (ct X) W fb)) : PE X (.IfExp c a b pos) (tE (ct X) W (eIf fc fa fb)) :=
  PE.mono (pe_ifExp hc ha hb) fun σ H Q h => by
    obtain ⟨g, ρ, h0, rh, rs, p⟩ := tG.bind (R := RB) (f := fc) (k := fun v ρ h1 => if v = true then fa ρ h1 else fb ρ h1) h
    refine ⟨g, ρ, h0, rh, rs, p.imp fun u H1 ⟨g1, ρ1, v, h1, rh1, rs1, rv1, p1⟩ => ?_⟩
    cases rv1
    cases u with
    | true => rw [if_pos rfl] at p1 ⊢; exact ⟨g1, ρ1, h1, rh1, rs1, p1⟩
    | false => rw [if_neg Bool.false_ne_true] at p1 ⊢; exact ⟨g1, ρ1, h1, rh1, rs1, p1⟩
/-- and, or, not of truth values -/
def eAnd (a b : EF) : EF := fun ρ h => (a ρ h).bind fun v h1 => match v with
  | .bl true => b ρ h1
  | .bl false => .ok (.bl false) h1
  | _ => .no
def eOr (a b : EF) : EF := fun ρ h => (a ρ h).bind fun v h1 => match v with
  | .bl true => .ok (.bl true) h1
  | .bl false => b ρ h1
  | _ => .no
def eNot (a : EF) : EF := fun ρ h => (a ρ h).bind fun v h1 => match v with
  | .bl b => .ok (.bl (!b)) h1
  | _ => .no
theorem j_one {op} {a : Expr} {f : EF} {pos : Pos} (h : PE X a (tE (ct X) W f)) : PE X (.BoolOp op [a] pos) (tE (ct X) W f) := pe_one h
theorem j_and {a b : Expr} {rest : List Expr} {fa fb : EF} {pos : Pos} (ha : PE X a (tE (ct X) W fa)) (hb : PE X (.BoolOp .And (b :: rest) pos) (tE (ct X) W fb)) : PE X (.BoolOp .And (a :: b :: rest) pos) (tE (ct X) W (eAnd fa fb)) :=
  PE.mono (pe_and ha hb) fun σ H Q h => by
    obtain ⟨g, ρ, h0, rh, rs, p⟩ := tG.bind (R := RT (ct X)) (f := fa) (k := fun v ρ h1 => match v with
      | .bl true => fb ρ h1
      | .bl false => .ok (.bl false) h1
      | _ => .no) h
    refine ⟨g, ρ, h0, rh, rs, p.imp fun u H1 ⟨g1, ρ1, v, h1, rh1, rs1, rv1, p1⟩ => ?_⟩
    cases v with
    | bl b =>
      have e : u = .bl b := by have := rv1.rv rfl; rw [RV] at this; exact this
      refine ⟨b, e, ?_⟩
      cases b with
      | true => rw [if_pos rfl]; exact ⟨g1, ρ1, h1, rh1, rs1, p1⟩
      | false => rw [if_neg Bool.false_ne_true]; exact p1 g1 H1 _ .refl rh1 rt_bl
    | _ => exact p1.elim
/-- a op b op' c -/
def eChain (o o' : Op2) (a b c : EF) : EF := fun ρ h => (a ρ h).bind fun v h1 => (b ρ h1).bind fun w h2 => (lift (o h2 v w) h2).bind fun k h3 => match k with
  | .bl true => (c ρ h3).bind fun z h4 => lift (o' h4 w z) h4
  | .bl false => .ok (.bl false) h3
  | _ => .no
theorem tChain_of {o o' : Op2} {a b c : EF} {σ : St} {H : Hp} {Q : VK} (h : tE (ct X) W (eChain o o' a b c) σ H Q) :
    tChain (Rd2 (ct X) o) (Rd2 (ct X) o') (tE (ct X) W a) (tE (ct X) W b) (tE (ct X) W c) σ H Q := by
  obtain ⟨g, ρ, h0, rh, rs, p⟩ := tG.bind (R := RT (ct X)) (f := a) (k := fun v ρ h1 => (b ρ h1).bind fun w h2 => (lift (o h2 v w) h2).bind fun k h3 => match k with
    | .bl true => (c ρ h3).bind fun z h4 => lift (o' h4 w z) h4
    | .bl false => .ok (.bl false) h3
    | _ => .no) h
  refine ⟨g, ρ, h0, rh, rs, p.imp fun u H1 ⟨g1, ρ1, v, h1, rh1, rs1, rv1, p1⟩ => ?_⟩
  refine ⟨g1, ρ1, h1, rh1, rs1, (Pst.bind (R := RT (ct X)) p1).imp fun u2 H2 ⟨g2, w, h2, st, rh2, rv2, p2⟩ => ?_⟩
  unfold lift at p2
  cases e : o h2 v w with
  | none => rw [e] at p2; exact p2.elim
  | some k =>
    rw [e] at p2
    refine ⟨g2, h2, v, w, k, rh2, rv1.stp st, rv2, e, fun g3 H3 u3 st3 rh3 rv3 => ?_⟩
    cases k with
    | bl bb =>
      have e3 : u3 = .bl bb := by have := rv3.rv rfl; rw [RV] at this; exact this
      refine ⟨bb, e3, ?_⟩
      cases bb with
      | true =>
        rw [if_pos rfl]
        have p3 : Pst (ct X) W σ (RT (ct X)) g2 H2 Q ((c ρ1 h2).bind fun z h4 => lift (o' h4 w z) h4) := p2
        refine ⟨g3, ρ1, h2, rh3, (rs1.stp st).stp st3, (Pst.bind (R := RT (ct X)) (Pst.step st3 p3)).imp fun u4 H4 ⟨g4, z, h4, st4, rh4, rv4, p4⟩ => ?_⟩
        cases e4 : o' h4 w z with
        | none => rw [e4] at p4; exact p4.elim
        | some r =>
          rw [e4] at p4
          exact ⟨g4, h4, w, z, r, rh4, (rv2.stp st3).stp st4, rv4, e4, p4⟩
      | false => rw [if_neg Bool.false_ne_true]; exact p2 g3 H3 _ st3 rh3 rt_bl
    | _ => exact p2.elim
end
end J
namespace J
open PySem L2
open PyProof.Rows (envOfC)
/-! what is walked -/
/-- what is frozen stands -/
structure Fst (g : Gh) (H : Hp) (g' : Gh) (H' : Hp) : Prop where
  fz : ∀ p, g.fz p → g'.fz p
  fH : ∀ p, g.fz p → Ke (H p) (H' p)
  tp : ∀ p us, H p = some (.tup us) → H' p = some (.tup us)
theorem Stp.f {g g' : Gh} {H H' : Hp} (s : Stp g H g' H') : Fst g H g' H' := ⟨s.fz, s.fH, s.tp⟩
theorem Fst.rv {c : Ct} {g g' : Gh} {H H' : Hp} (s : Fst g H g' H') {v : VV} {u : V} (h : RV c g.fz H v u) : RV c g'.fz H' v u := RV.stp s.fz s.fH s.tp _ _ h
theorem Fst.trans {g g1 g2 : Gh} {H H1 H2 : Hp} (a : Fst g H g1 H1) (b : Fst g1 H1 g2 H2) : Fst g H g2 H2 := ⟨fun p h => b.fz p (a.fz p h), fun p h => (a.fH p h).trans (b.fH p (a.fz p h)), fun p us h => b.tp p us (a.tp p us h)⟩
structure Deliv (c : Ct) (g0 : Gh) (H0 : Hp) (items : List VV) (J : It) : Prop where
  go : ∀ g H, Fst g0 H0 g H → ∀ (i : Nat), i < items.length → J.go i H
  stop : ∀ g H, Fst g0 H0 g H → ∀ (i : Nat), items.length ≤ i → J.stop i H
  yld : ∀ g H, Fst g0 H0 g H → ∀ (i : Nat) (x : VV) (h : VH), items[i]? = some x → RH c g h H → ∀ u H', J.yld i H u H' → ∃ g', Stp g H g' H' ∧ RH c g' h H' ∧ RT c g' H' x u
abbrev tI (c : Ct) (W : WX) (f : AF) : TI := tG c W (fun g H xs J => Deliv c g H xs J) f
theorem PI.or {X : Cx} {tg e : Expr} {t t' : TI} (a : PI X tg e t) (b : PI X tg e t') : PI X tg e (fun σ H R => t σ H R ∨ t' σ H R) := ⟨fun pins s σ H R I q => q.elim (a.run pins s σ H R I) (b.run pins s σ H R I)⟩
/-! targets -/
structure PatOk (K : PySem.W.Frag) (t : TG) (b : VV → VSt → Option VSt) (own : List Nat) : Prop where
  run : ∀ (c : Ct) (g : Gh) (h : VH) (H : Hp) (ρ : VSt) (σ : St) (v : VV) (u : V) (ρ' : VSt), c.K = K → RH c g h H → RS c g H ρ σ → RT c g H v u → b v ρ = some ρ' →
    ∀ Q : St → Hp → Prop, (∀ σ', RS c g H ρ' σ' → (∀ i, i ∉ own → σ'[i]? = σ[i]?) → σ'.length = σ.length → Q σ' H) → t u σ H Q
structure PatsOk (K : PySem.W.Frag) (t : TGs) (b : List VV → VSt → Option VSt) (own : List Nat) : Prop where
  run : ∀ (c : Ct) (g : Gh) (h : VH) (H : Hp) (ρ : VSt) (σ : St) (v : List VV) (u : List V) (ρ' : VSt), c.K = K → RH c g h H → RS c g H ρ σ → RTs c g H v u → b v ρ = some ρ' →
    ∀ Q : St → Hp → Prop, (∀ σ', RS c g H ρ' σ' → (∀ i, i ∉ own → σ'[i]? = σ[i]?) → σ'.length = σ.length → Q σ' H) → t u σ H Q
def bNm (i : Nat) : VV → VSt → Option VSt := fun v ρ => some (ρ.set i (some v))
def bNil : List VV → VSt → Option VSt := fun vs ρ => match vs with
  | [] => some ρ
  | _ => none
def bCons (a : VV → VSt → Option VSt) (r : List VV → VSt → Option VSt) : List VV → VSt → Option VSt := fun vs ρ => match vs with
  | v :: vs => (a v ρ).bind fun ρ' => r vs ρ'
  | [] => none
def bTup (n : Nat) (r : List VV → VSt → Option VSt) : VV → VSt → Option VSt := fun v ρ => match v with
  | .tup xs => if xs.length = n then r xs ρ else none
  | _ => none
theorem RS.set {c : Ct} {g : Gh} {H : Hp} {ρ : VSt} {σ : St} {v : VV} {u : V} (rs : RS c g H ρ σ) (rv : RT c g H v u) (i : Nat) : RS c g H (ρ.set i (some v)) (σ.set i (some u)) := by
  refine ⟨by rw [List.length_set, List.length_set]; exact rs.len, fun j w e => ?_⟩
  by_cases ij : i = j
  · subst ij
    have hl : i < ρ.length := by have := (List.getElem?_eq_some_iff.mp e).1; simpa using this
    rw [List.getElem?_set_self hl] at e
    cases e
    exact ⟨u, List.getElem?_set_self (by rw [← rs.len]; exact hl), rv⟩
  · rw [List.getElem?_set_ne ij] at e
    rw [List.getElem?_set_ne ij]
    exact rs.get j w e
theorem pat_nm {K : PySem.W.Frag} (i : Nat) : PatOk K (gName i) (bNm i) [i] := ⟨fun c g h H ρ σ v u ρ' ek rh rs rv e Q k => by
  cases e
  refine k _ (rs.set rv i) (fun j hj => ?_) (by rw [List.length_set])
  exact List.getElem?_set_ne (fun z => hj (by rw [z]; exact List.mem_cons_self))⟩
theorem pats_nil {K : PySem.W.Frag} : PatsOk K gNil bNil [] := ⟨fun c g h H ρ σ v u ρ' ek rh rs rv e Q k => by
  cases v with
  | nil => cases e; exact ⟨rv, k _ rs (fun _ _ => rfl) rfl⟩
  | cons => cases e⟩
theorem pats_cons {K : PySem.W.Frag} {t : TG} {u : TGs} {a r l1 l2} (h1 : PatOk K t a l1) (h2 : PatsOk K u r l2) : PatsOk K (gCons t u) (bCons a r) (l1 ++ l2) := ⟨fun c g h H ρ σ v u ρ' ek rh rs rv e Q k => by
  cases v with
  | nil => cases e
  | cons x xs =>
    obtain ⟨y, ys, rfl, ra, rb⟩ := rv
    unfold bCons at e
    obtain ⟨ρ1, e1, e2⟩ := Option.bind_eq_some_iff.mp e
    refine ⟨y, ys, rfl, h1.run c g h H ρ σ x y ρ1 ek rh rs ra e1 _ fun σ1 rs1 o1 len1 => ?_⟩
    refine h2.run c g h H ρ1 σ1 xs ys ρ' ek rh rs1 rb e2 _ fun σ2 rs2 o2 len2 => ?_
    exact k σ2 rs2 (fun i hi => (o2 i (fun z => hi (List.mem_append_right _ z))).trans (o1 i (fun z => hi (List.mem_append_left _ z)))) (len2.trans len1)⟩
theorem pat_tup {K : PySem.W.Frag} {n : Nat} {u : TGs} {r l} (h : PatsOk K u r l) : PatOk K (gTup K n u) (bTup n r) l := ⟨fun c g hh H ρ σ v uu ρ' ek rh rs rv e Q k => by
  cases v with
  | tup xs =>
    unfold bTup at e
    have rv' := rv.rv rfl
    rw [RV] at rv'
    obtain ⟨p, us, eu, sq, rr⟩ := rv'
    simp only at e
    by_cases hn : xs.length = n
    · rw [if_pos hn] at e
      have sq' := sq.sq
      rw [ek] at sq'
      exact ⟨p, us, eu, sq', by rw [← rr.len]; exact hn, h.run c g hh H ρ σ xs us ρ' ek rh rs (RTs.of_rvs rr) e Q k⟩
    · rw [if_neg hn] at e; cases e
  | _ => cases e⟩
/-! comprehensions -/
def wp (ρ : VSt) : List Nat → VSt
  | [] => ρ
  | v :: vs => (wp ρ vs).set v none
theorem wp_length (ρ : VSt) : ∀ vs : List Nat, (wp ρ vs).length = ρ.length
  | [] => rfl
  | v :: vs => by unfold wp; rw [List.length_set, wp_length ρ vs]
theorem wp_some {ρ : VSt} {i : Nat} {x : VV} : ∀ {vs : List Nat}, (wp ρ vs)[i]? = some (some x) → ρ[i]? = some (some x) ∧ i ∉ vs
  | [], h => ⟨h, by simp⟩
  | v :: vs, h => by
    unfold wp at h
    by_cases hi : v = i
    · subst hi
      by_cases hv : v < (wp ρ vs).length
      · rw [List.getElem?_set_self hv] at h; cases h
      · rw [List.getElem?_eq_none (by simpa using hv)] at h; cases h
    · rw [List.getElem?_set_ne hi] at h
      obtain ⟨h1, h2⟩ := wp_some h
      exact ⟨h1, by simp only [List.mem_cons, not_or]; exact ⟨fun e => hi e.symm, h2⟩⟩
theorem RS.wipe {c : Ct} {g : Gh} {H : Hp} {ρ : VSt} {σ : St} (rs : RS c g H ρ σ) (vs : List Nat) : RS c g H (wp ρ vs) (wipe σ vs) := by
  refine ⟨by rw [wp_length, wipe_length]; exact rs.len, fun i v e => ?_⟩
  obtain ⟨a, b⟩ := wp_some e
  rw [wipe_out b]
  exact rs.get i v a
theorem wipe_at (σ : St) : ∀ (vs : List Nat) (i : Nat), i ∈ vs → (wipe σ vs)[i]? = if i < σ.length then some none else none
  | [], i, h => by simp at h
  | v :: vs, i, h => by
    unfold wipe
    by_cases e : v = i
    · subst e
      by_cases hl : v < σ.length
      · rw [List.getElem?_set_self (by rw [wipe_length]; exact hl), if_pos hl]
      · rw [List.getElem?_eq_none (by rw [List.length_set, wipe_length]; omega), if_neg hl]
    · rw [List.getElem?_set_ne e]
      exact wipe_at σ vs i (by rcases List.mem_cons.mp h with h | h; exact absurd h.symm e; exact h)
theorem wipe_same {σ σ2 : St} {vs : List Nat} (hl : σ2.length = σ.length) (h : ∀ i, i ∉ vs → σ2[i]? = σ[i]?) : wipe σ2 vs = wipe σ vs := by
  apply List.ext_getElem?
  intro i
  by_cases hi : i ∈ vs
  · rw [wipe_at σ2 vs i hi, wipe_at σ vs i hi, hl]
  · rw [wipe_out hi, wipe_out hi, h i hi]
def lcGo (b : VV → VSt → Option VSt) (t : TF) (e : EF) (ρ : VSt) : List VV → VH → Res (List VV)
  | [], h => .ok [] h
  | x :: xs, h => match b x ρ with
    | none => .no
    | some ρ' => (t ρ' h).bind fun k h1 => if k = true then (e ρ' h1).bind fun v h2 => if v.isObj = true then .no else (lcGo b t e ρ xs h2).bind fun vs h3 => .ok (v :: vs) h3 else lcGo b t e ρ xs h1
/-- [e for .. in .. if ..] as data -/
def eLc (own : List Nat) (it : AF) (b : VV → VSt → Option VSt) (t : TF) (e : EF) : EF := fun ρ h => (it ρ h).bind fun xs h1 => if xs.length > SZ then .no else match lcGo b t e (wp ρ own) xs h1 with
  | .ok vs h2 => .ok (.lst vs) h2
  | _ => .no
def eLcO (own : List Nat) (it : AF) (b : VV → VSt → Option VSt) (t : TF) (e : EF) : EF := fun ρ h => (it ρ h).bind fun xs h1 => if xs.length > SZ then .no else match lcGo b t e (wp ρ own) xs h1 with
  | .ok vs h2 => .ok (.obj h2.length) (h2 ++ [.fl vs])
  | _ => .no
def tTrue : TF := fun _ h => .ok true h
theorem Stp.back {g g' : Gh} {H H' : Hp} {D : Addr} (s : Stp (g.keep D) H g' H') : Stp g H (g'.back g.kp) H' := ⟨s.io, s.fz, fun _ h => h, s.fH, fun p h => s.kH p (.inl h), s.tp⟩
theorem RVs.gback {c : Ct} {g : Gh} {H : Hp} {k : Addr → Prop} {vs : List VV} {us : List V} (h : RVs c g.fz H vs us) : RVs c (g.back k).fz H vs us := h
/-- the loop of a comprehension, whatever is made of the new list -/
theorem lc_run {c : Ct} {W0 : WX} {Wx : WX} {own : List Nat} {b : VV → VSt → Option VSt} {ft : TF} {fe : EF} {tg : TG} {J : It} {xs : List VV} {ρ : VSt} {σ : St} {g : Gh} {h : VH} {H1 : Hp} {D : Addr} {Q : VK} {K : PySem.W.Frag}
    (hW : ∀ a d s h, W0 a d s h → False) (ek : c.K = K) (pat : PatOk K tg b own) (dl : Deliv c g H1 xs J) (hsz : xs.length ≤ SZ) (rh : RH c g h H1) (rs : RS c g H1 ρ σ) (hD : H1 D = none)
    (fin : match lcGo b ft fe (wp ρ own) xs h with
      | .ok vs h' => ∀ g' H' us, Stp g H1 g' H' → RH c g' h' H' → H' D = some (.lst us) → ¬ g'.fz D → D ∉ g'.io → ¬ g'.kp D → RVs c g'.fz H' vs us → Q (.ref D) H'
      | _ => False) :
    ∃ Wv : Nat → Nat → Hp → Prop, (∃ m, Wv 0 m (upd H1 D (.lst []))) ∧ ∀ i m H, Wv i m H →
      (J.stop i H ∧ Q (.ref D) H) ∨ (J.go i H ∧ ∃ Nx : Hp → Prop, (∀ H', Nx H' → ∃ m', m' < m ∧ Wv (i + 1) m' H') ∧ ∀ x H', J.yld i H x H' → tg x (wipe σ own) H' fun σ2 H2 => wipe σ2 own = wipe σ own ∧ tT c W0 ft σ2 H2 fun bb H3 =>
        if bb = true then tE c W0 fe σ2 H3 fun y H4 => ∃ acc, H4 D = some (.lst acc) ∧ acc.length < sizeLine ∧ Nx (upd H4 D (.lst (acc ++ [y]))) else Nx H3) := by
  -- the invariant
  let P : Nat → Hp → Prop := fun i H => ∃ (gi : Gh) (hi : VH) (acc : List VV) (us : List V), acc.length ≤ i ∧ Stp g H1 gi H ∧ RH c gi hi H ∧ H D = some (.lst us) ∧ ¬ gi.fz D ∧ D ∉ gi.io ∧ ¬ gi.kp D ∧ RVs c gi.fz H acc us ∧
    (match lcGo b ft fe (wp ρ own) (xs.drop i) hi with
      | .ok vs h' => ∀ g' H' us, Stp gi H g' H' → RH c g' h' H' → H' D = some (.lst us) → ¬ g'.fz D → D ∉ g'.io → ¬ g'.kp D → RVs c g'.fz H' (acc ++ vs) us → Q (.ref D) H'
      | _ => False)
  refine ⟨fun i m H => m = xs.length - i ∧ i ≤ xs.length ∧ P i H, ⟨xs.length, by simp, Nat.zero_le _, ?_⟩, ?_⟩
  · refine ⟨g, h, [], [], Nat.le_refl _, .junk rh hD, rh.junk hD, upd_same, fun z => ?_, fun z => ?_, fun z => ?_, RVs.nil, ?_⟩
    · obtain ⟨o, e⟩ := rh.fz D z; rw [hD] at e; cases e
    · obtain ⟨o, e⟩ := rh.root z; rw [hD] at e; cases e
    · obtain ⟨o, e⟩ := rh.kp D z; rw [hD] at e; cases e
    · rw [List.drop_zero]
      generalize lcGo b ft fe (wp ρ own) xs h = r at fin ⊢
      cases r with
      | ok vs h' =>
        intro g' H' us st
        rw [List.nil_append]
        exact fin g' H' us ((Stp.junk rh hD).trans st)
      | no => exact fin
      | exc _ _ _ _ => exact fin
  · rintro i m H ⟨rfl, hi, gi, hh, acc, us, hacc, st, rhi, hDl, nf, ni, nk, rvs, fin⟩
    by_cases hlt : i < xs.length
    · refine .inr ⟨dl.go gi H st.f i hlt, P (i + 1), fun H' p' => ⟨xs.length - (i + 1), by omega, rfl, hlt, p'⟩, fun x H' y => ?_⟩
      have ed : xs.drop i = xs[i] :: xs.drop (i + 1) := List.drop_eq_getElem_cons hlt
      have rhk : RH c (gi.keep D) hh H := rhi.keep hDl nf ni
      have stk : Stp g H1 (gi.keep D) H := st.trans .keep
      obtain ⟨g1, st1, rh1, rt1⟩ := dl.yld (gi.keep D) H stk.f i xs[i] hh (List.getElem?_eq_getElem hlt) rhk x H' y
      rw [ed] at fin
      unfold lcGo at fin
      cases e : b xs[i] (wp ρ own) with
      | none => rw [e] at fin; exact fin.elim
      | some ρ' =>
        rw [e] at fin
        simp only at fin
        have rs1 : RS c g1 H' (wp ρ own) (wipe σ own) := ((rs.wipe own).stp stk).stp st1
        refine pat.run c g1 hh H' _ _ _ _ ρ' ek rh1 rs1 rt1 e _ fun σ2 rs2 o2 l2 => ⟨?_, ?_⟩
        · refine wipe_same (l2.trans (wipe_length _ _)) fun j hj => (o2 j hj).trans (wipe_out hj)
        · refine ⟨g1, ρ', hh, rh1, rs2, ?_⟩
          cases et : ft ρ' hh with
          | no => rw [et] at fin; exact fin.elim
          | exc _ _ _ _ => rw [et] at fin; exact fin.elim
          | ok k h1 =>
            rw [et] at fin
            intro g2 H2 bb st2 rh2 eb
            cases (show bb = k from eb)
            -- D is kept
            have hD2 : H2 D = some (.lst us) := by rw [st2.kH D (st1.kp D (.inr rfl)), st1.kH D (.inr rfl)]; exact hDl
            have kD2 : g2.kp D := st2.kp D (st1.kp D (.inr rfl))
            have s12 : Stp (gi.keep D) H g2 H2 := st1.trans st2
            cases k with
            | false =>
              rw [if_neg Bool.false_ne_true]
              have fin' : match lcGo b ft fe (wp ρ own) (xs.drop (i + 1)) h1 with
                | .ok vs h' => ∀ g' H' us, Stp gi H g' H' → RH c g' h' H' → H' D = some (.lst us) → ¬ g'.fz D → D ∉ g'.io → ¬ g'.kp D → RVs c g'.fz H' (acc ++ vs) us → Q (.ref D) H'
                | _ => False := by
                simp only [Res.bind, if_neg Bool.false_ne_true] at fin; exact fin
              refine ⟨g2.back gi.kp, h1, acc, us, Nat.le_succ_of_le hacc, st.trans s12.back, rh2.back (fun p z => s12.kp p (.inl z)), hD2, (rh2.kd D kD2).1, (rh2.kd D kD2).2, nk, RVs.gback (s12.rvs (show RVs c (gi.keep D).fz H acc us from rvs)), ?_⟩
              generalize lcGo b ft fe (wp ρ own) (xs.drop (i + 1)) h1 = r at fin' ⊢
              cases r with
              | ok vs h' => exact fun g' H' us' st' => fin' g' H' us' (s12.back.trans st')
              | no => exact fin'
              | exc _ _ _ _ => exact fin'
            | true =>
              rw [if_pos rfl]
              refine ⟨g2, ρ', h1, rh2, rs2.stp st2, ?_⟩
              simp only [Res.bind, if_pos rfl] at fin
              cases ee : fe ρ' h1 with
              | no => rw [ee] at fin; exact fin.elim
              | exc _ _ _ _ => rw [ee] at fin; exact fin.elim
              | ok v h2 =>
                rw [ee] at fin
                simp only at fin
                intro g3 H3 yv st3 rh3 rv3
                have s13 : Stp (gi.keep D) H g3 H3 := s12.trans st3
                have kD3 : g3.kp D := st3.kp D kD2
                have hD3 : H3 D = some (.lst us) := by rw [st3.kH D kD2]; exact hD2
                have rvs3 : RVs c g3.fz H3 acc us := s13.rvs (show RVs c (gi.keep D).fz H acc us from rvs)
                have nf3 := (rh3.kd D kD3).1
                have ni3 := (rh3.kd D kD3).2
                refine ⟨us, hD3, by rw [← rvs.len]; exact SZ_lt (by omega), ?_⟩
                cases ov : v.isObj with
                | true => rw [ov] at fin; simp at fin
                | false =>
                  simp only [ov, if_neg Bool.false_ne_true] at fin
                  -- write D
                  have sw : Stp (g3.back gi.kp) H3 (g3.back gi.kp) (upd H3 D (.lst (us ++ [yv]))) := Stp.wr (c := c) (g := g3.back gi.kp) nf3 nk (fun ys z => by rw [hD3] at z; cases z)
                  have rhb : RH c (g3.back gi.kp) h2 H3 := rh3.back (fun p z => s13.kp p (.inl z))
                  have rhw : RH c (g3.back gi.kp) h2 (upd H3 D (.lst (us ++ [yv]))) := by
                    refine ⟨rhb.len, rhb.nd, fun n o a q1 q2 => ?_, fun q z => ?_, fun q z => ?_, rhb.kd, rhb.tb.upd (by rw [hD3]; exact noTab_of (fun _ z => by cases z) (fun _ z => by cases z)), fun q z ps y => rhb.nt q z ps (by rw [upd_ne (show q ≠ D from fun e => z.elim (fun z => nf3 (e ▸ z)) (fun z => nk (e ▸ z)))] at y; exact y)⟩
                    · have na : a ≠ D := fun z => ni3 (z ▸ List.mem_of_getElem? q2)
                      exact RO.stp sw (fun h => h) (upd_ne na) (rhb.at' n o a q1 q2)
                    · rw [upd_ne (show q ≠ D from fun e => nf3 (e ▸ z))]; exact rhb.fz q z
                    · rw [upd_ne (show q ≠ D from fun e => nk (e ▸ z))]; exact rhb.kp q z
                  refine ⟨g3.back gi.kp, h2, acc ++ [v], us ++ [yv], by rw [List.length_append]; simp; omega, (st.trans s13.back).trans sw, rhw, upd_same, nf3, ni3, nk, ?_, ?_⟩
                  · exact sw.rvs (RVs.app (RVs.gback rvs3) (RVs.one (rv3.rv ov)))
                  · generalize lcGo b ft fe (wp ρ own) (xs.drop (i + 1)) h2 = r at fin ⊢
                    cases r with
                    | ok vs h' =>
                      intro g' H' us' st' rh' d1 d2 d3 d4 rv'
                      rw [List.append_assoc] at rv'
                      exact fin g' H' us' ((s13.back.trans sw).trans st') rh' d1 d2 d3 d4 rv'
                    | no => exact fin
                    | exc _ _ _ _ => exact fin
    · have e : i = xs.length := by omega
      subst e
      refine .inl ⟨dl.stop gi H st.f _ (Nat.le_refl _), ?_⟩
      rw [List.drop_length] at fin
      unfold lcGo at fin
      refine fin gi H us .refl rhi hDl nf ni nk ?_
      rw [List.append_nil]; exact rvs
section
variable {X : Cx} {W : WX}
abbrev W0 : WX := fun _ _ _ _ => False
theorem jts_nil : PTs X [] (tT (ct X) W tTrue) := ⟨fun pins s σ H Q I h => by
  obtain ⟨g, ρ, h0, rh, rs, p⟩ := h
  exact pts_nil.run pins s σ H Q I (show tYes σ H Q from p g H true .refl rh rfl)⟩
theorem jts_one {c : Expr} {f : TF} (h : PT X c (tT (ct X) W f)) : PTs X [c] (tT (ct X) W f) := pts_one h
theorem tLc_of {own : List Nat} {it : AF} {b : VV → VSt → Option VSt} {ft : TF} {fe : EF} {tg : TG} {mk : List VV → VH → Res VV} (pat : PatOk X.K tg b own)
    (hmk : ∀ (g : Gh) (h : VH) (H : Hp) (D : Addr) (vs : List VV) (us : List V) (σ : St) (Q : VK), RH (ct X) g h H → H D = some (.lst us) → ¬ g.fz D → D ∉ g.io → ¬ g.kp D → RVs (ct X) g.fz H vs us → Pst (ct X) W σ (RT (ct X)) g H Q (mk vs h) → Q (.ref D) H)
    {σ : St} {H : Hp} {Q : VK} (h : tE (ct X) W (fun ρ h => (it ρ h).bind fun xs h1 => if xs.length > SZ then .no else (match lcGo b ft fe (wp ρ own) xs h1 with
      | .ok vs h2 => mk vs h2
      | _ => .no)) σ H Q) :
    tLc (tI (ct X) W it) tg (tT (ct X) W0 ft) (tE (ct X) W0 fe) own σ H Q := by
  obtain ⟨g, ρ, h0, rh, rs, p⟩ := tG.bind (R := fun g H xs J => Deliv (ct X) g H xs J) (f := it) (k := fun (xs : List VV) ρ h1 => if xs.length > SZ then .no else (match lcGo b ft fe (wp ρ own) xs h1 with
      | .ok vs h2 => mk vs h2
      | _ => .no)) h
  refine ⟨g, ρ, h0, rh, rs, p.imp fun J H1 ⟨g1, ρ1, xs, h1, rh1, rs1, dl, p1⟩ D hD => ?_⟩
  by_cases hz : xs.length > SZ
  · rw [if_pos hz] at p1; exact p1.elim
  · rw [if_neg hz] at p1
    refine lc_run (Wx := W) (fun _ _ _ _ z => z) rfl pat dl (by omega) rh1 rs1 hD ?_
    generalize lcGo b ft fe (wp ρ1 own) xs h1 = r at p1 ⊢
    cases r with
    | ok vs h' => exact fun g' H' us st rh' d1 d2 d3 d4 rv' => hmk g' h' H' D vs us σ Q rh' d1 d2 d3 d4 rv' (Pst.step st p1)
    | no => exact p1
    | exc _ _ _ _ => exact p1
theorem mk_lst (g : Gh) (h : VH) (H : Hp) (D : Addr) (vs : List VV) (us : List V) (σ : St) (Q : VK) (rh : RH (ct X) g h H) (e : H D = some (.lst us)) (nf : ¬ g.fz D) (ni : D ∉ g.io) (nk : ¬ g.kp D) (rv : RVs (ct X) g.fz H vs us)
    (p : Pst (ct X) W σ (RT (ct X)) g H Q (.ok (.lst vs) h)) : Q (.ref D) H := by
  have st : Stp g H (g.frz D) H := .kill
  refine p (g.frz D) H (.ref D) st ⟨rh.len, rh.nd, fun n o a h1 h2 => ?_, fun q z => ?_, rh.kp, fun q z => ⟨fun y => y.elim (rh.kd q z).1 (fun e => nk (e ▸ z)), (rh.kd q z).2⟩, rh.tb, fun q z ps y => z.elim (fun z => z.elim (fun z => rh.nt q (.inl z) ps y) (fun z => by rw [z, e] at y; cases y)) (fun z => rh.nt q (.inr z) ps y)⟩ ?_
  · exact RO.stp st (fun x z => z.elim x (fun e => ni (e ▸ List.mem_of_getElem? h2))) rfl (rh.at' n o a h1 h2)
  · rcases z with z | z
    · exact rh.fz q z
    · rw [z]; exact ⟨_, e⟩
  · show RV _ _ _ _ _
    rw [RV]
    exact ⟨D, us, rfl, .inr rfl, e, st.rvs rv⟩
theorem mk_root (g : Gh) (h : VH) (H : Hp) (D : Addr) (vs : List VV) (us : List V) (σ : St) (Q : VK) (rh : RH (ct X) g h H) (e : H D = some (.lst us)) (nf : ¬ g.fz D) (ni : D ∉ g.io) (nk : ¬ g.kp D) (rv : RVs (ct X) g.fz H vs us)
    (p : Pst (ct X) W σ (RT (ct X)) g H Q (.ok (.obj h.length) (h ++ [.fl vs]))) : Q (.ref D) H := by
  refine p (g.add D) H (.ref D) .add (rh.add ni nk ⟨nf, us, e, rv⟩) ⟨D, ?_, rfl⟩
  show (g.io ++ [D])[h.length]? = some D
  rw [← rh.len, List.getElem?_append_right (Nat.le_refl _), Nat.sub_self]; rfl
theorem j_lc {elt tg iter : Expr} {ifs : List Expr} {scope : Scope} {own : List (Str × Nat)} {pos : Pos} {it : AF} {g : TG} {b : VV → VSt → Option VSt} {ft : TF} {fe : EF} (hc : X.calm = true) (hN : X.N.Nodup) (hi : PI X tg iter (tI (ct X) W it)) (ok : BlkOk X.N X.env.scope scope own)
    (hg : ∀ (s : Shared) (H : Hp) (C : Addr) (cl : List (Str × Addr)) (fp : List Addr), PG (X.blk s H scope (compEnvC scope cl C X.env) fp) tg g) (pat : PatOk X.K g b (own.map (·.2)))
    (ht : ∀ (s : Shared) (H : Hp) (C : Addr) (cl : List (Str × Addr)) (fp : List Addr), PTs (X.blk s H scope (compEnvC scope cl C X.env) fp) ifs (tT (ct X) W0 ft))
    (he : ∀ (s : Shared) (H : Hp) (C : Addr) (cl : List (Str × Addr)) (fp : List Addr), PE (X.blk s H scope (compEnvC scope cl C X.env) fp) elt (tE (ct X) W0 fe)) (hs : ∀ x, foldedSetIterable iter X.env x = pure x := by intro _; rfl) :
    PE X (.ListComp elt [⟨tg, iter, ifs, 0⟩] scope pos) (tE (ct X) W (eLc (own.map (·.2)) it b ft fe)) :=
  PE.mono (pe_lc hc hN hi ok hg ht he hs) fun σ H Q h => by
    exact tLc_of (mk := fun vs h => .ok (.lst vs) h) pat mk_lst h
theorem j_lcO {elt tg iter : Expr} {ifs : List Expr} {scope : Scope} {own : List (Str × Nat)} {pos : Pos} {it : AF} {g : TG} {b : VV → VSt → Option VSt} {ft : TF} {fe : EF} (hc : X.calm = true) (hN : X.N.Nodup) (hi : PI X tg iter (tI (ct X) W it)) (ok : BlkOk X.N X.env.scope scope own)
    (hg : ∀ (s : Shared) (H : Hp) (C : Addr) (cl : List (Str × Addr)) (fp : List Addr), PG (X.blk s H scope (compEnvC scope cl C X.env) fp) tg g) (pat : PatOk X.K g b (own.map (·.2)))
    (ht : ∀ (s : Shared) (H : Hp) (C : Addr) (cl : List (Str × Addr)) (fp : List Addr), PTs (X.blk s H scope (compEnvC scope cl C X.env) fp) ifs (tT (ct X) W0 ft))
    (he : ∀ (s : Shared) (H : Hp) (C : Addr) (cl : List (Str × Addr)) (fp : List Addr), PE (X.blk s H scope (compEnvC scope cl C X.env) fp) elt (tE (ct X) W0 fe)) (hs : ∀ x, foldedSetIterable iter X.env x = pure x := by intro _; rfl) :
    PE X (.ListComp elt [⟨tg, iter, ifs, 0⟩] scope pos) (tE (ct X) W (eLcO (own.map (·.2)) it b ft fe)) :=
  PE.mono (pe_lc hc hN hi ok hg ht he hs) fun σ H Q h => by
    exact tLc_of (mk := fun vs (h : VH) => .ok (.obj h.length) (h ++ [VO.fl vs])) pat mk_root h
/-! statements -/
inductive SR where
  | no
  | nx (ρ : VSt) (h : VH)
  | ret (v : VV) (h : VH)
  | brk (ρ : VSt) (h : VH)
  | cnt (ρ : VSt) (h : VH)
  | exc (x : Str) (ns : List Str) (vs : List VV) (ρ : VSt) (h : VH)
abbrev SF := VSt → VH → SR
def PS1 (c : Ct) (W : WX) (g : Gh) (H : Hp) (D : Ends) : SR → Prop
  | .no => False
  | .nx ρ h => ∀ g' H' σ', Stp g H g' H' → RH c g' h H' → RS c g' H' ρ σ' → D.nx σ' H'
  | .ret v h => ∀ g' H' u, Stp g H g' H' → RH c g' h H' → RT c g' H' v u → D.rt u H'
  | .brk ρ h => ∀ g' H' σ', Stp g H g' H' → RH c g' h H' → RS c g' H' ρ σ' → D.bk σ' H'
  | .cnt ρ h => ∀ g' H' σ', Stp g H g' H' → RH c g' h H' → RS c g' H' ρ σ' → D.ct σ' H'
  | .exc x ns vs ρ h => ∀ g' H' σ' C d us, Stp g H g' H' → RH c g' h H' → RS c g' H' ρ σ' → c.mg x = some (.ref C) → (H' d = some (.xd (ns.zip us)) ∧ ¬ g'.fz d ∧ d ∉ g'.io) → ns.length = us.length → RVs c g'.fz H' vs us → W (.ref C) (some d) σ' H'
theorem PS1.step {c : Ct} {W : WX} {g g1 : Gh} {H H1 : Hp} {D : Ends} {r : SR} (s : Stp g H g1 H1) (h : PS1 c W g H D r) : PS1 c W g1 H1 D r := by
  cases r with
  | no => exact h
  | nx => exact fun g' H' σ' st => h g' H' σ' (s.trans st)
  | ret => exact fun g' H' σ' st => h g' H' σ' (s.trans st)
  | brk => exact fun g' H' σ' st => h g' H' σ' (s.trans st)
  | cnt => exact fun g' H' σ' st => h g' H' σ' (s.trans st)
  | exc => exact fun g' H' σ' C d us st => h g' H' σ' C d us (s.trans st)
def tS (c : Ct) (W : WX) (F : SF) : TS := fun D σ H => ∃ g ρ h, RH c g h H ∧ RS c g H ρ σ ∧ PS1 c W g H D (F ρ h)
/-- from an expression's result to a statement's -/
def Res.st {α : Type} (r : Res α) (ρ : VSt) (k : α → VH → SR) : SR := match r with
  | .no => .no
  | .ok a h => k a h
  | .exc x ns vs h => .exc x ns vs ρ h
theorem Pst.st {α β : Type} {R : Gh → Hp → α → β → Prop} {c : Ct} {W : WX} {σ : St} {g : Gh} {H : Hp} {D : Ends} {r : Res α} {ρ : VSt} {k : α → VH → SR} (rs : RS c g H ρ σ) (h : PS1 c W g H D (r.st ρ k)) :
    Pst c W σ R g H (fun u H1 => ∃ g1 v h1, Stp g H g1 H1 ∧ RH c g1 h1 H1 ∧ RS c g1 H1 ρ σ ∧ R g1 H1 v u ∧ PS1 c W g1 H1 D (k v h1)) r := by
  cases r with
  | no => exact h
  | ok v h' => exact fun g' H' u st rh rv => ⟨g', v, h', st, rh, rs.stp st, rv, PS1.step st h⟩
  | exc x ns vs h' => exact fun g' H' C d us st rh m e l rv => h g' H' σ C d us st rh (rs.stp st) m e l rv
def sSkip : SF := fun ρ h => .nx ρ h
def sSeq (a b : SF) : SF := fun ρ h => match a ρ h with
  | .nx ρ' h' => b ρ' h'
  | r => r
def sAsg (e : EF) (b : VV → VSt → Option VSt) : SF := fun ρ h => (e ρ h).st ρ fun v h1 => match b v ρ with
  | some ρ' => .nx ρ' h1
  | none => .no
def sSet (i : Nat) (e : EF) : SF := fun ρ h => (e ρ h).st ρ fun v h1 => .nx (ρ.set i (some v)) h1
def sIf (c : TF) (a b : SF) : SF := fun ρ h => (c ρ h).st ρ fun k h1 => if k = true then a ρ h1 else b ρ h1
def sRet (e : EF) : SF := fun ρ h => (e ρ h).st ρ fun v h1 => .ret v h1
def sExpr (e : EF) : SF := fun ρ h => (e ρ h).st ρ fun v h1 => .nx ρ h1
def forGo (b : VV → VSt → Option VSt) (body : SF) : List VV → VSt → VH → SR
  | [], ρ, h => .nx ρ h
  | x :: xs, ρ, h => match b x ρ with
    | none => .no
    | some ρ' => match body ρ' h with
      | .nx ρ2 h2 => forGo b body xs ρ2 h2
      | .cnt ρ2 h2 => forGo b body xs ρ2 h2
      | .brk ρ2 h2 => .nx ρ2 h2
      | r => r
def sFor (it : AF) (b : VV → VSt → Option VSt) (body : SF) : SF := fun ρ h => (it ρ h).st ρ fun xs h1 => forGo b body xs ρ h1
def whGo (c : TF) (body : SF) : Nat → VSt → VH → SR
  | 0, _, _ => .no
  | n + 1, ρ, h => (c ρ h).st ρ fun k h1 => if k = true then (match body ρ h1 with
      | .nx ρ2 h2 => whGo c body n ρ2 h2
      | .cnt ρ2 h2 => whGo c body n ρ2 h2
      | .brk ρ2 h2 => .nx ρ2 h2
      | r => r) else .nx ρ h1
theorem js_nil : PSs X [] (tS (ct X) W sSkip) := PSs.mono pss_nil fun D σ H ⟨g, ρ, h, rh, rs, p⟩ => p g H σ .refl rh rs
theorem js_cons {st : Stmt} {rest : List Stmt} {fa fb : SF} (h1 : PS X st (tS (ct X) W fa)) (h2 : PSs X rest (tS (ct X) W fb)) : PSs X (st :: rest) (tS (ct X) W (sSeq fa fb)) :=
  PSs.mono (pss_cons h1 h2) fun D σ H ⟨g, ρ, h, rh, rs, p⟩ => by
    refine ⟨g, ρ, h, rh, rs, ?_⟩
    unfold sSeq at p
    cases e : fa ρ h with
    | nx ρ' h' =>
      rw [e] at p
      exact fun g' H' σ' st rh' rs' => ⟨g', ρ', h', rh', rs', PS1.step st p⟩
    | no => rw [e] at p; exact p
    | ret => rw [e] at p; exact p
    | brk => rw [e] at p; exact p
    | cnt => rw [e] at p; exact p
    | exc => rw [e] at p; exact p
theorem js_one {st : Stmt} {fa : SF} (h1 : PS X st (tS (ct X) W fa)) : PSs X [st] (tS (ct X) W fa) := pss_one h1
theorem js_asg {tg e : Expr} {f : EF} {g : TG} {b : VV → VSt → Option VSt} {own : List Nat} {pos : Pos} (he : PE X e (tE (ct X) W f)) (hg : PG X tg g) (pat : PatOk X.K g b own) (hs : swapsWithSole [tg] e pos.line X.env = pure false := by rfl) (hw : swappedStores [tg] e X.env = pure none := by rfl) (h1 : (assignEach [tg] X.env).map (·.2) = [assign tg X.env] := by rfl) :
    PS X (.Assign [tg] e pos) (tS (ct X) W (sAsg f b)) :=
  PS.mono (ps_asg he hg hs hw h1) fun D σ H ⟨g, ρ, h, rh, rs, p⟩ => by
    refine ⟨g, ρ, h, rh, rs, (Pst.st (R := RT (ct X)) rs p).imp fun u H1 ⟨g1, v, h1, st, rh1, rs1, rv1, p1⟩ => ?_⟩
    cases e : b v ρ with
    | none => rw [e] at p1; exact p1.elim
    | some ρ' =>
      rw [e] at p1
      exact pat.run (ct X) g1 h1 H1 ρ σ v u ρ' rfl rh1 rs1 rv1 e _ fun σ' rs' _ _ => p1 g1 H1 σ' .refl rh1 rs'
theorem js_set {i : Nat} {x : Str} {e : Expr} {f : EF} {pos pos' : Pos} (hN : X.N.Nodup) (hi : X.N[i]? = some x) (hx : Loc X.env.scope x) (he : PE X e (tE (ct X) W f)) (hs : swapsWith e (some (.Name x pos')) pos.line X.env = pure false := by rfl)
    (hf : X.fn x = true ∨ X.env.scope.names.lookup x = some .local := by first | exact .inl rfl | exact .inr rfl | assumption) :
    PS X (.Assign [.Name x pos'] e pos) (tS (ct X) W (sSet i f)) :=
  PS.mono (ps_set (i := i) hN hi hx he hs hf) fun D σ H ⟨g, ρ, h, rh, rs, p⟩ => by
    refine ⟨g, ρ, h, rh, rs, (Pst.st (R := RT (ct X)) rs p).imp fun u H1 ⟨g1, v, h1, st, rh1, rs1, rv1, p1⟩ => ?_⟩
    exact p1 g1 H1 _ .refl rh1 (rs1.set rv1 i)
theorem js_if {c : Expr} {a b : List Stmt} {fc : TF} {fa fb : SF} {pos : Pos} (hc : PT X c (tT (ct X) W fc)) (ha : PSs X a (tS (ct X) W fa)) (hb : PSs X b (tS (ct X) W fb)) : PS X (.If c a b pos) (tS (ct X) W (sIf fc fa fb)) :=
  PS.mono (ps_if hc ha hb) fun D σ H ⟨g, ρ, h, rh, rs, p⟩ => by
    refine ⟨g, ρ, h, rh, rs, (Pst.st (R := RB) rs p).imp fun u H1 ⟨g1, v, h1, st, rh1, rs1, rv1, p1⟩ => ?_⟩
    cases rv1
    cases u with
    | true => rw [if_pos rfl] at p1 ⊢; exact ⟨g1, ρ, h1, rh1, rs1, p1⟩
    | false => rw [if_neg Bool.false_ne_true] at p1 ⊢; exact ⟨g1, ρ, h1, rh1, rs1, p1⟩
theorem js_ret {e : Expr} {f : EF} {pos : Pos} (he : PE X e (tE (ct X) W f)) : PS X (.Return (some e) pos) (tS (ct X) W (sRet f)) :=
  PS.mono (ps_ret he) fun D σ H ⟨g, ρ, h, rh, rs, p⟩ => by
    refine ⟨g, ρ, h, rh, rs, (Pst.st (R := RT (ct X)) rs p).imp fun u H1 ⟨g1, v, h1, st, rh1, rs1, rv1, p1⟩ => ?_⟩
    exact p1 g1 H1 u .refl rh1 rv1
theorem js_expr {e : Expr} {f : EF} {pos : Pos} (he : PE X e (tE (ct X) W f)) (hs : swapsWith e none pos.line X.env = pure false := by rfl) : PS X (.Expr e pos) (tS (ct X) W (sExpr f)) :=
  PS.mono (ps_expr he hs) fun D σ H ⟨g, ρ, h, rh, rs, p⟩ => by
    refine ⟨g, ρ, h, rh, rs, (Pst.st (R := RT (ct X)) rs p).imp fun u H1 ⟨g1, v, h1, st, rh1, rs1, rv1, p1⟩ => ?_⟩
    exact p1 g1 H1 σ .refl rh1 rs1
theorem js_for {tg iter : Expr} {body : List Stmt} {it : AF} {g : TG} {b : VV → VSt → Option VSt} {own : List Nat} {fb : SF} {pos : Pos} (hp : PassesOwn (model X.prog X.w) X.A X.env X.xe) (hc : X.calm = true) (hi : PI X tg iter (tI (ct X) W it)) (hg : PG X tg g) (pat : PatOk X.K g b own) (hb : PSs X body (tS (ct X) W fb))
    (hs : ∀ x, foldedSetIterable iter X.env x = pure x := by intro _; rfl) : PS X (.For tg iter body [] pos) (tS (ct X) W (sFor it b fb)) :=
  PS.mono (ps_for hp hc hi hg hb hs) fun D σ H ⟨g, ρ, h, rh, rs, p⟩ => by
    refine ⟨g, ρ, h, rh, rs, (Pst.st (R := fun g H xs J => Deliv (ct X) g H xs J) rs p).imp fun J H1 ⟨g1, xs, h1, st, rh1, rs1, dl, p1⟩ => ?_⟩
    let P : Nat → St → Hp → Prop := fun i σ' H' => ∃ (gi : Gh) (ρi : VSt) (hi : VH), Stp g1 H1 gi H' ∧ RH (ct X) gi hi H' ∧ RS (ct X) gi H' ρi σ' ∧ PS1 (ct X) W gi H' D (forGo b fb (xs.drop i) ρi hi)
    refine ⟨fun i m σ' H' => m = xs.length - i ∧ i ≤ xs.length ∧ P i σ' H', ⟨xs.length, by simp, Nat.zero_le _, g1, ρ, h1, .refl, rh1, rs1, by rw [List.drop_zero]; exact p1⟩, ?_⟩
    rintro i m σ' H' ⟨rfl, hi, gi, ρi, hh, sti, rhi, rsi, pi⟩
    by_cases hlt : i < xs.length
    · have ed : xs.drop i = xs[i] :: xs.drop (i + 1) := List.drop_eq_getElem_cons hlt
      refine .inr ⟨dl.go gi H' sti.f i hlt, P (i + 1), fun σ2 H2 p2 => ⟨xs.length - (i + 1), by omega, rfl, hlt, p2⟩, fun x H2 y => ?_⟩
      obtain ⟨g2, st2, rh2, rt2⟩ := dl.yld gi H' sti.f i xs[i] hh (List.getElem?_eq_getElem hlt) rhi x H2 y
      rw [ed] at pi
      unfold forGo at pi
      cases e : b xs[i] ρi with
      | none => rw [e] at pi; exact pi.elim
      | some ρ' =>
        rw [e] at pi
        simp only at pi
        refine pat.run (ct X) g2 hh H2 ρi σ' xs[i] x ρ' rfl rh2 (rsi.stp st2) rt2 e _ fun σ3 rs3 _ _ => ⟨g2, ρ', hh, rh2, rs3, ?_⟩
        cases eb : fb ρ' hh with
        | no => rw [eb] at pi; exact pi
        | nx ρ2 h2 => rw [eb] at pi; exact fun g' H' σ' st rh' rs' => ⟨g', ρ2, h2, (sti.trans st2).trans st, rh', rs', PS1.step (st2.trans st) pi⟩
        | cnt ρ2 h2 => rw [eb] at pi; exact fun g' H' σ' st rh' rs' => ⟨g', ρ2, h2, (sti.trans st2).trans st, rh', rs', PS1.step (st2.trans st) pi⟩
        | brk ρ2 h2 => rw [eb] at pi; exact PS1.step (r := .nx ρ2 h2) st2 pi
        | ret v h2 => rw [eb] at pi; exact PS1.step (r := .ret v h2) st2 pi
        | exc x ns vs ρ2 h2 => rw [eb] at pi; exact PS1.step (r := .exc x ns vs ρ2 h2) st2 pi
    · have e : i = xs.length := by omega
      subst e
      rw [List.drop_length] at pi
      unfold forGo at pi
      exact .inl ⟨dl.stop gi H' sti.f _ (Nat.le_refl _), pi gi H' σ' .refl rhi rsi⟩
theorem js_while {c : Expr} {body : List Stmt} {fc : TF} {fb : SF} {n : Nat} {pos : Pos} (hp : PassesOwn (model X.prog X.w) X.A X.env X.xe) (hc : PT X c (tT (ct X) W fc)) (hb : PSs X body (tS (ct X) W fb)) : PS X (.While c body [] pos) (tS (ct X) W (whGo fc fb n)) :=
  PS.mono (ps_while hp hc hb) fun D σ H ⟨g, ρ, h, rh, rs, p⟩ => by
    refine ⟨fun m σ' H' => ∃ (gi : Gh) (ρi : VSt) (hi : VH), RH (ct X) gi hi H' ∧ RS (ct X) gi H' ρi σ' ∧ PS1 (ct X) W gi H' D (whGo fc fb m ρi hi), ⟨n, g, ρ, h, rh, rs, p⟩, ?_⟩
    rintro m σ' H' ⟨gi, ρi, hi, rhi, rsi, pi⟩
    cases m with
    | zero => exact pi.elim
    | succ m =>
      unfold whGo at pi
      refine ⟨gi, ρi, hi, rhi, rsi, (Pst.st (R := RB) rsi pi).imp fun u H1 ⟨g1, v, h1, st, rh1, rs1, rv1, p1⟩ => ?_⟩
      cases rv1
      cases u with
      | false => rw [if_neg Bool.false_ne_true] at p1 ⊢; exact p1 g1 H1 σ' .refl rh1 rs1
      | true =>
        rw [if_pos rfl] at p1 ⊢
        refine ⟨fun σ2 H2 => ∃ (gi : Gh) (ρi : VSt) (hi : VH), RH (ct X) gi hi H2 ∧ RS (ct X) gi H2 ρi σ2 ∧ PS1 (ct X) W gi H2 D (whGo fc fb m ρi hi), fun σ2 H2 p2 => ⟨m, Nat.lt_succ_self _, p2⟩, g1, ρi, h1, rh1, rs1, ?_⟩
        cases eb : fb ρi h1 with
        | no => rw [eb] at p1; exact p1
        | nx ρ2 h2 => rw [eb] at p1; exact fun g' H' σ' st rh' rs' => ⟨g', ρ2, h2, rh', rs', PS1.step st p1⟩
        | cnt ρ2 h2 => rw [eb] at p1; exact fun g' H' σ' st rh' rs' => ⟨g', ρ2, h2, rh', rs', PS1.step st p1⟩
        | brk ρ2 h2 => rw [eb] at p1; exact p1
        | ret v h2 => rw [eb] at p1; exact p1
        | exc x ns vs ρ2 h2 => rw [eb] at p1; exact p1
end
end J
namespace J
open PySem L2
open PyProof.Rows (envOfC)
/-! lists by value -/
def lstOf (h : VH) : VV → Option (List VV)
  | .lst xs => some xs
  | .scr xs => some xs
  | .obj n => match h[n]? with
    | some (.fl xs) => some xs
    | some (.fzn (.lst xs)) => some xs
    | _ => none
  | _ => none
/-- .. exact (not the script) -/
def lstOf' (h : VH) : VV → Option (List VV)
  | .lst xs => some xs
  | .obj n => match h[n]? with
    | some (.fl xs) => some xs
    | some (.fzn (.lst xs)) => some xs
    | _ => none
  | _ => none
theorem lstOf'_get {c : Ct} {g : Gh} {h : VH} {H : Hp} {v : VV} {u : V} {xs : List VV} (rh : RH c g h H) (rv : RT c g H v u) (e : lstOf' h v = some xs) : ∃ p us, u = .ref p ∧ H p = some (.lst us) ∧ RVs c g.fz H xs us := by
  cases v with
  | lst ys =>
    cases e
    have q := rv.rv rfl
    rw [RV] at q
    obtain ⟨p, us, a, b, d, r⟩ := q
    exact ⟨p, us, a, d, r⟩
  | obj n =>
    obtain ⟨a, ea, eu⟩ := rv
    unfold lstOf' at e
    simp only at e
    split at e
    · rename_i ys en
      cases e
      obtain ⟨_, us, d, r⟩ := rh.at' n _ a en ea
      exact ⟨a, us, eu, d, r⟩
    · rename_i ys en
      cases e
      obtain ⟨_, q⟩ := rh.at' n _ a en ea
      rw [RV] at q
      obtain ⟨p, us, z, b, d, r⟩ := q
      cases z
      exact ⟨a, us, eu, d, r⟩
    · cases e
  | _ => cases e
theorem lstOf_get {c : Ct} {g : Gh} {h : VH} {H : Hp} {v : VV} {u : V} {xs : List VV} (rh : RH c g h H) (rv : RT c g H v u) (e : lstOf h v = some xs) : ∃ p us, u = .ref p ∧ SqL c.K H p us ∧ RVs c g.fz H xs us := by
  cases v with
  | scr ys =>
    cases e
    have q := rv.rv rfl
    rw [RV] at q
    obtain ⟨p, us, a, d, r⟩ := q
    exact ⟨p, us, a, d.sq, r⟩
  | lst ys =>
    obtain ⟨p, us, a, b, r⟩ := lstOf'_get (xs := xs) rh rv e
    exact ⟨p, us, a, SqL.of b, r⟩
  | obj n =>
    obtain ⟨p, us, a, b, r⟩ := lstOf'_get (xs := xs) rh rv e
    exact ⟨p, us, a, SqL.of b, r⟩
  | _ => cases e
theorem tup_get {c : Ct} {g : Gh} {H : Hp} {u : V} {xs : List VV} (rv : RT c g H (.tup xs) u) : ∃ p us, u = .ref p ∧ TupAt c g.fz H p us ∧ RVs c g.fz H xs us := by
  have q := rv.rv rfl
  rw [RV] at q
  exact q
theorem int_get {c : Ct} {g : Gh} {H : Hp} {u : V} {i : Int} (rv : RT c g H (.int i) u) : u = .int i := by have q := rv.rv rfl; rw [RV] at q; exact q
theorem bl_get {c : Ct} {g : Gh} {H : Hp} {u : V} {i : Bool} (rv : RT c g H (.bl i) u) : u = .bl i := by have q := rv.rv rfl; rw [RV] at q; exact q
theorem str_get {c : Ct} {g : Gh} {H : Hp} {u : V} {i : Str} (rv : RT c g H (.str i) u) : u = .str i := by have q := rv.rv rfl; rw [RV] at q; exact q
theorem non_get {c : Ct} {g : Gh} {H : Hp} {u : V} (rv : RT c g H .non u) : u = .non := by have q := rv.rv rfl; rw [RV] at q; exact q
def lstF : VV → Option (List VV)
  | .lst xs => some xs
  | .scr xs => some xs
  | _ => none
theorem lstF_get {c : Ct} {g : Gh} {H : Hp} {v : VV} {u : V} {xs : List VV} (rv : RT c g H v u) (e : lstF v = some xs) : ∃ p us, u = .ref p ∧ LstAt c g.fz H p us ∧ RVs c g.fz H xs us := by
  cases v with
  | scr ys =>
    cases e
    have q := rv.rv rfl
    rw [RV] at q
    exact q
  | lst ys =>
    cases e
    have q := rv.rv rfl
    rw [RV] at q
    obtain ⟨p, us, a, b, d, r⟩ := q
    exact ⟨p, us, a, .inl ⟨b, .inl d⟩, r⟩
  | _ => cases e
/-- .. whose items may be roots -/
def lstR (h : VH) : VV → Option (List VV)
  | .obj n => match h[n]? with
    | some (.lo xs) => some xs
    | _ => lstOf h (.obj n)
  | v => lstOf h v
theorem lstR_get {c : Ct} {g : Gh} {h : VH} {H : Hp} {v : VV} {u : V} {xs : List VV} (rh : RH c g h H) (rv : RT c g H v u) (e : lstR h v = some xs) : ∃ p us, u = .ref p ∧ SqL c.K H p us ∧ RTs c g H xs us := by
  have old : lstOf h v = some xs → ∃ p us, u = .ref p ∧ SqL c.K H p us ∧ RTs c g H xs us := fun e => by
    obtain ⟨p, us, a, b, r⟩ := lstOf_get rh rv e
    exact ⟨p, us, a, b, RTs.of_rvs r⟩
  cases v with
  | obj n =>
    unfold lstR at e
    simp only at e
    split at e
    · rename_i ys en
      cases e
      obtain ⟨a, ea, eu⟩ := rv
      obtain ⟨_, us, d, r⟩ := rh.at' n _ a en ea
      exact ⟨a, us, eu, SqL.of d, r⟩
    · exact old e
  | _ => exact old e
/-! iterables -/
theorem deliv_list {c : Ct} {g : Gh} {h : VH} {H : Hp} {p : Addr} {us : List V} {xs : List VV} (rd : LstAt c g.fz H p us) (rv : RVs c g.fz H xs us) : Deliv c g H xs (Itl c.K p) where
  go := fun g1 H1 st i hi => by
    obtain ⟨u, e, _⟩ := rv.get (List.getElem?_eq_getElem hi)
    exact ⟨us, u, (rd.stp st.fz st.fH).sq, e⟩
  stop := fun g1 H1 st i hi => ⟨us, (rd.stp st.fz st.fH).sq, by rw [← rv.len]; exact hi⟩
  yld := fun g1 H1 st i x h1 e rh u H' y => by
    obtain ⟨eH, hy⟩ := y
    subst eH
    obtain ⟨u', e', r⟩ := rv.get e
    have q := hy us ((rd.stp st.fz st.fH).sq)
    rw [e'] at q
    cases q
    exact ⟨g1, .refl, rh, RT.of_rv (st.rv r)⟩
theorem deliv_tup {c : Ct} {g : Gh} {h : VH} {H : Hp} {p : Addr} {us : List V} {xs : List VV} (rd : TupAt c g.fz H p us) (rv : RVs c g.fz H xs us) : Deliv c g H xs (Itt c.K p) where
  go := fun g1 H1 st i hi => by
    obtain ⟨u, e, _⟩ := rv.get (List.getElem?_eq_getElem hi)
    exact ⟨us, u, (TupAt.stp (z' := g.fz) st.tp rd).sq, e⟩
  stop := fun g1 H1 st i hi => ⟨us, (TupAt.stp (z' := g.fz) st.tp rd).sq, by rw [← rv.len]; exact hi⟩
  yld := fun g1 H1 st i x h1 e rh u H' y => by
    obtain ⟨eH, hy⟩ := y
    subst eH
    obtain ⟨u', e', r⟩ := rv.get e
    have q := hy us (TupAt.stp (z' := g.fz) st.tp rd).sq
    rw [e'] at q
    cases q
    exact ⟨g1, .refl, rh, RT.of_rv (st.rv r)⟩
def signs (s : Str) : List VV := s.cps.toList.map fun c => .str ⟨#[c]⟩
theorem deliv_str {c : Ct} {g : Gh} {H : Hp} {s : Str} : Deliv c g H (signs s) (Its s) where
  go := fun g1 H1 st i hi => by unfold signs at hi; simp at hi; exact hi
  stop := fun g1 H1 st i hi => by unfold signs at hi; simp at hi; exact hi
  yld := fun g1 H1 st i x h1 e rh u H' y => by
    obtain ⟨eH, k, hk, hu⟩ := y
    subst eH
    refine ⟨g1, .refl, rh, ?_⟩
    unfold signs at e
    rw [List.getElem?_map, Array.getElem?_toList, hk] at e
    cases e
    rw [hu]
    exact rt_str
def rngV (lo : Int) (n : Nat) : List VV := (List.range n).map fun (i : Nat) => .int (lo + (i : Int))
theorem deliv_rng {c : Ct} {g : Gh} {H : Hp} {lo : Int} {n : Nat} : Deliv c g H (rngV lo n) (Itr lo n) where
  go := fun g1 H1 st i hi => by unfold rngV at hi; simp at hi; exact hi
  stop := fun g1 H1 st i hi => by unfold rngV at hi; simp at hi; exact hi
  yld := fun g1 H1 st i x h1 e rh u H' y => by
    obtain ⟨eH, hu⟩ := y
    subst eH
    refine ⟨g1, .refl, rh, ?_⟩
    unfold rngV at e
    rw [List.getElem?_map] at e
    cases q : (List.range n)[i]? with
    | none => rw [q] at e; cases e
    | some j =>
      rw [q] at e
      cases e
      obtain ⟨hh, e2⟩ := List.getElem?_eq_some_iff.mp q
      rw [List.getElem_range] at e2
      subst e2
      rw [hu]
      exact rt_int
/-- items of a list, a tuple, a text -/
def iSeq (f : EF) : AF := fun ρ h => (f ρ h).bind fun v h1 => match v with
  | .lst xs => .ok xs h1
  | .scr xs => .ok xs h1
  | .tup xs => .ok xs h1
  | .str s => .ok (signs s) h1
  | _ => .no
def iRange1 (f : EF) : AF := fun ρ h => (f ρ h).bind fun v h1 => match v with
  | .int n => if -(2 ^ 62) ≤ n ∧ n < 2 ^ 62 then .ok (rngV 0 n.toNat) h1 else .no
  | _ => .no
def iRange2 (a : AF) : AF := fun ρ h => (a ρ h).bind fun v h1 => match v with
  | [.int m, .int n] => if -(2 ^ 62) ≤ m ∧ m < 2 ^ 62 ∧ -(2 ^ 62) ≤ n ∧ n < 2 ^ 62 then .ok (rngV m (n - m).toNat) h1 else .no
  | _ => .no
def prs : List VV → List VV → List VV
  | x :: xs, y :: ys => .tup [x, y] :: prs xs ys
  | _, _ => []
def iZip (a : AF) : AF := fun ρ h => (a ρ h).bind fun v h1 => match v with
  | [.lst xs, .lst ys] => .ok (prs xs ys) h1
  | [.tup xs, .tup ys] => .ok (prs xs ys) h1
  | _ => .no
def enum : Nat → List VV → List VV
  | _, [] => []
  | n, x :: xs => .tup [.int n, x] :: enum (n + 1) xs
def iEnum (a : AF) : AF := fun ρ h => (a ρ h).bind fun v h1 => match v with
  | [.lst xs] => .ok (enum 0 xs) h1
  | [.scr xs] => .ok (enum 0 xs) h1
  | _ => .no
theorem prs_get : ∀ (xs ys : List VV) (i : Nat), (prs xs ys)[i]? = (match xs[i]?, ys[i]? with
    | some x, some y => some (.tup [x, y])
    | _, _ => none)
  | [], ys, i => by simp [prs]
  | x :: xs, [], i => by simp [prs]
  | x :: xs, y :: ys, 0 => by simp [prs]
  | x :: xs, y :: ys, i + 1 => by simp [prs, prs_get xs ys i]
theorem prs_len : ∀ (xs ys : List VV), (prs xs ys).length = min xs.length ys.length
  | [], ys => by simp [prs]
  | x :: xs, [] => by simp [prs]
  | x :: xs, y :: ys => by simp [prs, prs_len xs ys]
theorem enum_get : ∀ (n : Nat) (xs : List VV) (i : Nat), (enum n xs)[i]? = xs[i]?.map fun x => .tup [.int ((n + i : Nat) : Int), x]
  | n, [], i => by simp [enum]
  | n, x :: xs, 0 => by simp [enum]
  | n, x :: xs, i + 1 => by simp [enum, enum_get (n + 1) xs i]; congr 1; funext y; congr 3; omega
theorem enum_len : ∀ (n : Nat) (xs : List VV), (enum n xs).length = xs.length
  | _, [] => rfl
  | n, x :: xs => by simp [enum, enum_len (n + 1) xs]
theorem pair_new {c : Ct} {g : Gh} {h : VH} {H : Hp} {T : Addr} {xs : List VV} {us : List V} (rh : RH c g h H) (hT : H T = none) (rv : RVs c g.fz H xs us) :
    Stp g H (g.frz T) (upd H T (.tup us)) ∧ RH c (g.frz T) h (upd H T (.tup us)) ∧ RT c (g.frz T) (upd H T (.tup us)) (.tup xs) (.ref T) := by
  refine ⟨.new rh hT, rh.new hT, ?_⟩
  show RV _ _ _ _ _
  rw [RV]
  exact ⟨T, us, rfl, upd_same, (Stp.new rh hT).rvs rv⟩
theorem deliv_zip {c : Ct} {g : Gh} {H : Hp} {p q : Addr} {us ws : List V} {xs ys : List VV} (rd : LstAt c g.fz H p us) (rd' : LstAt c g.fz H q ws) (rv : RVs c g.fz H xs us) (rv' : RVs c g.fz H ys ws) : Deliv c g H (prs xs ys) (Itz c.K p q) where
  go := fun g1 H1 st i hi => by
    rw [prs_len] at hi
    obtain ⟨u, e, _⟩ := rv.get (List.getElem?_eq_getElem (show i < xs.length by omega))
    obtain ⟨w, e', _⟩ := rv'.get (List.getElem?_eq_getElem (show i < ys.length by omega))
    exact ⟨us, ws, u, w, (rd.stp st.fz st.fH).sq, (rd'.stp st.fz st.fH).sq, e, e'⟩
  stop := fun g1 H1 st i hi => by
    rw [prs_len, rv.len, rv'.len] at hi
    exact ⟨us, ws, (rd.stp st.fz st.fH).sq, (rd'.stp st.fz st.fH).sq, by omega⟩
  yld := fun g1 H1 st i x h1 e rh u H' y => by
    obtain ⟨T, a, b, eu, hT, eH, ha, hb⟩ := y
    subst eH eu
    rw [prs_get] at e
    cases ex : xs[i]? with
    | none => rw [ex] at e; cases e
    | some x1 =>
      cases ey : ys[i]? with
      | none => rw [ex, ey] at e; cases e
      | some y1 =>
        rw [ex, ey] at e
        cases e
        obtain ⟨u1, e1, r1⟩ := rv.get ex
        obtain ⟨w1, e2, r2⟩ := rv'.get ey
        have qa := ha us ((rd.stp st.fz st.fH).sq)
        have qb := hb ws ((rd'.stp st.fz st.fH).sq)
        rw [e1] at qa; cases qa
        rw [e2] at qb; cases qb
        obtain ⟨s1, s2, s3⟩ := pair_new (xs := [x1, y1]) rh hT (RVs.cons (st.rv r1) (RVs.one (st.rv r2)))
        exact ⟨_, s1, s2, s3⟩
theorem deliv_zipT {c : Ct} {g : Gh} {H : Hp} {p q : Addr} {us ws : List V} {xs ys : List VV} (rd : TupAt c g.fz H p us) (rd' : TupAt c g.fz H q ws) (rv : RVs c g.fz H xs us) (rv' : RVs c g.fz H ys ws) : Deliv c g H (prs xs ys) (RZ.ItzT c.K p q) where
  go := fun g1 H1 st i hi => by
    rw [prs_len] at hi
    obtain ⟨u, e, _⟩ := rv.get (List.getElem?_eq_getElem (show i < xs.length by omega))
    obtain ⟨w, e', _⟩ := rv'.get (List.getElem?_eq_getElem (show i < ys.length by omega))
    exact ⟨us, ws, u, w, (TupAt.stp (z' := g.fz) st.tp rd).sq, (TupAt.stp (z' := g.fz) st.tp rd').sq, e, e'⟩
  stop := fun g1 H1 st i hi => by
    rw [prs_len, rv.len, rv'.len] at hi
    exact ⟨us, ws, (TupAt.stp (z' := g.fz) st.tp rd).sq, (TupAt.stp (z' := g.fz) st.tp rd').sq, by omega⟩
  yld := fun g1 H1 st i x h1 e rh u H' y => by
    obtain ⟨T, a, b, eu, hT, eH, ha, hb⟩ := y
    subst eH eu
    rw [prs_get] at e
    cases ex : xs[i]? with
    | none => rw [ex] at e; cases e
    | some x1 =>
      cases ey : ys[i]? with
      | none => rw [ex, ey] at e; cases e
      | some y1 =>
        rw [ex, ey] at e
        cases e
        obtain ⟨u1, e1, r1⟩ := rv.get ex
        obtain ⟨w1, e2, r2⟩ := rv'.get ey
        have qa := ha us (TupAt.stp (z' := g.fz) st.tp rd).sq
        have qb := hb ws (TupAt.stp (z' := g.fz) st.tp rd').sq
        rw [e1] at qa; cases qa
        rw [e2] at qb; cases qb
        obtain ⟨s1, s2, s3⟩ := pair_new (xs := [x1, y1]) rh hT (RVs.cons (st.rv r1) (RVs.one (st.rv r2)))
        exact ⟨_, s1, s2, s3⟩
theorem deliv_enum {c : Ct} {g : Gh} {H : Hp} {p : Addr} {us : List V} {xs : List VV} (rd : LstAt c g.fz H p us) (rv : RVs c g.fz H xs us) : Deliv c g H (enum 0 xs) (Ite c.K p) where
  go := fun g1 H1 st i hi => by
    rw [enum_len] at hi
    obtain ⟨u, e, _⟩ := rv.get (List.getElem?_eq_getElem hi)
    exact ⟨us, u, (rd.stp st.fz st.fH).sq, e⟩
  stop := fun g1 H1 st i hi => by
    rw [enum_len, rv.len] at hi
    exact ⟨us, (rd.stp st.fz st.fH).sq, hi⟩
  yld := fun g1 H1 st i x h1 e rh u H' y => by
    obtain ⟨T, a, eu, hT, eH, ha⟩ := y
    subst eH eu
    rw [enum_get] at e
    cases ex : xs[i]? with
    | none => rw [ex] at e; cases e
    | some x1 =>
      rw [ex] at e
      cases e
      obtain ⟨u1, e1, r1⟩ := rv.get ex
      have qa := ha us ((rd.stp st.fz st.fH).sq)
      rw [e1] at qa; cases qa
      have ri : RV c g1.fz H1 (.int ((0 + i : Nat) : Int)) (.int (i : Nat)) := by rw [RV, Nat.zero_add]
      obtain ⟨s1, s2, s3⟩ := pair_new (xs := [.int ((0 + i : Nat) : Int), x1]) rh hT (RVs.cons ri (RVs.one (st.rv r1)))
      exact ⟨_, s1, s2, s3⟩
section
variable {X : Cx} {W : WX}
theorem ji_seq {tg l : Expr} {f : EF} (hl : PE X l (tE (ct X) W f)) : PI X tg l (tI (ct X) W (iSeq f)) :=
  PI.mono ((PI.or (pi_list hl) (PI.or (pi_tup hl) (pi_str hl)))) fun σ H R h => by
    obtain ⟨g, ρ, h0, rh, rs, p⟩ := h
    unfold iSeq at p
    cases e : f ρ h0 with
    | no => rw [e] at p; exact p.elim
    | exc x ns vs h' => exact .inl ⟨g, ρ, h0, rh, rs, by rw [e] at p ⊢; exact p⟩
    | ok v h1 =>
      rw [e] at p
      cases v with
      | lst xs =>
        refine .inl ⟨g, ρ, h0, rh, rs, ?_⟩
        rw [e]
        intro g' H' u st rh' rv
        obtain ⟨a, us, eu, ra, rvs⟩ := lstF_get (xs := xs) rv rfl
        exact ⟨a, eu, ⟨us, ra.sq⟩, p g' H' _ st rh' (deliv_list (h := h1) ra rvs)⟩
      | scr xs =>
        refine .inl ⟨g, ρ, h0, rh, rs, ?_⟩
        rw [e]
        intro g' H' u st rh' rv
        obtain ⟨a, us, eu, ra, rvs⟩ := lstF_get (xs := xs) rv rfl
        exact ⟨a, eu, ⟨us, ra.sq⟩, p g' H' _ st rh' (deliv_list (h := h1) ra rvs)⟩
      | tup xs =>
        refine .inr (.inl ⟨g, ρ, h0, rh, rs, ?_⟩)
        rw [e]
        intro g' H' u st rh' rv
        obtain ⟨a, us, eu, ra, rvs⟩ := tup_get rv
        exact ⟨a, eu, ⟨us, ra.sq⟩, p g' H' _ st rh' (deliv_tup (h := h1) ra rvs)⟩
      | str s =>
        refine .inr (.inr ⟨g, ρ, h0, rh, rs, ?_⟩)
        rw [e]
        intro g' H' u st rh' rv
        exact ⟨s, str_get rv, p g' H' _ st rh' deliv_str⟩
      | _ => exact p.elim
theorem ji_range1 {tg a : Expr} {f : EF} {p pos : Pos} (hg : Gl X "range") (hm : X.mg "range" = none) (ha : PE X a (tE (ct X) W f)) (hs : starEach [a] X.env = [(false, eval a X.env)] := by rfl) : PI X tg (.Call (.Name "range" p) [a] [] pos) (tI (ct X) W (iRange1 f)) :=
  PI.mono (pi_range1 hg hm (pa_cons ha pa_nil hs) hs) fun σ H R h => by
    obtain ⟨g, ρ, h0, rh, rs, p⟩ := h
    unfold iRange1 at p
    refine ⟨g, ρ, h0, rh, rs, ?_⟩
    cases e : f ρ h0 with
    | no => rw [e] at p; exact p.elim
    | exc x ns vs h' => rw [e] at p; exact p
    | ok v h1 =>
      rw [e] at p
      cases v with
      | int n =>
        simp only [Res.bind] at p
        by_cases hn : -(2 ^ 62) ≤ n ∧ n < 2 ^ 62
        · rw [if_pos hn] at p
          intro g' H' u st rh' rv
          exact ⟨n, by rw [int_get rv], hn.1, hn.2, p g' H' _ st rh' deliv_rng⟩
        · rw [if_neg hn] at p; exact p.elim
      | _ => exact p.elim
theorem ji_range2 {tg a b : Expr} {f : AF} {p pos : Pos} (hg : Gl X "range") (hm : X.mg "range" = none) (ha : PA X [a, b] (tA (ct X) W f)) (hs : starEach [a, b] X.env = [(false, eval a X.env), (false, eval b X.env)] := by rfl) (hs2 : starEach [b] X.env = [(false, eval b X.env)] := by rfl) :
    PI X tg (.Call (.Name "range" p) [a, b] [] pos) (tI (ct X) W (iRange2 f)) :=
  PI.mono (pi_range2 hg hm ha hs hs2) fun σ H R h => by
    obtain ⟨g, ρ, h0, rh, rs, p⟩ := h
    unfold iRange2 at p
    refine ⟨g, ρ, h0, rh, rs, ?_⟩
    cases e : f ρ h0 with
    | no => rw [e] at p; exact p.elim
    | exc x ns vs h' => rw [e] at p; exact p
    | ok v h1 =>
      rw [e] at p
      simp only [Res.bind] at p
      split at p
      · rename_i m n
        by_cases hn : -(2 ^ 62) ≤ m ∧ m < 2 ^ 62 ∧ -(2 ^ 62) ≤ n ∧ n < 2 ^ 62
        · rw [if_pos hn] at p
          intro g' H' u st rh' rv
          obtain ⟨u1, r1, rfl, a1, u2, r2, rfl, a2, rfl⟩ := rv
          exact ⟨m, n, by rw [int_get a1, int_get a2], hn, p g' H' _ st rh' deliv_rng⟩
        · rw [if_neg hn] at p; exact p.elim
      · exact p.elim
theorem ji_enum {a : Expr} {f : AF} {p pos tpos : Pos} {elts : List Expr} {kk : Nat} (hg : Gl X "enumerate") (hm : X.mg "enumerate" = none) (ha : PA X [a] (tA (ct X) W f)) (hs : starEach [a] X.env = [(false, eval a X.env)] := by rfl) :
    PI X (.Tuple elts kk tpos) (.Call (.Name "enumerate" p) [a] [] pos) (tI (ct X) W (iEnum f)) :=
  PI.mono (pi_enum hg hm ha hs) fun σ H R h => by
    obtain ⟨g, ρ, h0, rh, rs, p⟩ := h
    unfold iEnum at p
    refine ⟨g, ρ, h0, rh, rs, ?_⟩
    cases e : f ρ h0 with
    | no => rw [e] at p; exact p.elim
    | exc x ns vs h' => rw [e] at p; exact p
    | ok v h1 =>
      rw [e] at p
      simp only [Res.bind] at p
      split at p
      · intro g' H' u st rh' rv
        obtain ⟨u1, r1, rfl, a1, rfl⟩ := rv
        obtain ⟨a, us, eu, ra, rvs⟩ := lstF_get a1 rfl
        exact ⟨a, us, by rw [eu], ra.sq, p g' H' _ st rh' (deliv_enum ra rvs)⟩
      · intro g' H' u st rh' rv
        obtain ⟨u1, r1, rfl, a1, rfl⟩ := rv
        obtain ⟨a, us, eu, ra, rvs⟩ := lstF_get a1 rfl
        exact ⟨a, us, by rw [eu], ra.sq, p g' H' _ st rh' (deliv_enum ra rvs)⟩
      · exact p.elim
theorem ji_zip {a b : Expr} {f : AF} {p pos tpos : Pos} {elts : List Expr} {kk : Nat} (hg : Gl X "zip") (hm : X.mg "zip" = none) (ha : PA X [a, b] (tA (ct X) W f)) (hs : starEach [a, b] X.env = (false, eval a X.env) :: starEach [b] X.env := by rfl) (hpl : (backTo pos (starEach [b] X.env)).any (·.1) = false := by rfl) :
    PI X (.Tuple elts kk tpos) (.Call (.Name "zip" p) [a, b] [] pos) (tI (ct X) W (iZip f)) :=
  PI.mono (RZ.pi_zipA hg hm ha hs hpl) fun σ H R h => by
    obtain ⟨g, ρ, h0, rh, rs, p⟩ := h
    unfold iZip at p
    refine ⟨g, ρ, h0, rh, rs, ?_⟩
    cases e : f ρ h0 with
    | no => rw [e] at p; exact p.elim
    | exc x ns vs h' => rw [e] at p; exact p
    | ok v h1 =>
      rw [e] at p
      simp only [Res.bind] at p
      split at p
      · intro g' H' u st rh' rv
        obtain ⟨u1, r1, rfl, a1, u2, r2, rfl, a2, rfl⟩ := rv
        obtain ⟨a, us, eu, ra, rvs⟩ := lstF_get a1 rfl
        obtain ⟨b, ws, ew, rb, rws⟩ := lstF_get a2 rfl
        exact ⟨a, b, us, ws, by rw [eu, ew], .inl ⟨ra.sq, rb.sq, p g' H' _ st rh' (deliv_zip ra rb rvs rws)⟩⟩
      · intro g' H' u st rh' rv
        obtain ⟨u1, r1, rfl, a1, u2, r2, rfl, a2, rfl⟩ := rv
        obtain ⟨a, us, eu, ra, rvs⟩ := tup_get a1
        obtain ⟨b, ws, ew, rb, rws⟩ := tup_get a2
        exact ⟨a, b, us, ws, by rw [eu, ew], .inr ⟨ra.sq, rb.sq, p g' H' _ st rh' (deliv_zipT ra rb rvs rws)⟩⟩
      · exact p.elim
/-! defs and calls -/
abbrev FF := List VV → VH → Res VV
def spF (c : Ct) (n : Nat) (F : FF) : Sp := fun vs H Q E => ∃ g ws h, RH c g h H ∧ RTs c g H ws vs ∧ ws.length = n ∧ Pst c (fun a d _ H' => E a d H') [] (RT c) g H Q (F ws h)
/-- the roots that a def made and let go are forgotten -/
def lowV (n : Nat) : VV → Bool
  | .obj m => decide (m < n)
  | _ => true
def lowO (n : Nat) : VO → Bool
  | .ins _ _ vs => vs.all (lowV n)
  | .lo vs => vs.all (lowV n)
  | _ => true
def trim (n : Nat) (v : VV) (h : VH) : VH := if h.length = n then h else if lowV n v = true ∧ (h.take n).all (lowO n) = true then h.take n else h
def fnF (k : Nat) (B : SF) : FF := fun vs h => match B (vs.map some ++ List.replicate (k - vs.length) none) h with
  | .nx _ h' => .ok .non (trim h.length .non h')
  | .ret v h' => .ok v (trim h.length v h')
  | .exc x ns vs _ h' => .exc x ns vs h'
  | _ => .no
theorem RTs.start {c : Ct} {g : Gh} {H : Hp} {ws : List VV} {vs : List V} (r : RTs c g H ws vs) (k : Nat) : RS c g H (ws.map some ++ List.replicate (k - ws.length) none) (vs.map some ++ List.replicate (k - vs.length) none) := by
  have hl := r.len
  refine ⟨by simp [hl], fun i v e => ?_⟩
  by_cases hi : i < ws.length
  · rw [List.getElem?_append_left (by simpa using hi), List.getElem?_map] at e
    cases q : ws[i]? with
    | none => rw [q] at e; cases e
    | some w =>
      rw [q] at e
      cases e
      have : ∀ {ws : List VV} {vs : List V} {i : Nat} {v : VV}, RTs c g H ws vs → ws[i]? = some v → ∃ u, vs[i]? = some u ∧ RT c g H v u := by
        intro ws
        induction ws with
        | nil => intro vs i v _ e; simp at e
        | cons x xs ih =>
          intro vs i v r e
          obtain ⟨u, r', rfl, a, b⟩ := r
          cases i with
          | zero => simp at e; subst e; exact ⟨u, rfl, a⟩
          | succ i => exact ih (i := i) b (by simpa using e)
      obtain ⟨u, e2, ru⟩ := this r q
      refine ⟨u, ?_, ru⟩
      rw [List.getElem?_append_left (by rw [List.length_map, ← hl]; exact hi), List.getElem?_map, e2]; rfl
  · rw [List.getElem?_append_right (by simpa using hi), List.getElem?_replicate] at e
    split at e <;> cases e
theorem RT.low {c : Ct} {g g' : Gh} {H : Hp} {n : Nat} (hio : g'.io = g.io.take n) (hfz : g'.fz = g.fz) {v : VV} {u : V} (l : lowV n v = true) (r : RT c g H v u) : RT c g' H v u := by
  cases v with
  | obj m =>
    obtain ⟨a, e, eu⟩ := r
    refine ⟨a, ?_, eu⟩
    rw [hio, List.getElem?_take_of_lt (of_decide_eq_true l)]
    exact e
  | _ => exact RT.of_rv (by rw [hfz]; exact RT.rv r rfl)
theorem RTs.low {c : Ct} {g g' : Gh} {H : Hp} {n : Nat} (hio : g'.io = g.io.take n) (hfz : g'.fz = g.fz) : ∀ {vs : List VV} {us : List V}, vs.all (lowV n) = true → RTs c g H vs us → RTs c g' H vs us
  | [], us, _, r => r
  | x :: xs, us, l, r => by
    rw [List.all_cons, Bool.and_eq_true] at l
    obtain ⟨u, q, e, a, b⟩ := r
    exact ⟨u, q, e, a.low hio hfz l.1, RTs.low hio hfz l.2 b⟩
theorem trim_ok {c : Ct} {g g' : Gh} {h h' : VH} {H H' : Hp} {v : VV} {u : V} (rh : RH c g h H) (st : Stp g H g' H') (rh' : RH c g' h' H') (rv : RT c g' H' v u) :
    ∃ g2, Stp g H g2 H' ∧ RH c g2 (trim h.length v h') H' ∧ RT c g2 H' v u := by
  unfold trim
  by_cases e : h'.length = h.length
  · rw [if_pos e]; exact ⟨g', st, rh', rv⟩
  · rw [if_neg e]
    by_cases cc : lowV h.length v = true ∧ (h'.take h.length).all (lowO h.length) = true
    · rw [if_pos cc]
      have eio : g'.io.take h.length = g.io := by
        obtain ⟨l, hl⟩ := st.io
        rw [← hl, ← rh.len, List.take_left]
      refine ⟨{ io := g.io, fz := g'.fz, kp := g'.kp }, ⟨List.prefix_rfl, st.fz, st.kp, st.fH, st.kH, st.tp⟩, ?_, RT.low (g' := { io := g.io, fz := g'.fz, kp := g'.kp }) (n := h.length) eio.symm rfl cc.1 rv⟩
      have hle : h.length ≤ h'.length := by
        obtain ⟨l, hl⟩ := st.io
        have := congrArg List.length hl
        rw [List.length_append, rh.len, rh'.len] at this
        omega
      refine ⟨by show g.io.length = _; rw [List.length_take, rh.len]; omega, rh.nd, fun n o a h1 h2 => ?_, rh'.fz, rh'.kp, fun q z => ⟨(rh'.kd q z).1, fun y => (rh'.kd q z).2 ?_⟩, rh'.tb, rh'.nt⟩
      · have hn : n < h.length := by
          have := (List.getElem?_eq_some_iff.mp h1).1
          rw [List.length_take] at this; omega
        have h1' : h'[n]? = some o := by rw [List.getElem?_take_of_lt hn] at h1; exact h1
        have h2' : g'.io[n]? = some a := by
          have : g.io[n]? = some a := h2
          rw [← eio, List.getElem?_take_of_lt hn] at this
          exact this
        have ro := rh'.at' n o a h1' h2'
        have lo : lowO h.length o = true := List.all_eq_true.mp cc.2 o (List.mem_of_getElem? h1)
        cases o with
        | fzn v => exact ro
        | fl xs => exact ro
        | lo xs =>
          obtain ⟨q1, us, q3, q4⟩ := ro
          exact ⟨q1, us, q3, RTs.low (g' := { io := g.io, fz := g'.fz, kp := g'.kp }) (n := h.length) eio.symm rfl lo q4⟩
        | dT ks vs => exact ro
        | dK ks vs => exact ro
        | ins x ns vs =>
          obtain ⟨q1, C, dx, us, q3, q4, q5, q6⟩ := ro
          exact ⟨q1, C, dx, us, q3, q4, q5, RTs.low (g' := { io := g.io, fz := g'.fz, kp := g'.kp }) (n := h.length) eio.symm rfl lo q6⟩
      · have : q ∈ g.io := y
        rw [← eio] at this
        exact List.mem_of_mem_take this
    · rw [if_neg cc]; exact ⟨g', st, rh', rv⟩
end
section
variable {P : Program} {w : World} {K : PySem.W.Frag} {mg : Str → Option Value} {base : Heap}
/-- THE RULE for a def -/
theorem fn_ok {x qual : Str} {params : Arguments} {body : List Stmt} {scope : Scope} {dvs : List V} {kws : List (Str × V)} {f : Addr} {fd : FuncData} {N ps : List Str} {k n : Nat} {B : SF} (F : FunD K x qual params body scope dvs kws f fd) (S : FnScope N ps scope) (hn : n = N.length) (hp : ps.length ≤ n)
    (hbody : ∀ (cdv : Value) (A : Around) (outer : List Env) (s : Shared) (H : Hp) (E : XK), Room k (A.deeper (envOfC qual scope s.heap.objs.size f cdv)) →
      PSs (cxOf (L2N.CX P w) P w K mg base N qual scope f cdv A outer s H E) body (tS ⟨K, mg⟩ (fun a d _ H' => E a d H') B)) :
    FnOk P w K mg base (L2N.CX P w) (k + 1) f fd ps (spF ⟨K, mg⟩ ps.length (fnF n B)) := by
  refine F.ok S (fun vs H Q E h => ?_) (fun cdv A outer s H vs Q E hr h => ?_)
  · obtain ⟨g, ws, hh, rh, rt, l, _⟩ := h
    rw [← rt.len]; exact l
  · refine ⟨_, hbody cdv A outer s H E hr, ?_⟩
    obtain ⟨g, ws, hh, rh, rt, l, p⟩ := h
    have rs := rt.start n
    refine ⟨g, ws.map some ++ List.replicate (n - ws.length) none, hh, rh, ?_, ?_⟩
    · rw [hn] at rs ⊢; exact rs
    · unfold fnF at p
      generalize B (ws.map some ++ List.replicate (n - ws.length) none) hh = r at p ⊢
      cases r with
      | no => exact p
      | brk => exact p.elim
      | cnt => exact p.elim
      | nx ρ h' =>
        intro g' H' σ' st rh' rs'
        obtain ⟨g2, s2, rh2, rv2⟩ := trim_ok rh st rh' (rt_non (c := ⟨K, mg⟩))
        exact p g2 H' .non s2 rh2 rv2
      | ret v h' =>
        intro g' H' u st rh' rv
        obtain ⟨g2, s2, rh2, rv2⟩ := trim_ok rh st rh' rv
        exact p g2 H' u s2 rh2 rv2
      | exc x ns vs ρ h' => exact fun g' H' σ' C d us st rh' rs' m e l rv => p g' H' C d us st rh' m e l rv
end
section
variable {X : Cx} {W : WX}
def eFn (n : Nat) (F : FF) (dws : List VV) (a : AF) : EF := fun ρ h => (a ρ h).bind fun vs h1 => if (vs ++ dws).length = n then F (vs ++ dws) h1 else .no
theorem RTs.append {c : Ct} {g : Gh} {H : Hp} : ∀ {vs ws : List VV} {us ys : List V}, RTs c g H vs us → RTs c g H ws ys → RTs c g H (vs ++ ws) (us ++ ys)
  | [], ws, us, ys, r, q => by rw [show us = [] from r]; exact q
  | x :: xs, ws, us, ys, r, q => by
    obtain ⟨u, r', rfl, a, b⟩ := r
    exact ⟨u, _, rfl, a, RTs.append b q⟩
theorem pst_call {σ : St} {g : Gh} {H : Hp} {Q : VK} {r : Res VV} (h : Pst (ct X) W σ (RT (ct X)) g H Q r) : Pst (ct X) (fun a d _ H' => WE W σ a d H') [] (RT (ct X)) g H Q r := by
  cases r with
  | no => exact h
  | ok => exact h
  | exc => exact h
/-- from arguments to a def's promise -/
theorem tCall_of {n : Nat} {F : FF} {fa : AF} {dws : List VV} {dvs : List V} (hd : ∀ g H, RTs (ct X) g H dws dvs) {σ : St} {H : Hp} {Q : VK} (h : tE (ct X) W (eFn n F dws fa) σ H Q) :
    tCallSD (spF (ct X) n F) dvs (WE W) (tA (ct X) W fa) σ H Q := by
  obtain ⟨g, ρ, h0, rh, rs, p⟩ := h
  refine ⟨g, ρ, h0, rh, rs, ?_⟩
  unfold eFn at p
  cases e : fa ρ h0 with
  | no => rw [e] at p; exact p
  | exc => rw [e] at p; exact p
  | ok vs h1 =>
    rw [e] at p
    simp only [Res.bind] at p
    by_cases hl : (vs ++ dws).length = n
    · rw [if_pos hl] at p
      intro g' H' us st rh' rts
      exact ⟨g', vs ++ dws, h1, rh', RTs.append rts (hd g' H'), hl, pst_call (Pst.step st p)⟩
    · rw [if_neg hl] at p; exact p.elim
theorem j_call {k n : Nat} {f : Addr} {fd : FuncData} {ps : List Str} {Fm : FF} {dvs : List V} {dws : List VV} {ds : List Value} {x : Str} {p pos : Pos} {e : Expr} {es : List Expr} {fa : AF}
    (F : FnOk X.prog X.w X.K X.mg X.base (L2N.CX X.prog X.w) k f fd ps (spF (ct X) n Fm)) (hr : Room k X.A) (hg : Gl X x) (hm : X.mg x = some (.ref f)) (hk : PySem.W.keepIn X.K (.ref f) = true) (hb : Binds X.K fd ps ds) (hd : Vals dvs ds) (rd : ∀ g H, RTs (ct X) g H dws dvs) (tk : L2N.Takes X W)
    (ha : PA X (e :: es) (tA (ct X) W fa)) (hdb : (x == ("__debug__" : Str)) = false := by decide) (he : starEach (e :: es) X.env = (false, eval e X.env) :: starEach es X.env := by rfl) (hpl : (backTo pos (starEach es X.env)).any (·.1) = false := by rfl) :
    PE X (.Call (.Name x p) (e :: es) [] pos) (tE (ct X) W (eFn n Fm dws fa)) :=
  PE.mono (pe_callSD (E := WE W) F hr hg hm hk hb hd (fun σ => L2N.passAt tk σ) ha hdb he hpl) fun σ H Q h => tCall_of rd h
/-! more statements -/
def sPar (i j : Nat) (a : AF) : SF := fun ρ h => (a ρ h).st ρ fun vs h1 => match vs with
  | [v, w] => .nx ((ρ.set i (some v)).set j (some w)) h1
  | _ => .no
theorem js_par {i j : Nat} {x y : Str} {a b : Expr} {f : AF} {px py pt pos : Pos} {kt k2 pt2} (hc : X.calm = true) (hN : X.N.Nodup) (hi : X.N[i]? = some x) (hj : X.N[j]? = some y) (hij : i ≠ j)
    (hx : X.env.scope.names.lookup x = some .local) (hy : X.env.scope.names.lookup y = some .local) (ha : PA X [a, b] (tA (ct X) W f))
    (hw : swappedStores [.Tuple [.Name x px, .Name y py] kt pt] (.Tuple [a, b] k2 pt2) X.env = pure (some [x, y]))
    (hs : swapsWithSole [.Tuple [.Name x px, .Name y py] kt pt] (.Tuple [a, b] k2 pt2) pos.line X.env = pure false := by rfl) :
    PS X (.Assign [.Tuple [.Name x px, .Name y py] kt pt] (.Tuple [a, b] k2 pt2) pos) (tS (ct X) W (sPar i j f)) :=
  PS.mono (ps_par hc hN hi hj hij hx hy ha hw hs) fun D σ H ⟨g, ρ, h, rh, rs, p⟩ => by
    refine ⟨g, ρ, h, rh, rs, (Pst.st (R := RTs (ct X)) rs p).imp fun u H1 ⟨g1, v, h1, st, rh1, rs1, rv1, p1⟩ => ?_⟩
    match v, rv1, p1 with
    | [v1, v2], rv1, p1 =>
      obtain ⟨u1, r1, rfl, a1, u2, r2, rfl, a2, rfl⟩ := rv1
      exact ⟨u1, u2, rfl, p1 g1 H1 _ .refl rh1 ((rs1.set a1 i).set a2 j)⟩
    | [], _, p1 => exact p1.elim
    | [_], _, p1 => exact p1.elim
    | _ :: _ :: _ :: _, _, p1 => exact p1.elim
def sPar3 (i j l : Nat) (a : AF) : SF := fun ρ h => (a ρ h).st ρ fun vs h1 => match vs with
  | [u, v, w] => .nx (((ρ.set i (some u)).set j (some v)).set l (some w)) h1
  | _ => .no
theorem js_par3 {i j l : Nat} {x y z : Str} {a b c : Expr} {f : AF} {px py pz pt pos : Pos} {kt k2 pt2} (hc : X.calm = true) (hN : X.N.Nodup) (hi : X.N[i]? = some x) (hj : X.N[j]? = some y) (hl : X.N[l]? = some z) (hij : i ≠ j) (hil : i ≠ l) (hjl : j ≠ l)
    (hx : X.env.scope.names.lookup x = some .local) (hy : X.env.scope.names.lookup y = some .local) (hz : X.env.scope.names.lookup z = some .local) (ha : PA X [a, b, c] (tA (ct X) W f))
    (hw : swappedStores [.Tuple [.Name x px, .Name y py, .Name z pz] kt pt] (.Tuple [a, b, c] k2 pt2) X.env = pure (some [x, y, z]))
    (hs : swapsWithSole [.Tuple [.Name x px, .Name y py, .Name z pz] kt pt] (.Tuple [a, b, c] k2 pt2) pos.line X.env = pure false := by rfl) :
    PS X (.Assign [.Tuple [.Name x px, .Name y py, .Name z pz] kt pt] (.Tuple [a, b, c] k2 pt2) pos) (tS (ct X) W (sPar3 i j l f)) :=
  PS.mono (ps_par3 hc hN hi hj hl hij hil hjl hx hy hz ha hw hs) fun D σ H ⟨g, ρ, h, rh, rs, p⟩ => by
    refine ⟨g, ρ, h, rh, rs, (Pst.st (R := RTs (ct X)) rs p).imp fun u H1 ⟨g1, v, h1, st, rh1, rs1, rv1, p1⟩ => ?_⟩
    match v, rv1, p1 with
    | [v1, v2, v3], rv1, p1 =>
      obtain ⟨u1, r1, rfl, a1, u2, r2, rfl, a2, u3, r3, rfl, a3, rfl⟩ := rv1
      exact ⟨u1, u2, u3, rfl, p1 g1 H1 _ .refl rh1 (((rs1.set a1 i).set a2 j).set a3 l)⟩
    | [], _, p1 => exact p1.elim
    | [_], _, p1 => exact p1.elim
    | [_, _], _, p1 => exact p1.elim
    | _ :: _ :: _ :: _ :: _, _, p1 => exact p1.elim
/-! a root that is a list: written, read as data -/
def setI (h : VH) (o i v : VV) : Option VH := match o, i with
  | .obj n, .int k => match h[n]? with
    | some (.fl xs) => match ixN xs.length k with
      | some j => if v.isObj = true then none else some (h.set n (.fl (xs.set j v)))
      | none => none
    | _ => none
  | _, _ => none
theorem setI_ok {c : Ct} {g : Gh} {h h' : VH} {H : Hp} {o i v : VV} {uo ui uv : V} (rh : RH c g h H) (ro : RT c g H o uo) (ri : RT c g H i ui) (rv : RT c g H v uv) (e : setI h o i v = some h') (Q : Hp → Prop) (k : ∀ H', Stp g H g H' → RH c g h' H' → Q H') : rSetL uo ui uv H Q := by
  unfold setI at e
  split at e
  · rename_i n kk
    split at e
    · rename_i xs en
      split at e
      · rename_i j ej
        split at e
        · cases e
        · rename_i ov
          cases e
          obtain ⟨a, ea, eo⟩ := ro
          have hro := rh.at' n _ a en ea
          obtain ⟨nz, us, hl, rvs⟩ := hro
          have nk : ¬ g.kp a := fun z => (rh.kd a z).2 (List.mem_of_getElem? ea)
          have st : Stp g H g (upd H a (.lst (us.set j uv))) := Stp.wr (c := c) nz nk (fun ys z => by rw [hl] at z; cases z)
          refine ⟨a, us, kk, j, eo, int_get ri, hl, by rw [← rvs.len]; exact ej, k _ st (rh.wr ea nz (fun ys z => by rw [hl] at z; cases z) ?_)⟩
          exact ⟨nz, _, upd_same, st.rvs (RVs.set (rv.rv (by simpa using ov)) rvs)⟩
      · cases e
    · cases e
  · cases e
def sSetI (o i e : EF) : SF := fun ρ h => (e ρ h).st ρ fun v h1 => (o ρ h1).st ρ fun ov h2 => (i ρ h2).st ρ fun iv h3 => match setI h3 ov iv v with
  | some h4 => .nx ρ h4
  | none => .no
theorem js_setI {o i e : Expr} {fo fi fe : EF} {pos pos' : Pos} (he : PE X e (tE (ct X) W fe)) (ho : PE X o (tE (ct X) W fo)) (hi : PE X i (tE (ct X) W fi))
    (ha : ∀ v, assign (.Subscript o i pos') X.env v = (do
      let ov ← holding [v] (eval o X.env)
      let iv ← holding [v, ov] (eval i X.env)
      standAt pos'
      holding [v, ov, iv] (setItem ov iv v)
      release [v, ov, iv] []) := by intro _; rfl)
    (hs : swapsWithSole [.Subscript o i pos'] e pos.line X.env = pure false := by rfl) (hw : swappedStores [.Subscript o i pos'] e X.env = pure none := by rfl) (h1 : (assignEach [.Subscript o i pos'] X.env).map (·.2) = [assign (.Subscript o i pos') X.env] := by rfl) :
    PS X (.Assign [.Subscript o i pos'] e pos) (tS (ct X) W (sSetI fo fi fe)) :=
  PS.mono (ps_asg he (pg_sub ho hi set_list ha) hs hw h1) fun D σ H ⟨g, ρ, h, rh, rs, p⟩ => by
    refine ⟨g, ρ, h, rh, rs, (Pst.st (R := RT (ct X)) rs p).imp fun u H1 ⟨g1, v, h1, st, rh1, rs1, rv1, p1⟩ => ?_⟩
    refine ⟨g1, ρ, h1, rh1, rs1, (Pst.st (R := RT (ct X)) rs1 p1).imp fun u2 H2 ⟨g2, ov, h2, st2, rh2, rs2, rv2, p2⟩ => ?_⟩
    refine ⟨g2, ρ, h2, rh2, rs2, (Pst.st (R := RT (ct X)) rs2 p2).imp fun u3 H3 ⟨g3, iv, h3, st3, rh3, rs3, rv3, p3⟩ => ?_⟩
    cases e : setI h3 ov iv v with
    | none => rw [e] at p3; exact p3.elim
    | some h4 =>
      rw [e] at p3
      exact setI_ok rh3 (rv2.stp st3) rv3 ((rv1.stp st2).stp st3) e _ fun H' st' rh' => p3 g3 H' σ st' rh' (rs3.stp st')
def appV (h2 : VH) (ov v : VV) : Res VV := match ov with
    | .obj n => match h2[n]? with
      | some (.fl xs) => if xs.length ≥ SZ then .no else if v.isObj = true then .ok .non (h2.set n (.lo (xs ++ [v]))) else .ok .non (h2.set n (.fl (xs ++ [v])))
      | some (.lo xs) => if xs.length ≥ SZ then .no else .ok .non (h2.set n (.lo (xs ++ [v])))
      | _ => .no
    | _ => .no
theorem RTs.app {c : Ct} {g : Gh} {H : Hp} : ∀ {vs ws : List VV} {us ys : List V}, RTs c g H vs us → RTs c g H ws ys → RTs c g H (vs ++ ws) (us ++ ys)
  | [], ws, us, ys, h, k => by rw [show us = [] from h]; exact k
  | x :: xs, ws, us, ys, h, k => by
    obtain ⟨u, r, rfl, a, b⟩ := h
    exact ⟨u, _, rfl, a, RTs.app b k⟩
theorem RTs.one {c : Ct} {g : Gh} {H : Hp} {v : VV} {u : V} (q : RT c g H v u) : RTs c g H [v] [u] := ⟨u, [], rfl, q, rfl⟩
def eApp (o e : EF) : EF := fun ρ h => (o ρ h).bind fun ov h1 => match lstR h1 ov with
  | none => .no
  | some _ => (e ρ h1).bind fun v h2 => appV h2 ov v
theorem j_app {o e : Expr} {fo fe : EF} {apos cpos : Pos} (ho : PE X o (tE (ct X) W fo)) (ha : PE X e (tE (ct X) W fe)) (hs1 : starEach (e :: []) X.env = (false, eval e X.env) :: starEach [] X.env := by rfl)
    (hbase : attributeBase o "append" X.env (eval o X.env) = eval o X.env := by rfl)
    (hfew : ((backTo cpos (starEach [e] X.env)).all (fun x => !x.1) && (backToKw cpos (keywordEach [] X.env)).all (fun x => x.1.isSome)
      && decide ([e].length + ([] : List Keyword).length + (if ([] : List Keyword).isEmpty then 0 else 1) < 30)) = true := by rfl)
    (hline : (apos.endLine == cpos.line) = true := by rfl) (hplain : (backTo cpos (starEach [] X.env)).any (·.1) = false := by rfl) :
    PE X (.Call (.Attribute o "append" apos) [e] [] cpos) (tE (ct X) W (eApp fo fe)) :=
  PE.mono (pe_bm PySem.F.plainAttrs_list PySem.F.slot_list_append PySem.F.type_list_append mt_append ho (pa_cons ha pa_nil hs1) hbase hfew hline hs1 hplain) fun σ H Q ⟨g, ρ, h0, rh, rs, p⟩ => by
    refine ⟨g, ρ, h0, rh, rs, (Pst.bind (R := RT (ct X)) p).imp fun u H1 ⟨g1, ov, h1, st, rh1, rv1, p1⟩ => ?_⟩
    cases e : lstR h1 ov with
    | none => rw [e] at p1; exact p1.elim
    | some ys =>
      rw [e] at p1
      obtain ⟨a, us, eu, sq, rvs⟩ := lstR_get rh1 rv1 e
      refine ⟨by rw [eu]; exact .inl ⟨rfl, us, sq⟩, g1, ρ, h1, rh1, rs.stp st, (Pst.bind (R := RT (ct X)) p1).imp fun u2 H2 ⟨g2, v, h2, st2, rh2, rv2, p2⟩ => ?_⟩
      cases ov with
      | obj n =>
        unfold appV at p2
        simp only at p2
        obtain ⟨b, eb, eu'⟩ := rv1.stp st2
        split at p2
        · rename_i xs en
          obtain ⟨nz, ws, hl, rws⟩ := rh2.at' n _ b en eb
          split at p2
          · exact p2.elim
          · rename_i cc
            have nk : ¬ g2.kp b := fun z => (rh2.kd b z).2 (List.mem_of_getElem? eb)
            have nt : ∀ ys, H2 b ≠ some (.tup ys) := fun ys z => by rw [hl] at z; cases z
            have stw : Stp g2 H2 g2 (upd H2 b (.lst (ws ++ [u2]))) := Stp.wr (c := ct X) nz nk nt
            refine ⟨b, ws, u2, eu', rfl, hl, by rw [← rws.len]; exact SZ_lt (by omega), ?_⟩
            split at p2
            · exact p2 g2 _ .non stw (rh2.wr eb nz nt ⟨nz, _, upd_same, (RTs.app (RTs.of_rvs rws) (RTs.one rv2)).stp stw⟩) rt_non
            · rename_i cv
              exact p2 g2 _ .non stw (rh2.wr eb nz nt ⟨nz, _, upd_same, stw.rvs (RVs.app rws (RVs.one (rv2.rv (by simpa using cv))))⟩) rt_non
        · rename_i xs en
          obtain ⟨nz, ws, hl, rws⟩ := rh2.at' n _ b en eb
          split at p2
          · exact p2.elim
          · rename_i cc
            have nk : ¬ g2.kp b := fun z => (rh2.kd b z).2 (List.mem_of_getElem? eb)
            have nt : ∀ ys, H2 b ≠ some (.tup ys) := fun ys z => by rw [hl] at z; cases z
            have stw : Stp g2 H2 g2 (upd H2 b (.lst (ws ++ [u2]))) := Stp.wr (c := ct X) nz nk nt
            refine ⟨b, ws, u2, eu', rfl, hl, by rw [← rws.len]; exact SZ_lt (by omega), ?_⟩
            exact p2 g2 _ .non stw (rh2.wr eb nz nt ⟨nz, _, upd_same, (RTs.app rws (RTs.one rv2)).stp stw⟩) rt_non
        · exact p2.elim
      | _ => exact p2.elim
end
end J
namespace J
open PySem L2
/-! numbers -/
def isInt2 (f : Int → Int → Option VV) : Op2 := fun _ v w => match v, w with
  | .int i, .int j => f i j
  | _, _ => none
def opSub : Op2 := isInt2 fun i j => some (.int (i - j))
def opLt : Op2 := isInt2 fun i j => some (.bl (decide (i < j)))
def opLe : Op2 := isInt2 fun i j => some (.bl (decide (i ≤ j)))
def opGt : Op2 := isInt2 fun i j => some (.bl (decide (j < i)))
def opGe : Op2 := isInt2 fun i j => some (.bl (decide (j ≤ i)))
def opFdiv : Op2 := isInt2 fun i j => if j ≠ 0 ∧ j.natAbs.log2 < 9000 then some (.int (i.fdiv j)) else none
def opMod : Op2 := isInt2 fun i j => if j ≠ 0 then some (.int (i.fmod j)) else none
def mulOk (i j : Int) : Bool := decide (i.natAbs < 2 ^ 64) || decide (j.natAbs < 2 ^ 64) || decide (i.natAbs.log2 + j.natAbs.log2 < 1000000)
def opPow : Op2 := isInt2 fun i j => if 0 ≤ j ∧ j ≤ 1000000 ∧ i.natAbs < 2 ^ 64 then some (.int (i ^ j.toNat)) else none
def opNeg : Op1 := fun _ v => match v with
  | .int i => some (.int (-i))
  | _ => none
def opAdd : Op2 := fun h v w => match v, w with
  | .int i, .int j => some (.int (i + j))
  | .str x, .str y => if x.length + y.length ≤ SZ then some (.str (x ++ y)) else none
  | .tup xs, .tup ys => if xs.length + ys.length ≤ SZ then some (.tup (xs ++ ys)) else none
  | .lst xs, .lst ys => if xs.length + ys.length ≤ SZ then some (.lst (xs ++ ys)) else none
  | _, _ => none
def opMul : Op2 := fun h v w => match v, w with
  | .int i, .int j => if mulOk i j = true then some (.int (i * j)) else none
  | .lst xs, .int k => if -(2 ^ 63) ≤ k ∧ k < 2 ^ 63 ∧ xs.length * k.toNat ≤ SZ then some (.lst (List.replicate k.toNat xs).flatten) else none
  | _, _ => none
section
variable {X : Cx} {W : WX}
theorem opR_int {f : Value → Value → Sem Value} {C : Int → Int → Prop} {g : Int → Int → V} {o : Int → Int → Option VV} (h : OpR X f (rI C g)) (ho : ∀ i j r, o i j = some r → C i j ∧ ∀ c z H, RV c z H r (g i j)) : OpR X f (Rd2 (ct X) (isInt2 o)) :=
  OpR.imp h fun x y H Q ⟨g0, hh, v, w, r, rh, rv, rw', e, k⟩ => by
    unfold isInt2 at e
    split at e
    · rename_i i j
      obtain ⟨c, rr⟩ := ho i j r e
      exact ⟨i, j, int_get rv, int_get rw', c, k g0 H _ .refl rh (RT.of_rv (rr _ _ _))⟩
    · cases e
theorem opR_int0 {f : Value → Value → Sem Value} {g : Int → Int → V} {o : Int → Int → Option VV} (h : OpR X f (rI0 g)) (ho : ∀ i j r, o i j = some r → ∀ c z H, RV c z H r (g i j)) : OpR X f (Rd2 (ct X) (isInt2 o)) :=
  OpR.imp h fun x y H Q ⟨g0, hh, v, w, r, rh, rv, rw', e, k⟩ => by
    unfold isInt2 at e
    split at e
    · rename_i i j
      have rr := ho i j r e
      exact ⟨i, j, int_get rv, int_get rw', k g0 H _ .refl rh (RT.of_rv (rr _ _ _))⟩
    · cases e
theorem rv_int (c : Ct) (z : Addr → Prop) (H : Hp) (i : Int) : RV c z H (.int i) (.int i) := by rw [RV]
theorem rv_bl (c : Ct) (z : Addr → Prop) (H : Hp) (i : Bool) : RV c z H (.bl i) (.bl i) := by rw [RV]
theorem or_sub : OpR X (binaryOp .Sub) (Rd2 (ct X) opSub) := opR_int0 op_sub fun i j r e => by cases e; exact fun c z H => rv_int c z H _
theorem or_lt : OpR X (compareOp .Lt) (Rd2 (ct X) opLt) := opR_int0 op_lt fun i j r e => by cases e; exact fun c z H => rv_bl c z H _
theorem or_le : OpR X (compareOp .LtE) (Rd2 (ct X) opLe) := opR_int0 op_le fun i j r e => by cases e; exact fun c z H => rv_bl c z H _
theorem or_gt : OpR X (compareOp .Gt) (Rd2 (ct X) opGt) := opR_int0 op_gt fun i j r e => by cases e; exact fun c z H => rv_bl c z H _
theorem or_ge : OpR X (compareOp .GtE) (Rd2 (ct X) opGe) := opR_int0 op_ge fun i j r e => by cases e; exact fun c z H => rv_bl c z H _
theorem or_fdiv : OpR X (binaryOp .FloorDiv) (Rd2 (ct X) opFdiv) :=
  opR_int (C := fun _ j => j ≠ 0 ∧ j.natAbs.log2 < 9000) (g := fun i j => .int (i.fdiv j)) (opI fun _ _ _ _ _ _ _ hc q => PyProof.Rows.floordiv_int hc.1 q (.inl (PyProof.noPylong_of_log2 hc.2))) fun i j r e => by
    split at e
    · rename_i h; cases e; exact ⟨h, fun c z H => rv_int c z H _⟩
    · cases e
theorem or_mod : OpR X (binaryOp .Mod) (Rd2 (ct X) opMod) :=
  opR_int (C := fun _ j => j ≠ 0) (g := fun i j => .int (i.fmod j)) op_modN fun i j r e => by
    split at e
    · rename_i h; cases e; exact ⟨h, fun c z H => rv_int c z H _⟩
    · cases e
theorem or_pow : OpR X (binaryOp .Pow) (Rd2 (ct X) opPow) :=
  opR_int (C := CPow) (g := fun i j => .int (i ^ j.toNat)) op_pow fun i j r e => by
    split at e
    · rename_i h; cases e; exact ⟨h, fun c z H => rv_int c z H _⟩
    · cases e
theorem ur_neg : UnR X (unaryOp .USub) (Rd1 (ct X) opNeg) :=
  UnR.imp un_neg fun x H Q ⟨g0, hh, v, r, rh, rv, e, k⟩ => by
    cases v with
    | int i => cases e; exact ⟨i, int_get rv, k g0 H _ .refl rh rt_int⟩
    | _ => cases e
/-- new frozen data -/
theorem new_lst {c : Ct} {g : Gh} {h : VH} {H : Hp} {p : Addr} {xs : List VV} {us : List V} (rh : RH c g h H) (hp : H p = none) (rv : RVs c g.fz H xs us) :
    Stp g H (g.frz p) (upd H p (.lst us)) ∧ RH c (g.frz p) h (upd H p (.lst us)) ∧ RT c (g.frz p) (upd H p (.lst us)) (.lst xs) (.ref p) := by
  refine ⟨.new rh hp, rh.new hp, ?_⟩
  show RV _ _ _ _ _
  rw [RV]
  exact ⟨p, us, rfl, .inr rfl, upd_same, (Stp.new rh hp).rvs rv⟩
/-- () + t -/
theorem op_catT0 : OpR X (binaryOp .Add) (fun x y H Q => ∃ a b ys, x = .ref a ∧ y = .ref b ∧ SqT X.K H a [] ∧ SqT X.K H b ys ∧ Q (.ref b) H) := by
  intro pins s σ H x y v u Q I rx ry h
  obtain ⟨a, b, ys, e1, e2, ha, hb, q⟩ := h
  subst e1; subst e2
  cases rx
  cases ry
  obtain ⟨its, r, ht, hz⟩ := I.tuple ha
  obtain ⟨its2, r2, ht2, hz2⟩ := I.tuple hb
  have e0 : its = [] := by cases r; rfl
  subst e0
  obtain ⟨⟨cls, dd, data, sl⟩, ho, hc, n, hd⟩ := id ht
  obtain ⟨⟨cls2, dd2, data2, sl2⟩, ho2, hc2, n2, hd2⟩ := id ht2
  simp only at hc hd hc2 hd2
  subst hc hd hc2 hd2
  exact PySem.concat_meets ⟨_, ho, rfl⟩ ⟨_, ho2, rfl⟩ noFill_tuple_add seq_tuple_add PySem.F.slot_tuple_add PySem.F.entry_tuple_add (PySem.F.args_tuple_add_2 _ _)
      (PyProof.Rows.tuple_addW0 a b (([] : List Value).toArray) its2.toArray n n2 dd dd2 sl sl2 (by simp)) ⟨ho, ho2, ⟨.ref b, H, I, rfl, q⟩⟩
theorem or_add : OpR X (binaryOp .Add) (Rd2 (ct X) opAdd) :=
  OpR.imp (OpR.or op_add (OpR.or op_add_str (OpR.or op_catT (OpR.or op_cat op_catT0)))) fun x y H Q ⟨g, h, v, w, r, rh, rv, rw', e, k⟩ => by
    unfold opAdd at e
    split at e
    · cases e
      exact .inl ⟨_, _, int_get rv, int_get rw', k g H _ .refl rh rt_int⟩
    · split at e
      · rename_i hl
        cases e
        exact .inr (.inl ⟨_, _, str_get rv, str_get rw', SZ_le hl, k g H _ .refl rh rt_str⟩)
      · cases e
    · split at e
      · rename_i xs ys hl
        cases e
        obtain ⟨p, us, ep, sp, rp⟩ := tup_get rv
        obtain ⟨q, ws, eq, sq, rq⟩ := tup_get rw'
        by_cases hx : us = []
        · subst hx
          have hx' : xs = [] := List.length_eq_zero_iff.mp rp.len
          subst hx'
          exact .inr (.inr (.inr (.inr ⟨p, q, ws, ep, eq, sp.sq, sq.sq, by rw [← eq]; exact k g H y .refl rh (by rw [List.nil_append]; exact rw')⟩)))
        · refine .inr (.inr (.inl ⟨p, q, us, ws, ep, eq, sp.sq, sq.sq, hx, by rw [← rp.len, ← rq.len]; exact SZ_le hl, fun z => ?_, fun _ p hp => ?_⟩))
          · subst z
            have hy' : ys = [] := List.length_eq_zero_iff.mp rq.len
            subst hy'
            rw [← ep]
            exact k g H x .refl rh (by rw [List.append_nil]; exact rv)
          · obtain ⟨s1, s2, s3⟩ := pair_new rh hp (RVs.app rp rq)
            exact k _ _ _ s1 s2 s3
      · cases e
    · split at e
      · rename_i hl
        cases e
        obtain ⟨p, us, ep, sp, rp⟩ := lstOf'_get rh rv rfl
        obtain ⟨q, ws, eq, sq, rq⟩ := lstOf'_get rh rw' rfl
        refine .inr (.inr (.inr (.inl ⟨p, q, us, ws, ep, eq, sp, sq, by rw [← rp.len, ← rq.len]; exact SZ_le hl, fun p hp => ?_⟩)))
        obtain ⟨s1, s2, s3⟩ := new_lst rh hp (RVs.app rp rq)
        exact k _ _ _ s1 s2 s3
      · cases e
    · cases e
theorem RVs.rep {c : Ct} {z : Addr → Prop} {H : Hp} {xs : List VV} {us : List V} (r : RVs c z H xs us) : ∀ n : Nat, RVs c z H (List.replicate n xs).flatten (List.replicate n us).flatten
  | 0 => RVs.nil
  | n + 1 => by
    rw [List.replicate_succ, List.replicate_succ, List.flatten_cons, List.flatten_cons]
    exact RVs.app r (RVs.rep r n)
theorem mulOk_ok {i j : Int} (h : mulOk i j = true) : IntMulOk i j := by
  unfold mulOk at h
  rw [Bool.or_eq_true, Bool.or_eq_true] at h
  rcases h with (h | h) | h
  · have := of_decide_eq_true h
    exact IntMulOk.of_left (intBits_le_64 (by omega) (by omega))
  · have := of_decide_eq_true h
    exact IntMulOk.of_right (intBits_le_64 (by omega) (by omega))
  · exact CMulW.ok (show CMulW i j from of_decide_eq_true (p := i.natAbs.log2 + j.natAbs.log2 < 1000000) h)
theorem or_mul : OpR X (binaryOp .Mult) (Rd2 (ct X) opMul) :=
  OpR.imp (OpR.or (opI (C := fun i j => mulOk i j = true) (g := fun i j => i * j) fun _ _ _ _ _ _ _ hc q => PyProof.Rows.mul_int q (mulOk_ok hc)) op_rep) fun x y H Q ⟨g, h, v, w, r, rh, rv, rw', e, k⟩ => by
    unfold opMul at e
    split at e
    · split at e
      · rename_i hm
        cases e
        exact .inl ⟨_, _, int_get rv, int_get rw', hm, k g H _ .refl rh rt_int⟩
      · cases e
    · split at e
      · rename_i hl
        cases e
        obtain ⟨p, us, ep, sp, rp⟩ := lstOf'_get rh rv rfl
        refine .inr ⟨p, _, us, ep, int_get rw', sp, hl.1, hl.2.1, by rw [← rp.len]; exact SZ_le hl.2.2, fun p hp => ?_⟩
        obtain ⟨s1, s2, s3⟩ := new_lst rh hp (RVs.rep rp _)
        exact k _ _ _ s1 s2 s3
      · cases e
    · cases e
/-! places -/
def opIx : Op2 := fun h v w => match v, w with
  | .tup xs, .int i => atI xs i
  | .str z, .int i => if z.length ≤ SZ then (atI z.cps.toList i).map fun c => .str ⟨#[c]⟩ else none
  | v, .int i => (lstR h v).bind fun xs => atI xs i
  | _, _ => none
theorem atI_rv {c : Ct} {z : Addr → Prop} {H : Hp} {xs : List VV} {us : List V} {i : Int} {v : VV} (r : RVs c z H xs us) (e : atI xs i = some v) : ∃ u, atI us i = some u ∧ RV c z H v u := by
  unfold atI at e ⊢
  rw [← r.len]
  cases q : ixN xs.length i with
  | none => rw [q] at e; cases e
  | some j => rw [q] at e; exact r.get e
theorem RTs.get {c : Ct} {g : Gh} {H : Hp} : ∀ {vs : List VV} {us : List V} {i : Nat} {v : VV}, RTs c g H vs us → vs[i]? = some v → ∃ u, us[i]? = some u ∧ RT c g H v u
  | [], us, i, v, h, e => by simp at e
  | x :: xs, us, i, v, h, e => by
    obtain ⟨u, r, rfl, a, b⟩ := h
    cases i with
    | zero => simp at e; subst e; exact ⟨u, rfl, a⟩
    | succ i => exact RTs.get (i := i) b (by simpa using e)
theorem atI_rt {c : Ct} {g : Gh} {H : Hp} {xs : List VV} {us : List V} {i : Int} {v : VV} (r : RTs c g H xs us) (e : atI xs i = some v) : ∃ u, atI us i = some u ∧ RT c g H v u := by
  unfold atI at e ⊢
  rw [← r.len]
  cases q : ixN xs.length i with
  | none => rw [q] at e; cases e
  | some j => rw [q] at e; exact r.get e
theorem ir_ix : IxR X (Rd2 (ct X) opIx) :=
  IxR.imp ix_seq fun x y H Q ⟨g, h, v, w, r, rh, rv, rw', e, k⟩ => by
    unfold opIx at e
    split at e
    · rename_i xs i
      obtain ⟨p, us, ep, sp, rp⟩ := tup_get rv
      obtain ⟨u, eu, ru⟩ := atI_rv rp e
      exact .inr (.inl ⟨p, us, i, u, ep, int_get rw', sp.sq, eu, k g H u .refl rh (RT.of_rv ru)⟩)
    · rename_i z i
      split at e
      · rename_i hz
        cases q : atI z.cps.toList i with
        | none => rw [q] at e; cases e
        | some cc =>
          rw [q] at e
          cases e
          exact .inr (.inr ⟨z, i, cc, str_get rv, int_get rw', SZ_le hz, q, k g H _ .refl rh rt_str⟩)
      · cases e
    · rename_i v i _ _
      obtain ⟨xs, e1, e2⟩ := Option.bind_eq_some_iff.mp e
      obtain ⟨p, us, ep, sp, rp⟩ := lstR_get rh rv e1
      obtain ⟨u, eu, ru⟩ := atI_rt rp e2
      exact .inl ⟨p, us, i, u, ep, int_get rw', sp, eu, k g H u .refl rh ru⟩
    · cases e
/-! slices: data -/
abbrev POF := VSt → VH → Res (Option Int)
def RO_ (_ : Gh) (_ : Hp) (a b : Option Int) : Prop := b = a
abbrev tO (c : Ct) (W : WX) (f : POF) : TO := tG c W RO_ f
def oNone : POF := fun _ h => .ok none h
def oSome (a : EF) : POF := fun ρ h => (a ρ h).bind fun v h1 => match v with
  | .int i => .ok (some i) h1
  | _ => .no
theorem PO.mono {e : Option Expr} {t t' : TO} (h : PO X e t) (m : ∀ σ H Q, t' σ H Q → t σ H Q) : PO X e t' := ⟨fun pins s σ H Q I q => h.run pins s σ H Q I (m σ H Q q)⟩
theorem jo_none : PO X none (tO (ct X) W oNone) := PO.mono po_none fun σ H Q ⟨g, ρ, h, rh, rs, p⟩ => p g H none .refl rh rfl
theorem jo_some {e : Expr} {f : EF} (h : PE X e (tE (ct X) W f)) : PO X (some e) (tO (ct X) W (oSome f)) :=
  PO.mono (po_some h) fun σ H Q ⟨g, ρ, h0, rh, rs, p⟩ => by
    refine ⟨g, ρ, h0, rh, rs, (Pst.bind (R := RT (ct X)) p).imp fun u H1 ⟨g1, v, h1, st, rh1, rv1, p1⟩ => ?_⟩
    cases v with
    | int i => exact ⟨i, int_get rv1, p1 g1 H1 _ .refl rh1 rfl⟩
    | _ => exact p1.elim
def cut (xs : List VV) (lo hi : Option Int) : List VV := (xs.drop (HT.sIx xs.length 0 lo)).take (HT.sIx xs.length xs.length hi - HT.sIx xs.length 0 lo)
theorem RVs.cut {c : Ct} {z : Addr → Prop} {H : Hp} {xs : List VV} {us : List V} (r : RVs c z H xs us) (lo hi : Option Int) : RVs c z H (J.cut xs lo hi) (cutV us lo hi) := by
  unfold J.cut cutV
  rw [r.len]
  exact RVs.take _ (RVs.drop _ r)
abbrev OpS := VH → VV → Option Int → Option Int → Option VV
def opSl : OpS := fun h v lo hi => match v with
  | .tup xs => some (.tup (cut xs lo hi))
  | .str z => if z.length ≤ SZ then some (.str (cutS z lo hi)) else none
  | v => (lstOf h v).map fun xs => .lst (cut xs lo hi)
def eSl (op : OpS) (a : EF) (lo hi : POF) : EF := fun ρ h => (a ρ h).bind fun v h1 => (lo ρ h1).bind fun l h2 => (hi ρ h2).bind fun u h3 => lift (op h3 v l u) h3
theorem j_sl {e : Expr} {lo hi : Option Expr} {p2 pos : Pos} {fe : EF} {fl fh : POF} (he : PE X e (tE (ct X) W fe)) (hl : PO X lo (tO (ct X) W fl)) (hu : PO X hi (tO (ct X) W fh)) : PE X (.Subscript e (.Slice lo hi none p2) pos) (tE (ct X) W (eSl opSl fe fl fh)) :=
  PE.mono (pe_slice (SlR.or sl_list (SlR.or sl_tupA sl_str)) he hl hu) fun σ H Q ⟨g, ρ, h0, rh, rs, p⟩ => by
    refine ⟨g, ρ, h0, rh, rs, (Pst.bind (R := RT (ct X)) p).imp fun u H1 ⟨g1, v, h1, st, rh1, rv1, p1⟩ => ?_⟩
    refine ⟨g1, ρ, h1, rh1, rs.stp st, (Pst.bind (R := RO_) p1).imp fun l H2 ⟨g2, l', h2, st2, rh2, el, p2⟩ => ?_⟩
    cases el
    refine ⟨g2, ρ, h2, rh2, (rs.stp st).stp st2, (Pst.bind (R := RO_) p2).imp fun l2 H3 ⟨g3, l2', h3, st3, rh3, el2, p3⟩ => ?_⟩
    cases el2
    have rv3 := (rv1.stp st2).stp st3
    unfold lift at p3
    cases er : opSl h3 v l l2 with
    | none => rw [er] at p3; exact p3.elim
    | some r =>
      rw [er] at p3
      unfold opSl at er
      split at er
      · cases er
        obtain ⟨p, us, ep, sp, rp⟩ := tup_get rv3
        refine .inr (.inl ⟨p, us, ep, sp.sq, fun hw => ?_, fun hne p hp => ?_⟩)
        · rw [← rp.len] at hw
          unfold J.cut at p3
          rw [hw.1, hw.2, List.drop_zero, Nat.sub_zero, List.take_length] at p3
          rw [← ep]
          exact p3 g3 H3 _ .refl rh3 rv3
        · obtain ⟨s1, s2, s3⟩ := pair_new rh3 hp (RVs.cut rp l l2)
          exact p3 _ _ _ s1 s2 s3
      · split at er
        · rename_i hz
          cases er
          exact .inr (.inr ⟨_, str_get rv3, SZ_le hz, p3 g3 H3 _ .refl rh3 rt_str⟩)
        · cases er
      · obtain ⟨xs, e1, e2⟩ := Option.map_eq_some_iff.mp er
        cases e2
        obtain ⟨p, us, ep, sp, rp⟩ := lstOf_get rh3 rv3 e1
        refine .inl ⟨p, us, ep, sp, fun p hp => ?_⟩
        obtain ⟨s1, s2, s3⟩ := new_lst rh3 hp (RVs.cut rp l l2)
        exact p3 _ _ _ s1 s2 s3
/-! == of data -/
mutual
def toD : VV → PyData
  | .non => .none
  | .bl b => .bool b
  | .int i => .int i
  | .str x => .str x
  | .tup xs => .tuple (toDs xs)
  | .lst xs => .list (toDs xs)
  | _ => .none
def toDs : List VV → List PyData
  | [] => []
  | x :: xs => toD x :: toDs xs
end
mutual
def isD : VV → Bool
  | .non => true
  | .bl _ => true
  | .int _ => true
  | .str _ => true
  | .tup xs => isDs xs
  | .lst xs => isDs xs
  | _ => false
def isDs : List VV → Bool
  | [] => true
  | x :: xs => isD x && isDs xs
end
mutual
theorem dp_of {c : Ct} {z : Addr → Prop} {H : Hp} : ∀ (v : VV) (u : V), RV c z H v u → isD v = true → Dp c.K H u (toD v)
  | .non, u, r, _ => by rw [RV] at r; subst r; rw [toD]; exact .non
  | .bl b, u, r, _ => by rw [RV] at r; subst r; rw [toD]; exact .bl b
  | .int b, u, r, _ => by rw [RV] at r; subst r; rw [toD]; exact .int b
  | .str b, u, r, _ => by rw [RV] at r; subst r; rw [toD]; exact .str b
  | .tup xs, u, r, d => by
    rw [RV] at r
    obtain ⟨p, us, e, t, q⟩ := r
    subst e
    rw [toD]
    rw [isD] at d
    exact .tup t.sq (dps_of xs us q d)
  | .lst xs, u, r, d => by
    rw [RV] at r
    obtain ⟨p, us, e, _, t, q⟩ := r
    subst e
    rw [toD]
    rw [isD] at d
    exact .lst (SqL.of t) (dps_of xs us q d)
  | .scr _, _, _, d => by rw [isD] at d <;> first | exact (Bool.false_ne_true d).elim | simp
  | .dT _ _, _, _, d => by rw [isD] at d <;> first | exact (Bool.false_ne_true d).elim | simp
  | .dK _ _, _, _, d => by rw [isD] at d <;> first | exact (Bool.false_ne_true d).elim | simp
  | .ins _ _ _, _, _, d => by rw [isD] at d <;> first | exact (Bool.false_ne_true d).elim | simp
  | .obj _, _, _, d => by rw [isD] at d <;> first | exact (Bool.false_ne_true d).elim | simp
  | .glb _, _, _, d => by rw [isD] at d <;> first | exact (Bool.false_ne_true d).elim | simp
  | .ty _, _, _, d => by rw [isD] at d <;> first | exact (Bool.false_ne_true d).elim | simp
theorem dps_of {c : Ct} {z : Addr → Prop} {H : Hp} : ∀ (vs : List VV) (us : List V), RVs c z H vs us → isDs vs = true → DpAll c.K H us (toDs vs)
  | [], us, r, _ => by rw [RVs] at r; subst r; rw [toDs]; exact .nil
  | x :: xs, us, r, d => by
    rw [RVs] at r
    obtain ⟨u, q, e, a, b⟩ := r
    subst e
    rw [isDs, Bool.and_eq_true] at d
    rw [toDs]
    exact .cons (dp_of x u a d.1) (dps_of xs q b d.2)
end
theorem noObj {v : VV} (h : isD v = true) : v.isObj = false := by
  cases v with
  | obj n => simp [isD] at h
  | _ => rfl
/-- == : scalars of one kind, else data -/
def eqD (v w : VV) : Option Bool := match v, w with
  | .int i, .int j => some (decide (i = j))
  | .str i, .str j => some (decide (i = j))
  | .bl i, .bl j => some (decide (i = j))
  | v, w => if isD v = true ∧ isD w = true ∧ SeqAt.shaped (toD v) = true ∧ SeqAt.shaped (toD w) = true then some (PyData.eqv (toD v) (toD w)) else none
def opEq : Op2 := fun _ v w => (eqD v w).map .bl
def opNe : Op2 := fun _ v w => (eqD v w).map fun b => .bl (!b)
theorem eqD_cases {c : Ct} {g : Gh} {H : Hp} {v w : VV} {x y : V} {b : Bool} (rv : RT c g H v x) (rw' : RT c g H w y) (e : eqD v w = some b) :
    (scal x y = true ∧ decide (x = y) = b) ∨ ∃ d e, Dp c.K H x d ∧ Dp c.K H y e ∧ SeqAt.shaped d = true ∧ SeqAt.shaped e = true ∧ PyData.eqv d e = b := by
  unfold eqD at e
  split at e
  · cases e
    rw [int_get rv, int_get rw']
    exact .inl ⟨rfl, by rw [dec_int, Bool.beq_eq_decide_eq]⟩
  · cases e
    rw [str_get rv, str_get rw']
    exact .inl ⟨rfl, by rw [dec_str, Bool.beq_eq_decide_eq]⟩
  · cases e
    rw [bl_get rv, bl_get rw']
    exact .inl ⟨rfl, by rw [dec_bl, Bool.beq_eq_decide_eq]⟩
  · split at e
    · rename_i hd
      cases e
      have n1 : v.isObj = false := noObj hd.1
      have n2 : w.isObj = false := noObj hd.2.1
      exact .inr ⟨_, _, dp_of _ _ (rv.rv n1) hd.1, dp_of _ _ (rw'.rv n2) hd.2.1, hd.2.2.1, hd.2.2.2, rfl⟩
    · cases e
theorem or_eq {k : Nat} (hr : Room k X.A) : OpR X (compareOp .Eq) (Rd2 (ct X) opEq) :=
  OpR.imp (OpR.or op_eq (op_eqD hr.units)) fun x y H Q ⟨g, h, v, w, r, rh, rv, rw', e, kk⟩ => by
    obtain ⟨b, e1, e2⟩ := Option.map_eq_some_iff.mp e
    cases e2
    rcases eqD_cases rv rw' e1 with ⟨q1, q2⟩ | ⟨d, e, q1, q2, q3, q4, q5⟩
    · exact .inl ⟨q1, by rw [q2]; exact kk g H _ .refl rh rt_bl⟩
    · exact .inr ⟨d, e, q1, q2, q3, q4, by rw [q5]; exact kk g H _ .refl rh rt_bl⟩
theorem or_ne {k : Nat} (hr : Room k X.A) : OpR X (compareOp .NotEq) (Rd2 (ct X) opNe) :=
  OpR.imp (OpR.or op_ne (op_neD hr.units)) fun x y H Q ⟨g, h, v, w, r, rh, rv, rw', e, kk⟩ => by
    obtain ⟨b, e1, e2⟩ := Option.map_eq_some_iff.mp e
    cases e2
    rcases eqD_cases rv rw' e1 with ⟨q1, q2⟩ | ⟨d, e, q1, q2, q3, q4, q5⟩
    · exact .inl ⟨q1, by rw [q2]; exact kk g H _ .refl rh rt_bl⟩
    · exact .inr ⟨d, e, q1, q2, q3, q4, by rw [q5]; exact kk g H _ .refl rh rt_bl⟩
/-- is None -/
def opIsN : Op2 := fun _ v w => match v, w with
  | .non, .non => some (.bl true)
  | v, .non => if v.isObj = true then none else some (.bl false)
  | _, _ => none
def opNotN : Op2 := fun _ v w => match v, w with
  | .non, .non => some (.bl false)
  | v, .non => if v.isObj = true then none else some (.bl true)
  | _, _ => none
theorem non_dec {c : Ct} {g : Gh} {H : Hp} {v : VV} {u : V} (rv : RT c g H v u) (no : v.isObj = false) (nn : v ≠ .non) : decide (u = V.non) = false := by
  have r := rv.rv no
  refine decide_eq_false fun z => ?_
  subst z
  cases v with
  | non => exact nn rfl
  | bl b => rw [RV] at r; cases r
  | int b => rw [RV] at r; cases r
  | str b => rw [RV] at r; cases r
  | tup xs => rw [RV] at r; obtain ⟨p, us, e, _⟩ := r; cases e
  | lst xs => rw [RV] at r; obtain ⟨p, us, e, _⟩ := r; cases e
  | scr xs => rw [RV] at r; obtain ⟨p, us, e, _⟩ := r; cases e
  | dT ks xs => rw [RV] at r; obtain ⟨p, us, e, _⟩ := r; cases e
  | dK ks xs => rw [RV] at r; obtain ⟨p, us, e, _⟩ := r; cases e
  | ins a ks xs => rw [RV] at r; obtain ⟨p, C, dx, us, e, _⟩ := r; cases e
  | obj n => cases no
  | glb x => rw [RV] at r; obtain ⟨a, _, e⟩ := r; cases e
  | ty n => rw [RV] at r; cases r
  | raw n => rw [RV] at r; cases r
theorem or_isN : OpR X (compareOp .Is) (Rd2 (ct X) opIsN) :=
  OpR.imp op_isN fun x y H Q ⟨g, h, v, w, r, rh, rv, rw', e, kk⟩ => by
    unfold opIsN at e
    split at e
    · cases e
      refine ⟨non_get rw', ?_⟩
      rw [non_get rv]
      exact kk g H _ .refl rh rt_bl
    · split at e
      · cases e
      · rename_i nv no
        cases e
        refine ⟨non_get rw', ?_⟩
        rw [non_dec rv (by simpa using no) (fun z => nv z)]
        exact kk g H _ .refl rh rt_bl
    · cases e
theorem or_notN : OpR X (compareOp .IsNot) (Rd2 (ct X) opNotN) :=
  OpR.imp op_notN fun x y H Q ⟨g, h, v, w, r, rh, rv, rw', e, kk⟩ => by
    unfold opNotN at e
    split at e
    · cases e
      refine ⟨non_get rw', ?_⟩
      rw [non_get rv]
      exact kk g H _ .refl rh rt_bl
    · split at e
      · cases e
      · rename_i nv no
        cases e
        refine ⟨non_get rw', ?_⟩
        rw [non_dec rv (by simpa using no) (fun z => nv z)]
        exact kk g H _ .refl rh rt_bl
    · cases e
/-! calls of built-ins -/
def cLen : OpN := fun h vs => match vs with
  | [.tup xs] => some (.int xs.length)
  | [.str z] => if z.length ≤ SZ then some (.int z.length) else none
  | [v] => (lstR h v).map fun xs => .int xs.length
  | _ => none
theorem cr_len : CallR X (.builtin "len") (RdN (ct X) cLen) :=
  CallR.imp (CallR.or call_len_seq call_len_str) fun xs H Q ⟨g, h, vs, r, rh, rv, e, kk⟩ => by
    unfold cLen at e
    split at e
    · cases e
      obtain ⟨u, q, rfl, a, rfl⟩ := rv
      obtain ⟨p, us, ep, sp, rp⟩ := tup_get a
      exact .inl ⟨p, us, by rw [ep], .inr sp.sq, by rw [← rp.len]; exact kk g H _ .refl rh rt_int⟩
    · split at e
      · rename_i hz
        cases e
        obtain ⟨u, q, rfl, a, rfl⟩ := rv
        exact .inr ⟨_, by rw [str_get a], SZ_le hz, kk g H _ .refl rh rt_int⟩
      · cases e
    · obtain ⟨ys, e1, e2⟩ := Option.map_eq_some_iff.mp e
      cases e2
      obtain ⟨u, q, rfl, a, rfl⟩ := rv
      obtain ⟨p, us, ep, sp, rp⟩ := lstR_get rh a e1
      exact .inl ⟨p, us, by rw [ep], .inl sp, by rw [← rp.len]; exact kk g H _ .refl rh rt_int⟩
    · cases e
def intsOf : List VV → Option (List Int)
  | [] => some []
  | .int i :: xs => (intsOf xs).map fun l => i :: l
  | _ => none
def blsOf : List VV → Option (List Bool)
  | [] => some []
  | .bl i :: xs => (blsOf xs).map fun l => i :: l
  | _ => none
theorem intsOf_rv {c : Ct} {z : Addr → Prop} {H : Hp} : ∀ {vs : List VV} {us : List V} {ns : List Int}, RVs c z H vs us → intsOf vs = some ns → us = ns.map V.int
  | [], us, ns, r, e => by cases e; rw [RVs] at r; exact r
  | x :: xs, us, ns, r, e => by
    rw [RVs] at r
    obtain ⟨u, q, rfl, a, b⟩ := r
    cases x with
    | int i =>
      rw [intsOf] at e
      obtain ⟨l, e1, rfl⟩ := Option.map_eq_some_iff.mp e
      rw [RV] at a
      rw [a, intsOf_rv b e1]; rfl
    | _ => simp [intsOf] at e
theorem blsOf_rv {c : Ct} {z : Addr → Prop} {H : Hp} : ∀ {vs : List VV} {us : List V} {ns : List Bool}, RVs c z H vs us → blsOf vs = some ns → us = ns.map V.bl
  | [], us, ns, r, e => by cases e; rw [RVs] at r; exact r
  | x :: xs, us, ns, r, e => by
    rw [RVs] at r
    obtain ⟨u, q, rfl, a, b⟩ := r
    cases x with
    | bl i =>
      rw [blsOf] at e
      obtain ⟨l, e1, rfl⟩ := Option.map_eq_some_iff.mp e
      rw [RV] at a
      rw [a, blsOf_rv b e1]; rfl
    | _ => simp [blsOf] at e
def cSum : OpN := fun h vs => match vs with
  | [v] => (lstOf h v).bind fun xs => (intsOf xs).map fun ns => .int ns.sum
  | _ => none
def cAny : OpN := fun h vs => match vs with
  | [v] => (lstOf h v).bind fun xs => (blsOf xs).map fun ns => .bl (ns.any id)
  | _ => none
theorem cr_sumJ (hc : X.calm = true) : CallR X (.builtin "sum") (RdN (ct X) cSum) :=
  CallR.imp (cr_sum hc) fun xs H Q ⟨g, h, vs, r, rh, rv, e, kk⟩ => by
    unfold cSum at e
    split at e
    · obtain ⟨ys, e1, e2⟩ := Option.bind_eq_some_iff.mp e
      obtain ⟨ns, e3, e4⟩ := Option.map_eq_some_iff.mp e2
      cases e4
      obtain ⟨u, q, rfl, a, rfl⟩ := rv
      obtain ⟨p, us, ep, sp, rp⟩ := lstOf_get rh a e1
      exact ⟨p, ns, by rw [ep], by rw [← intsOf_rv rp e3]; exact sp, kk g H _ .refl rh rt_int⟩
    · cases e
theorem cr_anyJ (hc : X.calm = true) : CallR X (.builtin "any") (RdN (ct X) cAny) :=
  CallR.imp (cr_any hc) fun xs H Q ⟨g, h, vs, r, rh, rv, e, kk⟩ => by
    unfold cAny at e
    split at e
    · obtain ⟨ys, e1, e2⟩ := Option.bind_eq_some_iff.mp e
      obtain ⟨ns, e3, e4⟩ := Option.map_eq_some_iff.mp e2
      cases e4
      obtain ⟨u, q, rfl, a, rfl⟩ := rv
      obtain ⟨p, us, ep, sp, rp⟩ := lstOf_get rh a e1
      exact ⟨p, ns, by rw [ep], by rw [← blsOf_rv rp e3]; exact sp, kk g H _ .refl rh rt_bl⟩
    · cases e
def cAbs : OpN := fun _ vs => match vs with
  | [.int i] => some (.int (if i < 0 then -i else i))
  | _ => none
theorem cr_absJ : CallR X (.builtin "abs") (RdN (ct X) cAbs) :=
  CallR.imp call_abs fun xs H Q ⟨g, h, vs, r, rh, rv, e, kk⟩ => by
    unfold cAbs at e
    split at e
    · cases e
      obtain ⟨u, q, rfl, a, rfl⟩ := rv
      exact ⟨_, by rw [int_get a], kk g H _ .refl rh rt_int⟩
    · cases e
/-- list(..), tuple(..): data -/
def cList : OpN := fun h vs => match vs with
  | [.tup xs] => some (.lst xs)
  | [v] => (lstOf h v).map fun xs => .lst xs
  | _ => none
theorem cr_listJ : CallR X (.type "list") (RdN (ct X) cList) :=
  CallR.imp call_list_of fun xs H Q ⟨g, h, vs, r, rh, rv, e, kk⟩ => by
    unfold cList at e
    split at e
    · cases e
      obtain ⟨u, q, rfl, a, rfl⟩ := rv
      obtain ⟨p, us, ep, sp, rp⟩ := tup_get a
      refine ⟨p, us, by rw [ep], .inr sp.sq, fun l hl => ?_⟩
      obtain ⟨s1, s2, s3⟩ := new_lst rh hl rp
      exact kk _ _ _ s1 s2 s3
    · obtain ⟨ys, e1, e2⟩ := Option.map_eq_some_iff.mp e
      cases e2
      obtain ⟨u, q, rfl, a, rfl⟩ := rv
      obtain ⟨p, us, ep, sp, rp⟩ := lstOf_get rh a e1
      refine ⟨p, us, by rw [ep], .inl sp, fun l hl => ?_⟩
      obtain ⟨s1, s2, s3⟩ := new_lst rh hl rp
      exact kk _ _ _ s1 s2 s3
    · cases e
def cTuple : OpN := fun h vs => match vs with
  | [.tup xs] => some (.tup xs)
  | [v] => (lstOf h v).map fun xs => .tup xs
  | _ => none
/-- isinstance(x, T), T a built-in type, x data -/
def tyN (h : VH) : VV → Option String
  | .non => some "NoneType"
  | .bl _ => some "bool"
  | .int _ => some "int"
  | .str _ => some "str"
  | .tup _ => some "tuple"
  | .lst _ => some "list"
  | .obj n => match h[n]? with
    | some (.fl _) => some "list"
    | some (.fzn (.lst _)) => some "list"
    | _ => none
  | _ => none
def cIsi : OpN := fun h vs => match vs with
  | [v, .ty b] => (tyN h v).bind fun a => (kitB a b).map .bl
  | _ => none
end
end J
namespace J
open PySem L2
/-- a law's end: its own function gives True at every script -/
theorem law_sp {K : PySem.W.Frag} {mg : Str → Option Value} {F : FF} {H : Hp} {a : Addr} {ns : List Int} (hT : LTab ⟨K, mg⟩ H) (hS : SqL K H a (ns.map V.int)) (hF : ∃ h', F [.scr (ns.map VV.int)] [] = .ok (.bl true) h') :
    spF ⟨K, mg⟩ 1 F [.ref a] H (fun v _ => v = .bl true) fun _ _ _ => False := by
  obtain ⟨h', e⟩ := hF
  have rvs : ∀ (z : Addr → Prop) (l : List Int), RVs ⟨K, mg⟩ z H (l.map VV.int) (l.map V.int) := by
    intro z l
    induction l with
    | nil => exact RVs.nil
    | cons x xs ih => exact RVs.cons (rv_int _ _ _ _) ih
  have fin : ∀ g : Gh, RH ⟨K, mg⟩ g [] H → RT ⟨K, mg⟩ g H (.scr (ns.map VV.int)) (.ref a) → spF ⟨K, mg⟩ 1 F [.ref a] H (fun v _ => v = .bl true) fun _ _ _ => False := by
    intro g rh rt
    refine ⟨g, [.scr (ns.map VV.int)], [], rh, ⟨.ref a, [], rfl, rt, rfl⟩, rfl, ?_⟩
    rw [e]
    exact fun g' H' u st rh' rv => bl_get rv
  rcases hS with hS | hS
  · refine fin ⟨[], fun q => q = a, fun _ => False⟩ ⟨rfl, List.nodup_nil, fun n o a h => by simp at h, fun q z => ?_, fun q z => z.elim, fun q z => z.elim, hT, fun q z ps y => ?_⟩ ?_
    · have z' : q = a := z
      subst z'
      rcases hS with hS | ⟨o, hS⟩
      · exact ⟨_, hS⟩
      · exact ⟨_, hS⟩
    · have z' : q = a := z.elim id (fun z => z.elim)
      subst z'
      rcases hS with hS | ⟨o, hS⟩ <;> (rw [hS] at y; cases y)
    · show RV _ _ _ _ _
      rw [RV]
      exact ⟨a, _, rfl, .inl ⟨rfl, hS⟩, rvs _ _⟩
  · refine fin ⟨[], fun _ => False, fun _ => False⟩ ⟨rfl, List.nodup_nil, fun n o a h => by simp at h, fun q z => z.elim, fun q z => z.elim, fun q z => z.elim, hT, fun q z => z.elim False.elim False.elim⟩ ?_
    show RV _ _ _ _ _
    rw [RV]
    exact ⟨a, _, rfl, .inr hS, rvs _ _⟩
theorem cx_no {P : Program} {w : World} {l : List Env} {H : Hp} {s : Shared} {e : Value} {s' : Shared} (h : L2N.CX P w l H s (fun _ _ _ => False) e s') : False := by
  obtain ⟨_, _, _, _, _, _, _, _, _, _, _, _, z⟩ := h
  exact z.elim
section
variable {X : Cx} {W : WX}
theorem j_globI {x : Str} {i : Int} {pos : Pos} (hg : Gl X x) (h : ∃ t, X.mg x = some (.int i t)) (hd : (x == ("__debug__" : Str)) = false := by decide) : PE X (.Name x pos) (tE (ct X) W (eC (.int i))) := by
  obtain ⟨t, h⟩ := h
  exact j_c (pe_glob (v := .int i) hg h ⟨t, rfl⟩ hd) fun _ _ => rt_int
theorem jt_chain {o o' : Op2} {op op' : CmpOp} {a b c : Expr} {fa fb fc : EF} {pos : Pos} (ho : OpR X (compareOp op) (Rd2 (ct X) o)) (ho' : OpR X (compareOp op') (Rd2 (ct X) o')) (ha : PE X a (tE (ct X) W fa)) (hb : PE X b (tE (ct X) W fb)) (hc : PE X c (tE (ct X) W fc))
    (hm : lastMarks [op, op'] [b, c] = false := by with_unfolding_all rfl) : PT X (.Compare a [op, op'] [b, c] pos) (tT (ct X) W (tVal (eChain o o' fa fb fc))) :=
  PT.mono (pt_chain ho ho' ha hb hc hm) fun σ H Q h => by
    have := tChain_of (tVal_of h)
    exact this
end
open PyProof.Rows (envOfC)
/-- a def of the text -/
structure Dn (K : PySem.W.Frag) (mg : Str → Option Value) (x : Str) (st : Stmt) (dvs : List V) (kws : List (Str × V)) (f : Addr) (fd : FuncData) : Prop where
  F : FunD K x x (defArgs st) (defBody st) (defScope st) dvs kws f fd
  m : mg x = some (.ref f)
/-- a def that may be called with the last arguments left out (dws in their place) -/
structure Ok1 (P : Program) (w : World) (K : PySem.W.Frag) (mg : Str → Option Value) (base : Heap) (k : Nat) (x : Str) (n : Nat) (dws : List VV) (Fm : FF) : Prop where
  ex : ∃ (f : Addr) (fd : FuncData) (ps : List Str) (dvs : List V) (ds : List Value), mg x = some (.ref f) ∧ PySem.W.keepIn K (.ref f) = true ∧ FnOk P w K mg base (L2N.CX P w) k f fd ps (spF ⟨K, mg⟩ n Fm) ∧ Binds K fd ps ds ∧ Vals dvs ds ∧ ∀ g H, RTs ⟨K, mg⟩ g H dws dvs
section
variable {X : Cx} {W : WX}
theorem j_callO {k n : Nat} {Fm : FF} {dws : List VV} {x : Str} {p pos : Pos} {e : Expr} {es : List Expr} {fa : AF} (O : Ok1 X.prog X.w X.K X.mg X.base k x n dws Fm) (hr : Room k X.A) (hg : Gl X x) (tk : L2N.Takes X W)
    (ha : PA X (e :: es) (tA (ct X) W fa)) (hdb : (x == ("__debug__" : Str)) = false := by decide) (he : starEach (e :: es) X.env = (false, eval e X.env) :: starEach es X.env := by rfl) (hpl : (backTo pos (starEach es X.env)).any (·.1) = false := by rfl) :
    PE X (.Call (.Name x p) (e :: es) [] pos) (tE (ct X) W (eFn n Fm dws fa)) := by
  obtain ⟨f, fd, ps, dvs, ds, h1, h2, h3, h4, h5, h6⟩ := O.ex
  exact j_call h3 hr hg h1 h2 h4 h5 h6 tk ha hdb he hpl
end
section
variable {P : Program} {w : World} {K : PySem.W.Frag} {mg : Str → Option Value} {base : Heap}
/-- every parameter is given -/
theorem ok_of {x : Str} {st : Stmt} {f : Addr} {fd : FuncData} {ps : List Str} {k m : Nat} {Fm : FF} (D : Dn K mg x st [] [] f fd) (hF : FnOk P w K mg base (L2N.CX P w) k f fd ps (spF ⟨K, mg⟩ m Fm))
    (hb : ∀ (kV doc pm : Value) (an : Option Addr) (cdv ct : Value) (us : List Value), us.length = ps.length → bindArgs (PySem.W.fnOf x x (defArgs st) (defBody st) (defScope st) .none kV doc pm an cdv ct) ⟨us, []⟩ = pure (ps.zip us)) :
    Ok1 P w K mg base k x m [] Fm := by
  refine ⟨f, fd, ps, [], [], D.m, D.F.kp, hF, ?_, .nil, fun _ _ => rfl⟩
  obtain ⟨oc, od, dV, kV, doc, pm, an, cdv, ct, osl, e, lk, hcd, hD, _⟩ := D.F.ex
  subst e
  rcases hD with ⟨_, rfl⟩ | ⟨h, _⟩
  · exact .all (hb kV doc pm an cdv ct)
  · exact absurd rfl h
/-- some defaults fill up -/
theorem okD_of {x : Str} {st : Stmt} {dvs : List V} {f : Addr} {fd : FuncData} {ps : List Str} {k m : Nat} {Fm : FF} {dws : List VV} (D : Dn K mg x st dvs [] f fd) (hF : FnOk P w K mg base (L2N.CX P w) k f fd ps (spF ⟨K, mg⟩ m Fm)) (n j : Nat) (hd : dvs ≠ []) (hn : n + (dvs.length - j) = ps.length)
    (h : ∀ (T : Addr) (kV doc pm : Value) (an : Option Addr) (cdv ct : Value) (us its : List Value), us.length = n → its.length = dvs.length →
      ∃ k, bindArgs (PySem.W.fnOf x x (defArgs st) (defBody st) (defScope st) (.ref T) kV doc pm an cdv ct) ⟨us, []⟩ = seqItems? (.ref T) >>= k ∧ k (some its.toArray) = pure (ps.zip (us ++ its.drop j)))
    (hr : ∀ g H, RTs ⟨K, mg⟩ g H dws (dvs.drop j)) : Ok1 P w K mg base k x m dws Fm := by
  obtain ⟨ds, h1, h2⟩ := D.F.binds1 n j hd hn h
  exact ⟨f, fd, ps, dvs.drop j, ds, D.m, D.F.kp, hF, h2, h1, hr⟩
end
end J
namespace J
open PySem L2
/-! evaluation -/
/-- a step that is told, not seen through -/
theorem nr {α : Sort _} {a b : α} (h : a = b) : a = b := h
/-- a mark by which simp leaves a continuation alone -/
def Tg {γ : Type} (_ : γ) : Type := Unit
def tg {γ : Type} (k : γ) : Tg k := ()
section
variable {α β : Type}
def bnd (r : Res α) (k : α → VH → Res β) (_ : Tg k) : Res β := r.bind k
def sbd (r : Res α) (ρ : VSt) (k : α → VH → SR) (_ : Tg k) : SR := r.st ρ k
theorem bind_ok {a : α} {h : VH} {k : α → VH → Res β} : (Res.ok a h).bind k = k a h := nr rfl
theorem bnd_ok {a : α} {h : VH} {k : α → VH → Res β} {u : Tg k} : bnd (Res.ok a h) k u = k a h := nr rfl
theorem bnd_no {k : α → VH → Res β} {u : Tg k} : bnd (Res.no : Res α) k u = .no := nr rfl
theorem bnd_exc {x ns vs h} {k : α → VH → Res β} {u : Tg k} : bnd (Res.exc x ns vs h : Res α) k u = .exc x ns vs h := nr rfl
theorem sbd_ok {a : α} {h : VH} {ρ : VSt} {k : α → VH → SR} {u : Tg k} : sbd (Res.ok a h) ρ k u = k a h := nr rfl
theorem sbd_no {ρ : VSt} {k : α → VH → SR} {u : Tg k} : sbd (Res.no : Res α) ρ k u = .no := nr rfl
theorem sbd_exc {x ns vs h} {ρ : VSt} {k : α → VH → SR} {u : Tg k} : sbd (Res.exc x ns vs h : Res α) ρ k u = .exc x ns vs ρ h := nr rfl
end
def getV (o : Option (Option VV)) (h : VH) : Res VV := match o with
  | some (some v) => .ok v h
  | _ => .no
theorem getV_some {v : VV} {h : VH} : getV (some (some v)) h = .ok v h := nr rfl
section
variable {ρ : VSt} {h : VH}
theorem a_var {i : Nat} : eVar i ρ h = getV (ρ[i]?) h := nr rfl
theorem a_c {v : VV} : eC v ρ h = .ok v h := nr rfl
theorem a_bin {op a b} : eBin op a b ρ h = bnd (a ρ h) (fun v h1 => bnd (b ρ h1) (fun w h2 => lift (op h2 v w) h2) (tg _)) (tg _) := nr rfl
theorem a_un {op a} : eUn op a ρ h = bnd (a ρ h) (fun v h1 => lift (op h1 v) h1) (tg _) := nr rfl
theorem a_call {op a} : eCall op a ρ h = bnd (a ρ h) (fun v h1 => lift (op h1 v) h1) (tg _) := nr rfl
theorem a_nil : aNil ρ h = .ok [] h := nr rfl
theorem a_cons {a b} : aCons a b ρ h = bnd (a ρ h) (fun v h1 => bnd (b ρ h1) (fun w h2 => .ok (v :: w) h2) (tg _)) (tg _) := nr rfl
theorem a_tup {a} : eTup a ρ h = bnd (a ρ h) (fun vs h1 => if vs.any VV.isObj = true ∨ vs.length > SZ then .no else .ok (.tup vs) h1) (tg _) := nr rfl
theorem a_lst {a} : eLst a ρ h = bnd (a ρ h) (fun vs h1 => if vs.any VV.isObj = true ∨ vs.length > SZ then .no else .ok (.lst vs) h1) (tg _) := nr rfl
theorem a_lstO {a} : eLstO a ρ h = bnd (a ρ h) (fun vs h1 => if vs.any VV.isObj = true ∨ vs.length > SZ then .no else .ok (.obj h1.length) (h1 ++ [.fl vs])) (tg _) := nr rfl
def toB (v : VV) (h : VH) : Res Bool := match v with
  | .bl b => .ok b h
  | _ => .no
theorem toB_bl {b : Bool} : toB (.bl b) h = .ok b h := nr rfl
theorem a_val {a} : tVal a ρ h = bnd (a ρ h) toB (tg _) := nr rfl
theorem a_tand {a b} : tAnd a b ρ h = bnd (a ρ h) (fun v h1 => if v = true then b ρ h1 else .ok false h1) (tg _) := nr rfl
theorem a_tor {a b} : tOr a b ρ h = bnd (a ρ h) (fun v h1 => if v = true then .ok true h1 else b ρ h1) (tg _) := nr rfl
theorem a_tnot {a} : tNot a ρ h = bnd (a ρ h) (fun v h1 => .ok (!v) h1) (tg _) := nr rfl
theorem a_if {c a b} : eIf c a b ρ h = bnd (c ρ h) (fun v h1 => if v = true then a ρ h1 else b ρ h1) (tg _) := nr rfl
theorem a_and {a b} : eAnd a b ρ h = bnd (bnd (a ρ h) toB (tg _)) (fun v h1 => if v = true then b ρ h1 else .ok (.bl false) h1) (tg _) := by
  unfold eAnd
  cases a ρ h with
  | no => rfl
  | exc => rfl
  | ok v h1 =>
    simp only [bind_ok]
    cases v with
    | bl b => cases b <;> rfl
    | _ => rfl
theorem a_or {a b} : eOr a b ρ h = bnd (bnd (a ρ h) toB (tg _)) (fun v h1 => if v = true then .ok (.bl true) h1 else b ρ h1) (tg _) := by
  unfold eOr
  cases a ρ h with
  | no => rfl
  | exc => rfl
  | ok v h1 =>
    simp only [bind_ok]
    cases v with
    | bl b => cases b <;> rfl
    | _ => rfl
theorem a_not {a} : eNot a ρ h = bnd (bnd (a ρ h) toB (tg _)) (fun v h1 => .ok (.bl (!v)) h1) (tg _) := by
  unfold eNot
  cases a ρ h with
  | no => rfl
  | exc => rfl
  | ok v h1 =>
    simp only [bind_ok]
    cases v <;> rfl
theorem a_chain {o o' a b c} : eChain o o' a b c ρ h = bnd (a ρ h) (fun v h1 => bnd (b ρ h1) (fun w h2 => bnd (bnd (lift (o h2 v w) h2) toB (tg _)) (fun k h3 => if k = true then bnd (c ρ h3) (fun z h4 => lift (o' h4 w z) h4) (tg _) else .ok (.bl false) h3) (tg _)) (tg _)) (tg _) := by
  unfold eChain
  congr 1; funext v h1; congr 1; funext w h2
  cases lift (o h2 v w) h2 with
  | no => rfl
  | exc => rfl
  | ok v h1 =>
    simp only [bind_ok]
    cases v with
    | bl b => cases b <;> rfl
    | _ => rfl
theorem a_fn {n F dws a} : eFn n F dws a ρ h = bnd (a ρ h) (fun vs h1 => if (vs ++ dws).length = n then F (vs ++ dws) h1 else .no) (tg _) := nr rfl
def afterL (r : Res (List VV)) : Res VV := match r with
  | .ok vs h2 => .ok (.lst vs) h2
  | _ => .no
theorem a_lc' {own it b t e} : eLc own it b t e ρ h = bnd (it ρ h) (fun xs h1 => if xs.length > SZ then .no else afterL (lcGo b t e (wp ρ own) xs h1)) (tg _) := nr rfl
def seqItems (v : VV) (h : VH) : Res (List VV) := match v with
  | .lst xs => .ok xs h
  | .scr xs => .ok xs h
  | .tup xs => .ok xs h
  | .str s => .ok (signs s) h
  | _ => .no
theorem seqI_lst {xs} : seqItems (.lst xs) h = .ok xs h := nr rfl
theorem seqI_scr {xs} : seqItems (.scr xs) h = .ok xs h := nr rfl
theorem seqI_tup {xs} : seqItems (.tup xs) h = .ok xs h := nr rfl
theorem seqI_str {s} : seqItems (.str s) h = .ok (signs s) h := nr rfl
theorem a_seq {f} : iSeq f ρ h = bnd (f ρ h) seqItems (tg _) := nr rfl
def rng1 (v : VV) (h : VH) : Res (List VV) := match v with
  | .int n => if -(2 ^ 62) ≤ n ∧ n < 2 ^ 62 then .ok (rngV 0 n.toNat) h else .no
  | _ => .no
theorem rng1_int {n : Int} : rng1 (.int n) h = if -(2 ^ 62) ≤ n ∧ n < 2 ^ 62 then .ok (rngV 0 n.toNat) h else .no := nr rfl
theorem a_range1 {f} : iRange1 f ρ h = bnd (f ρ h) rng1 (tg _) := nr rfl
def zipI (v : List VV) (h : VH) : Res (List VV) := match v with
  | [.lst xs, .lst ys] => .ok (prs xs ys) h
  | [.tup xs, .tup ys] => .ok (prs xs ys) h
  | _ => .no
theorem zip_lst {xs ys} : zipI [.lst xs, .lst ys] h = .ok (prs xs ys) h := nr rfl
theorem zip_tup {xs ys} : zipI [.tup xs, .tup ys] h = .ok (prs xs ys) h := nr rfl
theorem a_zip {f} : iZip f ρ h = bnd (f ρ h) zipI (tg _) := nr rfl
theorem a_sl {op a lo hi} : eSl op a lo hi ρ h = bnd (a ρ h) (fun v h1 => bnd (lo ρ h1) (fun l h2 => bnd (hi ρ h2) (fun u h3 => lift (op h3 v l u) h3) (tg _)) (tg _)) (tg _) := nr rfl
theorem a_onone : oNone ρ h = .ok none h := nr rfl
def toO (v : VV) (h : VH) : Res (Option Int) := match v with
  | .int i => .ok (some i) h
  | _ => .no
theorem toO_int {i : Int} : toO (.int i) h = .ok (some i) h := nr rfl
theorem a_osome {a} : oSome a ρ h = bnd (a ρ h) toO (tg _) := nr rfl
theorem lift_some {v : VV} : lift (some v) h = .ok v h := nr rfl
theorem lift_none : lift none h = .no := nr rfl
/-! statements -/
def SR.thn (r : SR) (b : SF) (_ : Tg b) : SR := match r with
  | .nx ρ' h' => b ρ' h'
  | r => r
theorem thn_nx {b : SF} {u : Tg b} : (SR.nx ρ h).thn b u = b ρ h := nr rfl
theorem thn_ret {v} {b : SF} {u : Tg b} : (SR.ret v h).thn b u = .ret v h := nr rfl
theorem thn_no {b : SF} {u : Tg b} : (SR.no).thn b u = .no := nr rfl
theorem thn_brk {b : SF} {u : Tg b} : (SR.brk ρ h).thn b u = .brk ρ h := nr rfl
theorem thn_cnt {b : SF} {u : Tg b} : (SR.cnt ρ h).thn b u = .cnt ρ h := nr rfl
theorem thn_exc {x ns vs} {b : SF} {u : Tg b} : (SR.exc x ns vs ρ h).thn b u = .exc x ns vs ρ h := nr rfl
theorem s_skip : sSkip ρ h = .nx ρ h := nr rfl
theorem s_seq {a b} : sSeq a b ρ h = (a ρ h).thn b (tg _) := nr rfl
theorem s_set {i e} : sSet i e ρ h = sbd (e ρ h) ρ (fun v h1 => .nx (ρ.set i (some v)) h1) (tg _) := nr rfl
def onx (o : Option VSt) (h : VH) : SR := match o with
  | some ρ' => .nx ρ' h
  | none => .no
theorem onx_some {ρ' : VSt} : onx (some ρ') h = .nx ρ' h := nr rfl
theorem s_asg {e b} : sAsg e b ρ h = sbd (e ρ h) ρ (fun v h1 => onx (b v ρ) h1) (tg _) := nr rfl
theorem s_if {c a b} : sIf c a b ρ h = sbd (c ρ h) ρ (fun k h1 => if k = true then a ρ h1 else b ρ h1) (tg _) := nr rfl
theorem s_ret {e} : sRet e ρ h = sbd (e ρ h) ρ (fun v h1 => .ret v h1) (tg _) := nr rfl
theorem s_expr {e} : sExpr e ρ h = sbd (e ρ h) ρ (fun v h1 => .nx ρ h1) (tg _) := nr rfl
theorem s_for {it b body} : sFor it b body ρ h = sbd (it ρ h) ρ (fun xs h1 => forGo b body xs ρ h1) (tg _) := nr rfl
theorem for_nil {b body} : forGo b body [] ρ h = .nx ρ h := by rw [forGo]
def SR.trn (r : SR) (k : VSt → VH → SR) (_ : Tg k) : SR := match r with
  | .nx ρ2 h2 => k ρ2 h2
  | .cnt ρ2 h2 => k ρ2 h2
  | .brk ρ2 h2 => .nx ρ2 h2
  | r => r
theorem trn_nx {k} {u : Tg k} : (SR.nx ρ h).trn k u = k ρ h := nr rfl
def obd (o : Option VSt) (k : VSt → SR) (_ : Tg k) : SR := match o with
  | none => .no
  | some ρ' => k ρ'
theorem obd_some {ρ' : VSt} {k} {u : Tg k} : obd (some ρ') k u = k ρ' := nr rfl
theorem for_cons {b body x xs} : forGo b body (x :: xs) ρ h = obd (b x ρ) (fun ρ' => (body ρ' h).trn (fun ρ2 h2 => forGo b body xs ρ2 h2) (tg _)) (tg _) := by
  rw [forGo]
  cases b x ρ with
  | none => rfl
  | some ρ' => simp only [obd]; cases body ρ' h <;> rfl
theorem bNm_ap {i v} : bNm i v ρ = some (ρ.set i (some v)) := nr rfl
theorem s_par {i j a} : sPar i j a ρ h = sbd (a ρ h) ρ (fun vs h1 => match vs with
  | [v, w] => .nx ((ρ.set i (some v)).set j (some w)) h1
  | _ => .no) (tg _) := nr rfl
theorem s_par3 {i j l a} : sPar3 i j l a ρ h = sbd (a ρ h) ρ (fun vs h1 => match vs with
  | [u, v, w] => .nx (((ρ.set i (some u)).set j (some v)).set l (some w)) h1
  | _ => .no) (tg _) := nr rfl
def onh (o : Option VH) (ρ : VSt) : SR := match o with
  | some h4 => .nx ρ h4
  | none => .no
theorem onh_some {h' : VH} : onh (some h') ρ = .nx ρ h' := nr rfl
theorem s_setI {o i e} : sSetI o i e ρ h = sbd (e ρ h) ρ (fun v h1 => sbd (o ρ h1) ρ (fun ov h2 => sbd (i ρ h2) ρ (fun iv h3 => onh (setI h3 ov iv v) ρ) (tg _)) (tg _)) (tg _) := nr rfl
def SR.fin (r : SR) (n : Nat) : Res VV := match r with
  | .nx _ h' => .ok .non (trim n .non h')
  | .ret v h' => .ok v (trim n v h')
  | .exc x ns vs _ h' => .exc x ns vs h'
  | _ => .no
theorem fn_ap {k B vs} : fnF k B vs h = (B (vs.map some ++ List.replicate (k - vs.length) none) h).fin h.length := by
  unfold fnF
  cases B (vs.map some ++ List.replicate (k - vs.length) none) h <;> rfl
theorem fin_ret {v n} (hl : h.length = n) : (SR.ret v h).fin n = .ok v h := by
  show Res.ok v (trim n v h) = _
  unfold trim
  rw [if_pos hl]
/-! operations -/
theorem o_sub {i j : Int} : opSub h (.int i) (.int j) = some (.int (i - j)) := nr rfl
theorem o_add {i j : Int} : opAdd h (.int i) (.int j) = some (.int (i + j)) := nr rfl
theorem o_lt {i j : Int} : opLt h (.int i) (.int j) = some (.bl (decide (i < j))) := nr rfl
theorem o_le {i j : Int} : opLe h (.int i) (.int j) = some (.bl (decide (i ≤ j))) := nr rfl
theorem o_gt {i j : Int} : opGt h (.int i) (.int j) = some (.bl (decide (j < i))) := nr rfl
theorem o_ge {i j : Int} : opGe h (.int i) (.int j) = some (.bl (decide (j ≤ i))) := nr rfl
theorem o_neg {i : Int} : opNeg h (.int i) = some (.int (-i)) := nr rfl
theorem o_eqI {i j : Int} : opEq h (.int i) (.int j) = some (.bl (decide (i = j))) := nr rfl
theorem o_neI {i j : Int} : opNe h (.int i) (.int j) = some (.bl (!decide (i = j))) := nr rfl
theorem o_eqB {i j : Bool} : opEq h (.bl i) (.bl j) = some (.bl (decide (i = j))) := nr rfl
theorem o_neB {i j : Bool} : opNe h (.bl i) (.bl j) = some (.bl (!decide (i = j))) := nr rfl
theorem o_eqS {i j : Str} : opEq h (.str i) (.str j) = some (.bl (decide (i = j))) := nr rfl
theorem o_fdiv {i j : Int} (h0 : j ≠ 0) (h1 : j.natAbs.log2 < 9000) : opFdiv h (.int i) (.int j) = some (.int (i.fdiv j)) := by
  show (if _ then _ else _) = _; rw [if_pos ⟨h0, h1⟩]
theorem o_mod {i j : Int} (h0 : j ≠ 0) : opMod h (.int i) (.int j) = some (.int (i.fmod j)) := by
  show (if _ then _ else _) = _; rw [if_pos h0]
theorem o_mul {i j : Int} (h0 : mulOk i j = true) : opMul h (.int i) (.int j) = some (.int (i * j)) := by
  show (if _ then _ else _) = _; rw [if_pos h0]
theorem o_pow {i j : Int} (h0 : 0 ≤ j ∧ j ≤ 1000000 ∧ i.natAbs < 2 ^ 64) : opPow h (.int i) (.int j) = some (.int (i ^ j.toNat)) := by
  show (if _ then _ else _) = _; rw [if_pos h0]
theorem o_mul_r {i j : Int} (h0 : j.natAbs < 18446744073709551616) : opMul h (.int i) (.int j) = some (.int (i * j)) := by
  refine o_mul ?_
  unfold mulOk
  rw [decide_eq_true (p := j.natAbs < 2 ^ 64) (by omega)]; simp
theorem o_mul_l {i j : Int} (h0 : i.natAbs < 18446744073709551616) : opMul h (.int i) (.int j) = some (.int (i * j)) := by
  refine o_mul ?_
  unfold mulOk
  rw [decide_eq_true (p := i.natAbs < 2 ^ 64) (by omega)]; simp
end
/-! loops by what holds -/
inductive F2 {α β : Type} (P : α → β → Prop) : List α → List β → Prop
  | nil : F2 P [] []
  | cons {a b as bs} : P a b → F2 P as bs → F2 P (a :: as) (b :: bs)
theorem F2.len {α β : Type} {P : α → β → Prop} {as : List α} {bs : List β} (h : F2 P as bs) : as.length = bs.length := by
  induction h with
  | nil => rfl
  | cons _ _ ih => simp [ih]
theorem for_inv {b : VV → VSt → Option VSt} {body : SF} (I : VSt → VH → Prop) : ∀ {xs : List VV} {ρ : VSt} {h : VH}, I ρ h → (∀ x ∈ xs, ∀ ρ h, I ρ h → ∃ ρ' ρ2 h2, b x ρ = some ρ' ∧ body ρ' h = .nx ρ2 h2 ∧ I ρ2 h2) → ∃ ρ2 h2, forGo b body xs ρ h = .nx ρ2 h2 ∧ I ρ2 h2
  | [], ρ, h, hi, _ => ⟨ρ, h, rfl, hi⟩
  | x :: xs, ρ, h, hi, hx => by
    obtain ⟨ρ', ρ2, h2, e1, e2, hi2⟩ := hx x List.mem_cons_self ρ h hi
    obtain ⟨ρ3, h3, e3, hi3⟩ := for_inv I (xs := xs) hi2 fun y hy => hx y (List.mem_cons_of_mem _ hy)
    refine ⟨ρ3, h3, ?_, hi3⟩
    rw [for_cons, e1, obd_some, e2, trn_nx, e3]
end J
namespace J
open PySem L2
theorem ix_root {h : VH} {n : Nat} {xs : List VV} {k : Int} (e : h[n]? = some (.fl xs)) : opIx h (.obj n) (.int k) = atI xs k := by
  unfold opIx
  simp only [lstR, lstOf, e, Option.bind_some]
theorem set_root {h : VH} {n : Nat} {xs : List VV} {k : Int} {j : Nat} {v : VV} (e : h[n]? = some (.fl xs)) (ej : ixN xs.length k = some j) (hv : v.isObj = false) : setI h (.obj n) (.int k) v = some (h.set n (.fl (xs.set j v))) := by
  unfold setI
  simp only [e, ej, hv, Bool.false_eq_true, if_false]
theorem get_set {h : VH} {n : Nat} {v : VO} (hn : n < h.length) : (h.set n v)[n]? = some v := List.getElem?_set_self hn
theorem lt_of_get {α : Type} {h : List α} {n : Nat} {v : α} (e : h[n]? = some v) : n < h.length := (List.getElem?_eq_some_iff.mp e).1
section
variable {a b c d e : VV}
theorem at5_0 : atI [a, b, c, d, e] 0 = some a := nr rfl
theorem at5_1 : atI [a, b, c, d, e] 1 = some b := nr rfl
theorem at5_2 : atI [a, b, c, d, e] 2 = some c := nr rfl
theorem at5_3 : atI [a, b, c, d, e] 3 = some d := nr rfl
theorem at5_4 : atI [a, b, c, d, e] 4 = some e := nr rfl
end
theorem x_lst {h : VH} {xs : List VV} {k : Int} : opIx h (.lst xs) (.int k) = atI xs k := nr rfl
theorem x_tup {h : VH} {xs : List VV} {k : Int} : opIx h (.tup xs) (.int k) = atI xs k := nr rfl
theorem len_lst {h : VH} {xs : List VV} : cLen h [.lst xs] = some (.int xs.length) := nr rfl
theorem len_tup {h : VH} {xs : List VV} : cLen h [.tup xs] = some (.int xs.length) := nr rfl
theorem list_lst {h : VH} {xs : List VV} : cList h [.lst xs] = some (.lst xs) := nr rfl
theorem list_tup {h : VH} {xs : List VV} : cList h [.tup xs] = some (.lst xs) := nr rfl
theorem tuple_lst {h : VH} {xs : List VV} : cTuple h [.lst xs] = some (.tup xs) := nr rfl
theorem atI_in {xs : List VV} {k : Nat} {v : VV} (e : xs[k]? = some v) : atI xs (k : Int) = some v := atI_nat e
end J
namespace J
open PySem L2
theorem kit_NoneType_list : kitB "NoneType" "list" = some false := by decide +kernel
theorem isi_NoneType_list {h : VH} : cIsi h [.non, .ty "list"] = some (.bl false) := by show ((kitB "NoneType" "list").map VV.bl) = _; rw [kit_NoneType_list]; rfl
theorem kit_NoneType_tuple : kitB "NoneType" "tuple" = some false := by decide +kernel
theorem isi_NoneType_tuple {h : VH} : cIsi h [.non, .ty "tuple"] = some (.bl false) := by show ((kitB "NoneType" "tuple").map VV.bl) = _; rw [kit_NoneType_tuple]; rfl
theorem kit_NoneType_bool : kitB "NoneType" "bool" = some false := by decide +kernel
theorem isi_NoneType_bool {h : VH} : cIsi h [.non, .ty "bool"] = some (.bl false) := by show ((kitB "NoneType" "bool").map VV.bl) = _; rw [kit_NoneType_bool]; rfl
theorem kit_NoneType_int : kitB "NoneType" "int" = some false := by decide +kernel
theorem isi_NoneType_int {h : VH} : cIsi h [.non, .ty "int"] = some (.bl false) := by show ((kitB "NoneType" "int").map VV.bl) = _; rw [kit_NoneType_int]; rfl
theorem kit_NoneType_str : kitB "NoneType" "str" = some false := by decide +kernel
theorem isi_NoneType_str {h : VH} : cIsi h [.non, .ty "str"] = some (.bl false) := by show ((kitB "NoneType" "str").map VV.bl) = _; rw [kit_NoneType_str]; rfl
theorem kit_bool_list : kitB "bool" "list" = some false := by decide +kernel
theorem isi_bool_list {h : VH} {b : Bool} : cIsi h [(.bl b), .ty "list"] = some (.bl false) := by show ((kitB "bool" "list").map VV.bl) = _; rw [kit_bool_list]; rfl
theorem kit_bool_tuple : kitB "bool" "tuple" = some false := by decide +kernel
theorem isi_bool_tuple {h : VH} {b : Bool} : cIsi h [(.bl b), .ty "tuple"] = some (.bl false) := by show ((kitB "bool" "tuple").map VV.bl) = _; rw [kit_bool_tuple]; rfl
theorem kit_bool_bool : kitB "bool" "bool" = some true := by decide +kernel
theorem isi_bool_bool {h : VH} {b : Bool} : cIsi h [(.bl b), .ty "bool"] = some (.bl true) := by show ((kitB "bool" "bool").map VV.bl) = _; rw [kit_bool_bool]; rfl
theorem kit_bool_int : kitB "bool" "int" = some true := by decide +kernel
theorem isi_bool_int {h : VH} {b : Bool} : cIsi h [(.bl b), .ty "int"] = some (.bl true) := by show ((kitB "bool" "int").map VV.bl) = _; rw [kit_bool_int]; rfl
theorem kit_bool_str : kitB "bool" "str" = some false := by decide +kernel
theorem isi_bool_str {h : VH} {b : Bool} : cIsi h [(.bl b), .ty "str"] = some (.bl false) := by show ((kitB "bool" "str").map VV.bl) = _; rw [kit_bool_str]; rfl
theorem kit_int_list : kitB "int" "list" = some false := by decide +kernel
theorem isi_int_list {h : VH} {i : Int} : cIsi h [(.int i), .ty "list"] = some (.bl false) := by show ((kitB "int" "list").map VV.bl) = _; rw [kit_int_list]; rfl
theorem kit_int_tuple : kitB "int" "tuple" = some false := by decide +kernel
theorem isi_int_tuple {h : VH} {i : Int} : cIsi h [(.int i), .ty "tuple"] = some (.bl false) := by show ((kitB "int" "tuple").map VV.bl) = _; rw [kit_int_tuple]; rfl
theorem kit_int_bool : kitB "int" "bool" = some false := by decide +kernel
theorem isi_int_bool {h : VH} {i : Int} : cIsi h [(.int i), .ty "bool"] = some (.bl false) := by show ((kitB "int" "bool").map VV.bl) = _; rw [kit_int_bool]; rfl
theorem kit_int_int : kitB "int" "int" = some true := by decide +kernel
theorem isi_int_int {h : VH} {i : Int} : cIsi h [(.int i), .ty "int"] = some (.bl true) := by show ((kitB "int" "int").map VV.bl) = _; rw [kit_int_int]; rfl
theorem kit_int_str : kitB "int" "str" = some false := by decide +kernel
theorem isi_int_str {h : VH} {i : Int} : cIsi h [(.int i), .ty "str"] = some (.bl false) := by show ((kitB "int" "str").map VV.bl) = _; rw [kit_int_str]; rfl
theorem kit_str_list : kitB "str" "list" = some false := by decide +kernel
theorem isi_str_list {h : VH} {x : Str} : cIsi h [(.str x), .ty "list"] = some (.bl false) := by show ((kitB "str" "list").map VV.bl) = _; rw [kit_str_list]; rfl
theorem kit_str_tuple : kitB "str" "tuple" = some false := by decide +kernel
theorem isi_str_tuple {h : VH} {x : Str} : cIsi h [(.str x), .ty "tuple"] = some (.bl false) := by show ((kitB "str" "tuple").map VV.bl) = _; rw [kit_str_tuple]; rfl
theorem kit_str_bool : kitB "str" "bool" = some false := by decide +kernel
theorem isi_str_bool {h : VH} {x : Str} : cIsi h [(.str x), .ty "bool"] = some (.bl false) := by show ((kitB "str" "bool").map VV.bl) = _; rw [kit_str_bool]; rfl
theorem kit_str_int : kitB "str" "int" = some false := by decide +kernel
theorem isi_str_int {h : VH} {x : Str} : cIsi h [(.str x), .ty "int"] = some (.bl false) := by show ((kitB "str" "int").map VV.bl) = _; rw [kit_str_int]; rfl
theorem kit_str_str : kitB "str" "str" = some true := by decide +kernel
theorem isi_str_str {h : VH} {x : Str} : cIsi h [(.str x), .ty "str"] = some (.bl true) := by show ((kitB "str" "str").map VV.bl) = _; rw [kit_str_str]; rfl
theorem kit_tuple_list : kitB "tuple" "list" = some false := by decide +kernel
theorem isi_tuple_list {h : VH} {xs : List VV} : cIsi h [(.tup xs), .ty "list"] = some (.bl false) := by show ((kitB "tuple" "list").map VV.bl) = _; rw [kit_tuple_list]; rfl
theorem kit_tuple_tuple : kitB "tuple" "tuple" = some true := by decide +kernel
theorem isi_tuple_tuple {h : VH} {xs : List VV} : cIsi h [(.tup xs), .ty "tuple"] = some (.bl true) := by show ((kitB "tuple" "tuple").map VV.bl) = _; rw [kit_tuple_tuple]; rfl
theorem kit_tuple_bool : kitB "tuple" "bool" = some false := by decide +kernel
theorem isi_tuple_bool {h : VH} {xs : List VV} : cIsi h [(.tup xs), .ty "bool"] = some (.bl false) := by show ((kitB "tuple" "bool").map VV.bl) = _; rw [kit_tuple_bool]; rfl
theorem kit_tuple_int : kitB "tuple" "int" = some false := by decide +kernel
theorem isi_tuple_int {h : VH} {xs : List VV} : cIsi h [(.tup xs), .ty "int"] = some (.bl false) := by show ((kitB "tuple" "int").map VV.bl) = _; rw [kit_tuple_int]; rfl
theorem kit_tuple_str : kitB "tuple" "str" = some false := by decide +kernel
theorem isi_tuple_str {h : VH} {xs : List VV} : cIsi h [(.tup xs), .ty "str"] = some (.bl false) := by show ((kitB "tuple" "str").map VV.bl) = _; rw [kit_tuple_str]; rfl
theorem kit_list_list : kitB "list" "list" = some true := by decide +kernel
theorem isi_list_list {h : VH} {xs : List VV} : cIsi h [(.lst xs), .ty "list"] = some (.bl true) := by show ((kitB "list" "list").map VV.bl) = _; rw [kit_list_list]; rfl
theorem kit_list_tuple : kitB "list" "tuple" = some false := by decide +kernel
theorem isi_list_tuple {h : VH} {xs : List VV} : cIsi h [(.lst xs), .ty "tuple"] = some (.bl false) := by show ((kitB "list" "tuple").map VV.bl) = _; rw [kit_list_tuple]; rfl
theorem kit_list_bool : kitB "list" "bool" = some false := by decide +kernel
theorem isi_list_bool {h : VH} {xs : List VV} : cIsi h [(.lst xs), .ty "bool"] = some (.bl false) := by show ((kitB "list" "bool").map VV.bl) = _; rw [kit_list_bool]; rfl
theorem kit_list_int : kitB "list" "int" = some false := by decide +kernel
theorem isi_list_int {h : VH} {xs : List VV} : cIsi h [(.lst xs), .ty "int"] = some (.bl false) := by show ((kitB "list" "int").map VV.bl) = _; rw [kit_list_int]; rfl
theorem kit_list_str : kitB "list" "str" = some false := by decide +kernel
theorem isi_list_str {h : VH} {xs : List VV} : cIsi h [(.lst xs), .ty "str"] = some (.bl false) := by show ((kitB "list" "str").map VV.bl) = _; rw [kit_list_str]; rfl
end J
namespace J
open PySem L2
end J
namespace J
open PySem L2
end J
namespace J
open PySem L2
end J
namespace J
open PySem L2
open PyProof.Rows (envOfC)
/-! loops of a comprehension's block, whatever a turn does -/
/-- what the slots knew they still know -/
def Knows (σ σ' : St) : Prop := σ.length = σ'.length ∧ ∀ (i : Nat) (v : V), σ[i]? = some (some v) → σ'[i]? = some (some v)
theorem Knows.refl {σ : St} : Knows σ σ := ⟨rfl, fun _ _ h => h⟩
end J
namespace J
open PySem L2
open PyProof.Rows (envOfC)
/-! an accumulator that grows by turns -/
def accGo {α : Type} (b : VV → VSt → Option VSt) (stp : VSt → VH → α → Res α) (ρ : VSt) : List VV → VH → α → Res α
  | [], h, a => .ok a h
  | x :: xs, h, a => match b x ρ with
    | none => .no
    | some ρ' => (stp ρ' h a).bind fun a' h' => accGo b stp ρ xs h' a'
end J
namespace J
open PySem L2
open PyProof.Rows (envOfC)
open PpSet (compTurn_set)
def noX {α : Type} : Res α → Res α
  | .ok a h => .ok a h
  | _ => .no
end J
namespace J
open PySem L2
open PyProof.Rows (envOfC)
/-! len({e for x in xs}), ints -/
def stSet (fe : EF) : VSt → VH → List Int → Res (List Int) := fun ρ h a => (fe ρ h).bind fun v h1 => match v with
  | .int i => if a.length ≥ 4000 then .no else .ok (if i ∈ a then a else a ++ [i]) h1
  | _ => .no
section
variable {X : Cx} {W : WX}
def eLenSc (own : List Nat) (it : AF) (b : VV → VSt → Option VSt) (fe : EF) : EF := fun ρ h => (it ρ h).bind fun xs h1 => (noX (accGo b (stSet fe) (wp ρ own) xs h1 [])).bind fun a h2 => .ok (.int a.length) h2
theorem res_assoc {α β γ : Type} {r : Res α} {k : α → VH → Res β} {m : β → VH → Res γ} : (r.bind k).bind m = r.bind fun a h => (k a h).bind m := by cases r <;> rfl
end
end J
namespace J
open PySem L2
open PyProof.Rows (envOfC)
/-! dicts whose keys are tuples -/
def keyA : VV → Option Key
  | .int i => some (.inl i)
  | .str x => some (.inr x)
  | _ => none
def keyL : List VV → Option (List Key)
  | [] => some []
  | x :: xs => (keyA x).bind fun a => (keyL xs).map fun r => a :: r
def keyV : VV → Option (List Key)
  | .tup xs => keyL xs
  | _ => none
def hasK (ks : List (List Key)) (k : List Key) : Bool := ks.any fun x => decide (x = k)
/-- in its place, or at the end -/
def putVs {α : Type} (ks : List (List Key)) (vs : List α) (k : List Key) (v : α) : List α := if hasK ks k = true then (ks.zip vs).map (fun p => if p.1 = k then v else p.2) else vs ++ [v]
def putKs (ks : List (List Key)) (k : List Key) : List (List Key) := if hasK ks k = true then ks else ks ++ [k]
theorem RVs.put {c : Ct} {z : Addr → Prop} {H : Hp} {ks : List (List Key)} {vs : List VV} {us : List V} {k : List Key} {v : VV} {u : V} (hl : ks.length = us.length) (r : RVs c z H vs us) (q : RV c z H v u) : RVs c z H (putVs ks vs k v) (putVs ks us k u) := by
  unfold putVs
  split
  · rename_i m
    clear m
    induction ks generalizing vs us with
    | nil => simp only [List.zip_nil_left, List.map_nil]; exact RVs.nil
    | cons x xs ih =>
      cases us with
      | nil => cases hl
      | cons w us =>
        cases vs with
        | nil => rw [RVs] at r; cases r
        | cons y ys =>
          rw [RVs] at r
          obtain ⟨a1, a2, e, a3, a4⟩ := r
          cases e
          simp only [List.zip_cons_cons, List.map_cons]
          refine RVs.cons ?_ (ih (Nat.succ.inj hl) a4)
          by_cases e : x = k
          · rw [if_pos e, if_pos e]; exact q
          · rw [if_neg e, if_neg e]; exact a3
  · exact RVs.app r (RVs.one q)
end J
namespace J
open PySem L2
open PyProof.Rows (envOfC)
/-! {k: v for x in xs for y in ys}, keys tuples -/
abbrev DA := List (List Key) × List VV
def stDict (fk fv : EF) : VSt → VH → DA → Res DA := fun ρ h a => (fk ρ h).bind fun kv h1 => (fv ρ h1).bind fun v h2 => match keyV kv with
  | some k => if v.isObj = true ∨ a.1.length ≥ SZ then .no else .ok (putKs a.1 k, putVs a.1 a.2 k v) h2
  | none => .no
def stIn {α : Type} (it1 : AF) (b1 : VV → VSt → Option VSt) (vs1 : List Nat) (stp : VSt → VH → α → Res α) : VSt → VH → α → Res α := fun ρ h a => (it1 ρ h).bind fun xs h1 => accGo b1 stp (wp ρ vs1) xs h1 a
def RaD (c : Ct) (_ : Addr) (g : Gh) (H : Hp) (a : DA) (o : HO) : Prop := ∃ us, o = .dT (a.1.zip us) ∧ a.1.length = us.length ∧ RVs c g.fz H a.2 us
theorem RaD.nt {c : Ct} {D : Addr} {g : Gh} {H : Hp} {a : DA} {o : HO} (h : RaD c D g H a o) (ps : Array Value) : o ≠ .tbl ps := by
  obtain ⟨us, rfl, _⟩ := h
  intro z
  cases z
theorem RaD.stp {c : Ct} {D : Addr} {g g' : Gh} {H H' : Hp} {a : DA} {o : HO} (s : Stp g H g' H') (h : RaD c D g H a o) : RaD c D g' H' a o := by
  obtain ⟨us, e, l, r⟩ := h
  exact ⟨us, e, l, s.rvs r⟩
end J
namespace J
open PySem L2
open PyProof.Rows (envOfC)
section
variable {X : Cx} {W : WX}
def eDc2 (own : List Nat) (it : AF) (b : VV → VSt → Option VSt) (it1 : AF) (b1 : VV → VSt → Option VSt) (vs1 : List Nat) (fk fv : EF) : EF := fun ρ h => (it ρ h).bind fun xs h1 => (noX (accGo b (stIn it1 b1 vs1 (stDict fk fv)) (wp ρ own) xs h1 ([], []))).bind fun a h2 => .ok (.dT a.1 a.2) h2
end
end J
namespace J
open PySem PySem.Spec L2 PyProof.Rows
/-! the tables of larger sets: the masks up to 511 -/
structure Round (m : Nat) : Prop where
  odd : m % 2 = 1
  low : m ≤ 511
  met : ∀ (h : Int) (j : Nat), j ≤ m → ∃ n, n ≤ m + 12 ∧ runI m (SetTable.bits h) n = j
theorem round_of {m : Nat} (hm : MaskOk m) : Round m := ⟨mask_odd hm, by rcases hm with e | e | e <;> omega, fun h j hj => run_meets hm h hj⟩
/-- 0, 1, 6, 31 .. -/
def orb : Nat → Nat → List Nat
  | 0, _ => []
  | n + 1, x => x :: orb n ((x * 5 + 1) % 512)
theorem orb_len : ∀ (n x : Nat), (orb n x).length = n
  | 0, _ => rfl
  | n + 1, x => congrArg Nat.succ (orb_len n _)
theorem orb_get : ∀ (n a k : Nat), k < n → (orb n (lcgN 511 a))[k]? = some (lcgN 511 (a + k))
  | n + 1, a, 0, _ => rfl
  | n + 1, a, k + 1, h => by
    have e := orb_get n (a + 1) k (by omega)
    rw [show a + 1 + k = a + (k + 1) by omega] at e
    exact e
theorem orb_all : ((List.range 512).all fun j => (orb 512 0).contains j) = true := by decide +kernel
theorem orb_back : lcgN 511 512 = 0 := by decide +kernel
theorem lcg_at {j : Nat} (hj : j ≤ 511) : ∃ b, b ≤ 511 ∧ lcgN 511 b = j := by
  have hm : j ∈ orb 512 (lcgN 511 0) := List.contains_iff_mem.mp (List.all_eq_true.mp orb_all j (List.mem_range.mpr (by omega)))
  obtain ⟨b, hb⟩ := List.mem_iff_getElem?.mp hm
  have lb : b < 512 := by
    have := (List.getElem?_eq_some_iff.mp hb).1
    rw [orb_len] at this
    exact this
  rw [orb_get 512 0 b lb, Nat.zero_add] at hb
  exact ⟨b, by omega, Option.some.inj hb⟩
theorem lcg_again (k : Nat) : lcgN 511 (512 + k) = lcgN 511 k := by
  rw [← lcgN_add, orb_back]
  have := lcgN_add 511 0 k
  rw [Nat.zero_add] at this
  exact this
theorem round511 : Round 511 where
  odd := rfl
  low := Nat.le_refl _
  met := fun h j hj => by
    obtain ⟨a, ha, ea⟩ := lcg_at (runI_le 511 (SetTable.bits h) 12)
    obtain ⟨b, hb, eb⟩ := lcg_at hj
    obtain ⟨k, hk, e⟩ : ∃ k, k ≤ 511 ∧ lcgN 511 (a + k) = j := by
      by_cases c : a ≤ b
      · exact ⟨b - a, by omega, by rw [show a + (b - a) = b by omega]; exact eb⟩
      · exact ⟨512 + b - a, by omega, by rw [show a + (512 + b - a) = 512 + b by omega, lcg_again]; exact eb⟩
    exact ⟨12 + k, by omega, by rw [runI_tail (bits_lt h), ← ea, lcgN_add]; exact e⟩
theorem way_in (m : Nat) (h : Int) (k : Nat) : way m h k ≤ m := by
  have a := runEnd_bd (m := m) (i := SetTable.bits h % (m + 1)) (Nat.le_of_lt_succ (Nat.mod_lt _ (Nat.succ_pos _)))
  have b := nth_in (m := m) k (runAt m (SetTable.bits h % (m + 1)) (SetTable.bits h)) (by
    show SetTable.bits h % (m + 1) + (SetTable.runEnd m (SetTable.bits h % (m + 1)) - SetTable.bits h % (m + 1)) ≤ m
    omega)
  exact Nat.le_trans (Nat.le_add_right _ _) b
/-- a table: each slot with the hash that sits there -/
structure Laid (t : SetTable) (hs : List Int) : Prop where
  up : Ris t.place.toList
  bare : t.dummies = #[]
  many : t.place.toList.length = hs.length
  rnd : Round t.mask
  under : ∀ x ∈ t.place.toList, x ≤ t.mask
  found : ∀ q ∈ t.place.toList.zip hs, ∃ k, way t.mask q.2 k = q.1 ∧ ∀ d, d < k → way t.mask q.2 d ∈ t.place.toList
section
variable {t : SetTable} {hs : List Int} {h : Int} {K : Nat}
theorem Laid.first (T : Laid t hs) (hl : hs.length ≤ t.mask) (h : Int) : ∃ K, K < 10 * SetTable.turns t.mask ∧ way t.mask h K ∉ t.place.toList ∧ ∀ d, d < K → way t.mask h d ∈ t.place.toList := by
  obtain ⟨j, hj, hn⟩ := st_missing t.place.toList (t.mask + 1) (by rw [T.many]; omega)
  obtain ⟨n, hn1, e⟩ := T.rnd.met h j (by omega)
  obtain ⟨k, hk, e2⟩ := run_nth t.mask (SetTable.bits h) n
  have ek : way t.mask h k = j := (congrArg SetTable.Probe.j e2).trans e
  obtain ⟨K, a, b, c⟩ := st_least (p := fun k => way t.mask h k ∉ t.place.toList) k (by
    show way t.mask h k ∉ _
    rw [ek]; exact hn)
  exact ⟨K, by unfold SetTable.turns; omega, b, fun d hd => Classical.not_not.mp (c d hd)⟩
theorem Laid.ahead (T : Laid t hs) {i j : Nat} (hK : way t.mask h K ∉ t.place.toList) (hi : hs[i]? = some h) (hj : t.place.toList[i]? = some j) : ∃ d, d < K ∧ way t.mask h d = j := by
  obtain ⟨k, e, b⟩ := T.found (j, h) (List.mem_of_getElem? (i := i) (List.getElem?_zip_eq_some.mpr ⟨hj, hi⟩))
  refine ⟨k, Nat.lt_of_not_le fun c => hK ?_, e⟩
  rcases Nat.eq_or_lt_of_le c with z | z
  · rw [z, show way t.mask h k = j from e]; exact List.mem_of_getElem? hj
  · exact b K z
theorem zip_in {α β : Type} {A : List α} {B : List β} {p : Nat} {x : α} {y : β} (e : A.length = B.length) {q : α × β} (hq : q ∈ (A.take p ++ x :: A.drop p).zip (B.take p ++ y :: B.drop p)) : q = (x, y) ∨ q ∈ A.zip B := by
  have el : (A.take p).length = (B.take p).length := by rw [List.length_take, List.length_take, e]
  have es : A.zip B = (A.take p).zip (B.take p) ++ (A.drop p).zip (B.drop p) := by
    rw [← List.zip_append el, List.take_append_drop, List.take_append_drop]
  rw [List.zip_append el, List.zip_cons_cons] at hq
  rw [es]
  rcases List.mem_append.mp hq with z | z
  · exact .inr (List.mem_append_left _ z)
  · rcases List.mem_cons.mp z with z | z
    · exact .inl z
    · exact .inr (List.mem_append_right _ z)
/-- one more in its slot -/
theorem Laid.put (T : Laid t hs) {j : Nat} (ej : way t.mask h K = j) (hK : j ∉ t.place.toList) (hb : ∀ d, d < K → way t.mask h d ∈ t.place.toList) :
    Laid (t.put j).1 (hs.take (SetTable.below t.place j) ++ h :: hs.drop (SetTable.below t.place j)) ∧ (t.put j).1.fill = hs.length + 1 := by
  have cut := (below_cut T.up j).1
  have pl : SetTable.below t.place j ≤ t.place.toList.length := by rw [Array.length_toList]; exact cut
  have ph : SetTable.below t.place j ≤ hs.length := by rw [← T.many]; exact pl
  have new := put_place t j
  have more : ∀ {x : Nat}, x ∈ t.place.toList → x ∈ (t.put j).1.place.toList := fun {x} z => by rw [new]; exact mem_ins.mpr (.inr z)
  have len : (t.put j).1.place.toList.length = hs.length + 1 := by rw [new, len_ins _ pl, T.many]
  refine ⟨⟨ris_insert T.up fun z => hK (List.mem_of_getElem? (by rw [Array.getElem?_toList]; exact z)), put_dm T.bare j, by rw [len_ins _ ph]; exact len, T.rnd, fun x hx => ?_, fun q hq => ?_⟩, ?_⟩
  · rw [new] at hx
    rcases mem_ins.mp hx with z | z
    · rw [z, ← ej]; exact way_in _ _ _
    · exact T.under x z
  · rw [new] at hq
    rcases zip_in T.many hq with z | z
    · subst z
      exact ⟨K, ej, fun d hd => more (hb d hd)⟩
    · obtain ⟨k, e, f⟩ := T.found q z
      exact ⟨k, e, fun d hd => more (f d hd)⟩
  · have f : (t.put j).1.fill = (t.put j).1.place.toList.length + (t.put j).1.dummies.size := by rw [Array.length_toList]; rfl
    rw [f, len, put_dm T.bare j]; rfl
end
/-! all laid anew -/
structure Seat (m : Nat) (hs : List Int) (n : Nat) (ow : Array (Option Nat)) : Prop where
  size : ow.size = m + 1
  sit : ∀ j k, j ≤ m → oAt ow j = some k → k < n ∧ ∃ K, way m (hs.getD k 0) K = j ∧ ∀ d, d < K → oAt ow (way m (hs.getD k 0) d) ≠ none
  each : ∀ k, k < n → ∃ j, j ≤ m ∧ oAt ow j = some k
  once : ∀ i j k, i ≤ m → j ≤ m → oAt ow i = some k → oAt ow j = some k → i = j
section
variable {m n : Nat} {hs : List Int} {ow : Array (Option Nat)}
theorem Seat.room (S : Seat m hs n ow) (hn : n ≤ m) : ∃ j, j ≤ m ∧ oAt ow j = none := by
  refine Classical.byContradiction fun c => ?_
  have full : ∀ j, j ≤ m → ∃ k, oAt ow j = some k := fun j hj => by
    cases e : oAt ow j with
    | none => exact absurd ⟨j, hj, e⟩ c
    | some k => exact ⟨k, rfl⟩
  have nd : ((List.range (m + 1)).map fun j => (oAt ow j).getD 0).Nodup := by
    unfold List.Nodup
    rw [List.pairwise_map]
    refine List.Pairwise.imp_of_mem (fun {a b} ha hb ne z => ne ?_) (List.nodup_range (n := m + 1))
    have ha := List.mem_range.mp ha
    have hb := List.mem_range.mp hb
    obtain ⟨k, ek⟩ := full a (by omega)
    obtain ⟨l, el⟩ := full b (by omega)
    rw [ek, el] at z
    have z : k = l := z
    subst z
    exact S.once a b k (by omega) (by omega) ek el
  have q := nat_nodup_len _ (List.range n) nd fun x hx => by
    obtain ⟨j, hj, rfl⟩ := List.mem_map.mp hx
    have hj := List.mem_range.mp hj
    obtain ⟨k, ek⟩ := full j (by omega)
    rw [ek]
    exact List.mem_range.mpr (S.sit j k (by omega) ek).1
  rw [List.length_map, List.length_range, List.length_range] at q
  omega
theorem Seat.next (R : Round m) (S : Seat m hs n ow) (hn : n ≤ m) {h : Int} (eh : hs.getD n 0 = h) :
    ∃ j, SetTable.layClean.free m ow (SetTable.turns m) (SetTable.bits h % (m + 1)) (SetTable.bits h) = some j ∧ Seat m hs (n + 1) (ow.setIfInBounds j (some n)) := by
  obtain ⟨j0, h0, e0⟩ := S.room hn
  obtain ⟨r, hr, er⟩ := R.met h j0 h0
  have eo : way m h (off m (SetTable.bits h % (m + 1)) (SetTable.bits h) r) = j0 := by
    show (nth m (runAt m (SetTable.bits h % (m + 1)) (SetTable.bits h)) _).j = j0
    rw [nth_off, itL_run]
    exact er
  obtain ⟨K, k1, k2, k3⟩ := st_least (p := fun k => oAt ow (way m h k) = none) _ (show oAt ow (way m h (off m (SetTable.bits h % (m + 1)) (SetTable.bits h) r)) = none by rw [eo]; exact e0)
  have busy : ∀ d, d < K → (oAt ow (way m h d)).isNone = false := fun d hd => by
    cases z : oAt ow (way m h d) with
    | none => exact absurd z (k3 d hd)
    | some _ => rfl
  have ef := free_spec m ow (SetTable.turns m) r (SetTable.bits h % (m + 1)) (SetTable.bits h) K (by unfold SetTable.turns; omega) k1 busy (by
    have z : oAt ow (way m h K) = none := k2
    show (oAt ow (way m h K)).isNone = true
    rw [z]; rfl)
  obtain ⟨j, ej⟩ : ∃ j, way m h K = j := ⟨_, rfl⟩
  have ef : SetTable.layClean.free m ow (SetTable.turns m) (SetTable.bits h % (m + 1)) (SetTable.bits h) = some (way m h K) := ef
  have k2 : oAt ow (way m h K) = none := k2
  have jm : j ≤ m := by rw [← ej]; exact way_in m h K
  rw [ej] at ef k2
  have at_j : oAt (ow.setIfInBounds j (some n)) j = some n := oAt_set_self _ (by rw [S.size]; omega)
  have at_i : ∀ {i : Nat}, i ≠ j → oAt (ow.setIfInBounds j (some n)) i = oAt ow i := fun c => oAt_set_ne _ c
  have stays : ∀ {i : Nat}, oAt ow i ≠ none → oAt (ow.setIfInBounds j (some n)) i ≠ none := fun {i} z => by
    by_cases c : i = j
    · rw [c, at_j]; exact fun y => by cases y
    · rw [at_i c]; exact z
  refine ⟨j, ef, by rw [Array.size_setIfInBounds]; exact S.size, fun i k hi e => ?_, fun k hk => ?_, fun i i' k hi hi' e e' => ?_⟩
  · by_cases c : i = j
    · rw [c, at_j] at e
      cases e
      rw [eh, c]
      exact ⟨Nat.lt_succ_self _, K, ej, fun d hd => stays (k3 d hd)⟩
    · rw [at_i c] at e
      obtain ⟨a, K', b, d⟩ := S.sit i k hi e
      exact ⟨by omega, K', b, fun d' hd => stays (d d' hd)⟩
  · by_cases c : k = n
    · exact ⟨j, jm, by rw [c]; exact at_j⟩
    · obtain ⟨i, hi, e⟩ := S.each k (by omega)
      exact ⟨i, hi, by rw [at_i (fun z => by rw [z, k2] at e; cases e)]; exact e⟩
  · by_cases c : i = j
    · by_cases c' : i' = j
      · rw [c, c']
      · rw [c, at_j] at e
        rw [at_i c'] at e'
        cases e
        exact absurd (S.sit i' n hi' e').1 (Nat.lt_irrefl _)
    · by_cases c' : i' = j
      · rw [c', at_j] at e'
        rw [at_i c] at e
        cases e'
        exact absurd (S.sit i n hi e).1 (Nat.lt_irrefl _)
      · rw [at_i c] at e
        rw [at_i c'] at e'
        exact S.once i i' k hi hi' e e'
theorem seat_all (R : Round m) (hl : hs.length ≤ m) : ∀ (rest : List Int) (n : Nat) (ow : Array (Option Nat)), n ≤ hs.length → hs.drop n = rest → Seat m hs n ow →
    ∃ ow', rest.foldl (stepF m) (some (ow, n)) = some (ow', hs.length) ∧ Seat m hs hs.length ow'
  | [], n, ow, hn, e, S => by
    have : n = hs.length := by
      have z := congrArg List.length e
      rw [List.length_drop] at z
      simp at z
      omega
    subst this
    exact ⟨ow, rfl, S⟩
  | h :: rest, n, ow, hn, e, S => by
    have ln : n < hs.length := by
      have z := congrArg List.length e
      rw [List.length_drop, List.length_cons] at z
      omega
    rw [List.drop_eq_getElem_cons ln] at e
    injection e with e1 e2
    obtain ⟨j, ef, S'⟩ := S.next R (by omega) (h := h) (by rw [List.getD_eq_getElem?_getD, List.getElem?_eq_getElem ln]; exact e1)
    rw [List.foldl_cons, stepF_some ef]
    exact seat_all R hl rest (n + 1) _ ln e2 S'
end
theorem relaid_laid (t : SetTable) {hs : Array Int} {wanted M : Nat} (hw : SetTable.sizeAbove wanted - 1 = M) (R : Round M) (hn : hs.size ≤ M) :
    ∃ t' order, t.relaid hs wanted = some (t', order) ∧ order.toList.Perm (List.range hs.size) ∧ Laid t' (order.toList.map fun i => hs.getD i 0) ∧ t'.mask = M ∧ t'.led = t.led ∧ t'.plain = t.plain := by
  have S0 : Seat M hs.toList 0 (Array.replicate (M + 1) none) := ⟨by simp, fun j k hj e => (by rw [oAt_init hj] at e; cases e), fun k hk => absurd hk (Nat.not_lt_zero _), fun i j k hi hj e => (by rw [oAt_init hi] at e; cases e)⟩
  obtain ⟨ow, ef, S⟩ := seat_all R (by rw [Array.length_toList]; exact hn) hs.toList 0 _ (Nat.zero_le _) rfl S0
  have ec : SetTable.layClean M hs = some ow := by rw [layClean_eq, ef]; rfl
  have rs := ris_live (fun j => ow.getD j none) (List.range (M + 1)) (by unfold Ris; first | exact List.pairwise_lt_range | exact List.pairwise_lt_range _)
  have r1 : Ris ((liveOf M ow).map (·.1)) := rs.1
  have mem : ∀ {j k : Nat}, (j, k) ∈ liveOf M ow ↔ j ≤ M ∧ oAt ow j = some k := mem_live S.size
  have nd1 : ((liveOf M ow).map (·.1)).Nodup := List.Pairwise.imp (fun h => Nat.ne_of_lt h) r1
  have nd2 : ((liveOf M ow).map (·.2)).Nodup := by
    unfold List.Nodup at nd1 ⊢
    rw [List.pairwise_map] at nd1 ⊢
    refine List.Pairwise.imp_of_mem (fun {a b} ha hb ne z => ne ?_) nd1
    obtain ⟨a1, a2⟩ := a
    obtain ⟨b1, b2⟩ := b
    have z : a2 = b2 := z
    subst z
    have qa := mem.mp ha
    have qb := mem.mp hb
    exact S.once a1 b1 a2 qa.1 qb.1 qa.2 qb.2
  have pm : ((liveOf M ow).map (·.2)).Perm (List.range hs.size) := by
    rw [List.perm_ext_iff_of_nodup nd2 List.nodup_range]
    intro k
    rw [List.mem_range]
    constructor
    · intro z
      obtain ⟨⟨j, k'⟩, hq, rfl⟩ := List.mem_map.mp z
      have q := mem.mp hq
      have := (S.sit j k' q.1 q.2).1
      rw [Array.length_toList] at this
      exact this
    · intro z
      obtain ⟨j, hj, e⟩ := S.each k (by rw [Array.length_toList]; exact z)
      exact List.mem_map.mpr ⟨(j, k), mem.mpr ⟨hj, e⟩, rfl⟩
  refine ⟨tabOf t M ow, ((liveOf M ow).map (·.2)).toArray, by rw [relaid_eq, hw, ec]; rfl, pm, ⟨r1, rfl, ?_, R, fun x hx => ?_, fun q hq => ?_⟩, rfl, rfl, rfl⟩
  · show ((liveOf M ow).map (·.1)).length = (((liveOf M ow).map (·.2)).map _).length
    rw [List.length_map, List.length_map, List.length_map]
  · obtain ⟨⟨j, k⟩, hq, rfl⟩ := List.mem_map.mp (show x ∈ (liveOf M ow).map (·.1) from hx)
    exact (mem.mp hq).1
  · have hq : q ∈ ((liveOf M ow).map (·.1)).zip (((liveOf M ow).map (·.2)).map fun i => hs.getD i 0) := hq
    rw [List.map_map, List.zip_map'] at hq
    obtain ⟨⟨j, k⟩, hm, rfl⟩ := List.mem_map.mp hq
    have q := mem.mp hm
    obtain ⟨_, K, e1, e2⟩ := S.sit j k q.1 q.2
    have eg : hs.toList.getD k 0 = hs.getD k 0 := by
      rw [List.getD_eq_getElem?_getD, Array.getD_eq_getD_getElem?, Array.getElem?_toList]
    rw [eg] at e1 e2
    refine ⟨K, e1, fun d hd => ?_⟩
    show way M (hs.getD k 0) d ∈ (liveOf M ow).map (·.1)
    cases z : oAt ow (way M (hs.getD k 0) d) with
    | none => exact absurd z (e2 d hd)
    | some k2 => exact List.mem_map.mpr ⟨(_, k2), mem.mpr ⟨way_in _ _ _, z⟩, rfl⟩
end J
namespace J
open PySem PySem.Spec L2 PyProof.Rows
/-! sets of int tuples, up to three hundred and five of them -/
structure SetW (P : Program) (w : World) (h : Heap) (a : Addr) (L : List (Addr × List Int)) (es : Array (Int × Value)) (ep : Nat) (t : SetTable) : Prop where
  ob : ∃ o, h.get? a = some o ∧ o.ExactSet ∧ o.data = .set es ep t
  rows : es.toList = L2.rowsOf P w L
  tab : Laid t (L.map fun q => thash P w q.2)
  msk : t.mask = 7 ∨ t.mask = 31 ∨ t.mask = 127 ∨ t.mask = 511
  nd : (L.map (·.2)).Nodup
  tup : ∀ q ∈ L, IsT P w h q.2 q.1
  plain : t.plain = true
  led : w.params.followText "set-order" = true ∨ t.led = true
  room : L.length * 5 < t.mask * 3
section
variable {P : Program} {w : World} {A : Around} {E : Value → Shared → Prop} {s : Shared} {h : Heap} {a : Addr} {L : List (Addr × List Int)} {es : Array (Int × Value)} {ep : Nat} {t : SetTable}
theorem laid_of {hs : List Int} (T : TabOk t hs) : Laid t hs := ⟨T.ris, T.dm, by rw [Array.length_toList]; exact T.sz, round_of T.mok, T.bd, fun q hq => by
  obtain ⟨i, e⟩ := List.mem_iff_getElem?.mp hq
  have z := List.getElem?_zip_eq_some.mp e
  exact T.reach i q.2 q.1 z.2 z.1⟩
theorem SetW.of (R : SetTR P w h a L es ep t) : SetW P w h a L es ep t := ⟨R.ob, R.rows, laid_of R.tab, by have := R.tab.mok; unfold MaskOk at this; omega, R.nd, R.tup, R.plain, R.led, R.room⟩
theorem SetW.size (R : SetW P w h a L es ep t) : es.size = L.length := by
  rw [← Array.length_toList, R.rows]
  exact List.length_map ..
theorem SetW.places (R : SetW P w h a L es ep t) : t.place.size = L.length := by
  have z := R.tab.many
  rwa [List.length_map, Array.length_toList] at z
theorem SetW.fits (R : SetW P w h a L es ep t) : t.fits es.size = true := by
  have a1 := R.places
  have a2 := R.size
  have a3 := R.room
  have e : t.fill = L.length := by
    unfold SetTable.fill
    rw [R.tab.bare, a1]
    rfl
  unfold SetTable.fits
  rw [Bool.and_eq_true]
  exact ⟨by rw [a1, a2]; exact beq_self_eq_true _, decide_eq_true (by rw [e]; omega)⟩
theorem SetW.row (R : SetW P w h a L es ep t) {i : Nat} {q : Addr × List Int} (e : L[i]? = some q) : es[i]? = some (thash P w q.2, Value.ref q.1) := by
  have z : es.toList[i]? = (L[i]?).map fun q => (thash P w q.2, Value.ref q.1) := by
    rw [R.rows]
    exact List.getElem?_map
  rw [Array.getElem?_toList] at z
  rw [z, e]
  rfl
theorem SetW.keep {h' : Heap} (R : SetW P w h a L es ep t) (k : ∀ o, h.get? a = some o → h'.get? a = some o) (kt : ∀ q ∈ L, IsT P w h' q.2 q.1) : SetW P w h' a L es ep t := by
  obtain ⟨o, e, r⟩ := R.ob
  exact ⟨⟨o, k o e, r⟩, R.rows, R.tab, R.msk, R.nd, kt, R.plain, R.led, R.room⟩
/-- where the way stands behind c steps -/
abbrev spot (m : Nat) (H : Int) (c : Nat) : SetTable.Probe := nth m (runAt m (SetTable.bits H % (m + 1)) (SetTable.bits H)) c
theorem spot_plain (m : Nat) (H : Int) : ∀ c, (spot m H c).dummy = none
  | 0 => rfl
  | c + 1 => by
    have ih := spot_plain m H c
    show (nth m _ (c + 1)).dummy = none
    rw [nth_succ]
    unfold adv
    split
    · exact ih
    · exact ih
theorem spot_go (m : Nat) (H : Int) (c d : Nat) : nth m (spot m H c) d = spot m H (c + d) := (nth_add m c _ d).symm
/-- what is met from the c-th step on -/
theorem SetW.meet (R : SetW P w h a L es ep t) {H : Int} {K c : Nat} (hc : c ≤ K) (hf : K < 10 * SetTable.turns t.mask) (hK : way t.mask H K ∉ t.place.toList) (hb : ∀ d, d < K → way t.mask H d ∈ t.place.toList) (ha : Nat → Int) :
    (∃ d i, c ≤ d ∧ d < K ∧ t.place.toList[i]? = some (way t.mask H d) ∧ ha i = H ∧ (∀ d' i', c ≤ d' → d' < d → t.place.toList[i']? = some (way t.mask H d') → ha i' ≠ H) ∧ t.probe ha H (spot t.mask H c) = some (.candidate (way t.mask H d) i (spot t.mask H (d + 1)))) ∨
    ((∀ d' i', c ≤ d' → d' < K → t.place.toList[i']? = some (way t.mask H d') → ha i' ≠ H) ∧ t.probe ha H (spot t.mask H c) = some (.empty (way t.mask H K) none)) := by
  have end_ : c + (K - c) = K := by omega
  have sp := go_spec t R.tab.up R.tab.bare ha H (10 * SetTable.turns t.mask) (K - c) (spot t.mask H c) (spot_plain _ _ _) (by omega)
    (fun d hd => by rw [spot_go]; exact hb _ (by omega)) (by rw [spot_go, end_]; exact hK)
  have back : ∀ {u : Nat}, (∀ d' i', d' < u → t.place.toList[i']? = some (nth t.mask (spot t.mask H c) d').j → ha i' ≠ H) → ∀ d' i', c ≤ d' → d' < c + u → t.place.toList[i']? = some (way t.mask H d') → ha i' ≠ H := by
    intro u z d' i' h1 h2 h3
    refine z (d' - c) i' (by omega) ?_
    rw [spot_go, show c + (d' - c) = d' by omega]
    exact h3
  rcases sp with ⟨d, i, h1, h2, h3, h4, h5⟩ | ⟨h4, h5⟩
  · refine .inl ⟨c + d, i, by omega, by omega, by rw [spot_go] at h2; exact h2, h3, back h4, ?_⟩
    rw [spot_go, spot_go] at h5
    exact h5
  · refine .inr ⟨fun d' i' z1 z2 => back h4 d' i' z1 (by omega), ?_⟩
    rw [spot_go, end_] at h5
    exact h5
theorem SetW.seek (R : SetW P w s.heap a L es ep t) {x : Addr} {k : List Int} (hx : IsT P w s.heap k x) (hu : A.units < cLine) {K : Nat} (hf : K < 10 * SetTable.turns t.mask) (hK : way t.mask (thash P w k) K ∉ t.place.toList) (hb : ∀ d, d < K → way t.mask (thash P w k) d ∈ t.place.toList)
    {Q : SetFound → Shared → Prop} (yes : k ∈ L.map (·.2) → Q (.there none) s) (no : k ∉ L.map (·.2) → Q (.free (way t.mask (thash P w k) K) false) s) :
    ∀ (n c : Nat) (st : Option SetTable.Probe), c ≤ K → K < c + n → st.getD (t.probeStart (thash P w k)) = spot t.mask (thash P w k) c →
      (∀ (i : Nat) (q : Addr × List Int), L[i]? = some q → q.2 = k → ∃ d, c ≤ d ∧ d < K ∧ t.place.toList[i]? = some (way t.mask (thash P w k) d)) →
      wpAny (model P w) A (setSearchFrom a (.ref x) (thash P w k) true n st) Q E s := by
  obtain ⟨o, eo, ex, ed⟩ := R.ob
  intro n
  induction n with
  | zero => intro c st h1 h2; omega
  | succ n ih =>
    intro c st h1 h2 h3 h4
    rw [setSearchFrom_succ]
    refine wpAny_bind (wpAny_setState_of eo ed R.fits ?_)
    dsimp only
    have calm : ¬ t.gaveWay = true := by
      unfold SetTable.gaveWay
      rw [R.tab.rnd.odd]
      decide
    refine wp_if_neg calm ?_
    try refine wpAny_bind (wpAny_pure ?_)
    rw [h3]
    have hashes : ∀ (i : Nat) q, L[i]? = some q → (es[i]?.map (·.1)).getD 0 = thash P w q.2 := fun i q e => by rw [R.row e]; rfl
    rcases R.meet h1 hf hK hb (fun i => (es[i]?.map (·.1)).getD 0) with ⟨d, i, m1, m2, m3, m4, m5, m6⟩ | ⟨m5, m6⟩
    · rw [m6]
      dsimp only
      have il : i < L.length := by
        have z := (List.getElem?_eq_some_iff.mp m3).1
        rw [Array.length_toList, R.places] at z
        exact z
      obtain ⟨q, eq⟩ : ∃ q, L[i]? = some q := ⟨_, List.getElem?_eq_getElem il⟩
      have hq := R.tup q (List.mem_of_getElem? eq)
      have live := slot_live R.tab.up m3
      have tail : wpAny (model P w) A (searchRest a (.ref x) (thash P w k) true n es t (way t.mask (thash P w k) d) i (spot t.mask (thash P w k) (d + 1))) Q E s := by
        unfold searchRest
        rw [R.row eq]
        dsimp only
        refine wpAny_bind (wpAny_holding (wpAny_eqBool_tuple hu hq hx ?_))
        refine wpAny_bind (wpAny_setState_of eo ed R.fits ?_)
        dsimp only
        by_cases same : q.2 = k
        · refine wp_if_pos (by simp [same]) (wpAny_pure (yes ?_))
          exact List.mem_map.mpr ⟨q, List.mem_of_getElem? eq, same⟩
        · refine wp_if_neg (by simp [same]) ?_
          try refine wpAny_bind (wpAny_pure ?_)
          rw [sameMem]
          dsimp only
          simp only [if_true, live, R.row eq]
          refine wpAny_bind (wpAny_isSame_ref_self (wpAny_bind (wpAny_pure ?_)))
          simp only [if_true]
          refine wp_if_neg (by simp [same]) ?_
          refine ih (d + 1) _ (by omega) (by omega) rfl fun i0 q0 e0 k0 => ?_
          obtain ⟨d0, c1, c2, c3⟩ := h4 i0 q0 e0 k0
          refine ⟨d0, ?_, c2, c3⟩
          rcases Nat.lt_trichotomy d0 d with z | z | z
          · exact absurd ((hashes i0 q0 e0).trans (by rw [k0])) (m5 d0 i0 c1 z c3)
          · subst z
            have l2 := slot_live R.tab.up c3
            rw [live] at l2
            injection l2 with l2
            rw [← l2, eq] at e0
            cases e0
            exact absurd k0 same
          · exact z
      cases lc : t.led with
      | true =>
        refine wp_if_neg (by simp) ?_
        try refine wpAny_bind (wpAny_pure ?_)
        exact tail
      | false =>
        refine wp_if_pos (by simp) ?_
        refine wpAny_bind (seen_tup hx (fun y hy => ?_) (wp_if_neg (by decide) ?_))
        · obtain ⟨e, he, rfl⟩ := List.mem_map.mp hy
          have m : e ∈ L2.rowsOf P w L := by
            rw [← R.rows]
            have z := (Array.mem_filter.mp (Array.mem_def.mpr he)).1
            exact Array.mem_def.mp z
          obtain ⟨q2, h5, rfl⟩ := List.mem_map.mp m
          exact ⟨q2.2, q2.1, rfl, R.tup q2 h5⟩
        · try refine wpAny_bind (wpAny_pure ?_)
          exact tail
    · rw [m6]
      dsimp only
      refine wpAny_pure (no fun hm => ?_)
      obtain ⟨q0, e0, k0⟩ := List.mem_map.mp hm
      obtain ⟨i0, hi0, ei0⟩ := List.getElem_of_mem e0
      have e1 : L[i0]? = some q0 := by rw [List.getElem?_eq_getElem hi0, ei0]
      obtain ⟨d0, c1, c2, c3⟩ := h4 i0 q0 e1 k0
      exact m5 d0 i0 c1 c2 c3 ((hashes i0 q0 e1).trans (by rw [k0]))
theorem SetW.search (R : SetW P w s.heap a L es ep t) {x : Addr} {k : List Int} (hx : IsT P w s.heap k x) (hu : A.units < cLine) {Q : SetFound → Shared → Prop} (yes : k ∈ L.map (·.2) → Q (.there none) s)
    (no : ∀ K, k ∉ L.map (·.2) → way t.mask (thash P w k) K ∉ t.place.toList → (∀ d, d < K → way t.mask (thash P w k) d ∈ t.place.toList) → Q (.free (way t.mask (thash P w k) K) false) s) : wpAny (model P w) A (setSearch a (.ref x) (thash P w k) true) Q E s := by
  have rm := R.room
  obtain ⟨K, h1, h2, h3⟩ := R.tab.first (by rw [List.length_map]; omega) (thash P w k)
  have small : K < 100000 := by
    have z : SetTable.turns t.mask ≤ 600 := by
      unfold SetTable.turns
      have := R.tab.rnd.low
      omega
    omega
  unfold setSearch
  refine R.seek hx hu h1 h2 h3 yes (fun z => no K z h2 h3) 100000 0 none (Nat.zero_le _) (by omega) rfl fun i q e ek => ?_
  have il := (List.getElem?_eq_some_iff.mp e).1
  have ip : i < t.place.toList.length := by rw [Array.length_toList, R.places]; exact il
  obtain ⟨d, c1, c2⟩ := R.tab.ahead h2 (i := i) (h := thash P w k) (by rw [List.getElem?_map, e, ← ek]; rfl) (List.getElem?_eq_getElem ip)
  exact ⟨d, Nat.zero_le _, c1, by rw [c2]; exact List.getElem?_eq_getElem ip⟩
theorem size_512 : SetTable.sizeAbove (SetTable.grown 77) = 512 := by decide +kernel
/-- the larger table -/
theorem SetW.wider {o : Obj} (eo : s.heap.get? a = some o) (ex : o.ExactSet) (ed : o.data = .set es ep t) (rows : es.toList = L2.rowsOf P w L) (T : Laid t (L.map fun q => thash P w q.2)) (nd : (L.map (·.2)).Nodup) (tup : ∀ q ∈ L, IsT P w s.heap q.2 q.1) (pl : t.plain = true) (ld : w.params.followText "set-order" = true ∨ t.led = true)
    (room : L.length ≤ t.mask) {wanted M : Nat} (hw : SetTable.sizeAbove wanted - 1 = M) (hM : Round M) (hk : M = 7 ∨ M = 31 ∨ M = 127 ∨ M = 511) (hn : L.length * 5 < M * 3) {Q : Unit → Shared → Prop}
    (hQ : ∀ h' L' es' ep' t', Heap.SameBut a s.heap h' → SetW P w h' a L' es' ep' t' → L'.Perm L → Q () { s with heap := h' }) : wpAny (model P w) A (setRelay a wanted) Q E s := by
  have se : es.size = L.length := by rw [← Array.length_toList, rows]; exact List.length_map ..
  have sp : t.place.size = L.length := by have z := T.many; rwa [List.length_map, Array.length_toList] at z
  have fits : t.fits es.size = true := by
    have e : t.fill = L.length := by unfold SetTable.fill; rw [T.bare, sp]; rfl
    unfold SetTable.fits
    rw [Bool.and_eq_true]
    exact ⟨by rw [sp, se]; exact beq_self_eq_true _, decide_eq_true (by rw [e]; exact room)⟩
  obtain ⟨t', order, e, pm, T', em, el, ep'⟩ := relaid_laid t (hs := es.map (·.1)) hw hM (by rw [Array.size_map, se]; omega)
  rw [Array.size_map, se] at pm
  obtain ⟨L', r1, r2, r3⟩ := order_rows L es order rows pm
  have s2 : (order.filterMap (es[·]?)).size = L.length := by
    rw [← Array.length_toList, r1, ← r2.length_eq]
    exact List.length_map ..
  rw [setRelay_eq]
  refine wpAny_bind (wpAny_setState_of eo ed fits ?_)
  dsimp only
  refine wp_if_neg (by rw [sizeLine_eq]; omega) ?_
  try refine wpAny_bind (wpAny_pure ?_)
  rw [e]
  dsimp only
  refine wpAny_bind ?_
  refine wp_if_neg (by rw [s2, se]; simp) ?_
  try refine wpAny_bind (wpAny_pure ?_)
  refine wpAny_pure ?_
  dsimp only
  refine wpAny_storeSet_of eo ed ?_ (by rw [s2, sizeLine_eq]; omega)
  have sb : Heap.SameBut a s.heap (s.heap.update a (Obj.putSet (order.filterMap (es[·]?)) t')) := Heap.SameBut.update ..
  exact hQ _ L' _ (ep + 1) t' sb ⟨⟨_, L2.store_at eo ed, ⟨ex.1, ex.2.1, ex.2.2⟩, rfl⟩, r1, r3 ▸ T', by rw [em]; exact hk, (r2.map (·.2)).nodup_iff.mpr nd, fun q hq => isT_same (tup q (r2.mem_iff.mp hq)) eo ed sb, by rw [ep']; exact pl, by rw [el]; exact ld, by rw [r2.length_eq, em]; exact hn⟩ r2
/-- one more -/
theorem SetW.add (R : SetW P w s.heap a L es ep t) {x : Addr} {k : List Int} (hx : IsT P w s.heap k x) (hu : A.units < cLine) (few : L.length < 306) {Q : Bool → Shared → Prop}
    (hQ : ∀ b h' L' es' ep' t', Heap.SameBut a s.heap h' → SetW P w h' a L' es' ep' t' → (k ∈ L.map (·.2) → L' = L) → (k ∉ L.map (·.2) → L'.Perm ((x, k) :: L)) → Q b { s with heap := h' }) :
    wpAny (model P w) A (setAddHashed a (.ref x) (thash P w k)) Q E s := by
  obtain ⟨o, eo, ex, ed⟩ := R.ob
  have rm := R.room
  have msk := R.msk
  unfold setAddHashed
  refine wpAny_holding ?_
  rw [show (100000 : Nat) = 99999 + 1 from rfl, setAddHashedIn_succ]
  refine wpAny_bind (wpAny_setState_of eo ed R.fits ?_)
  dsimp only
  refine wp_if_neg (by simp [byScan, Value.scannable]) ?_
  try refine wpAny_bind (wpAny_pure ?_)
  refine wpAny_bind (R.search hx hu (fun hm => ?_) fun K hm h1 h2 => ?_)
  · dsimp only
    exact wpAny_pure (hQ false s.heap L es ep t (Heap.SameBut.refl a _) R (fun _ => rfl) fun z => absurd hm z)
  · dsimp only
    refine wpAny_bind (wpAny_setState_of eo ed R.fits ?_)
    dsimp only
    obtain ⟨p3, p9⟩ := R.tab.put rfl h1 h2
    rw [List.length_map] at p9
    have p4 : (t.put (way t.mask (thash P w k) K)).1.mask = t.mask := rfl
    have p5 : (t.put (way t.mask (thash P w k) K)).1.led = t.led := rfl
    have p6 : (t.put (way t.mask (thash P w k) K)).1.plain = t.plain := rfl
    have p1 : (t.put (way t.mask (thash P w k) K)).2 = SetTable.below t.place (way t.mask (thash P w k) K) := rfl
    have rw' : (SetTable.insertAt es (t.put (way t.mask (thash P w k) K)).2 (thash P w k, Value.ref x)).toList = L2.rowsOf P w (L.take (t.put (way t.mask (thash P w k) K)).2 ++ (x, k) :: L.drop (t.put (way t.mask (thash P w k) K)).2) := by
      rw [SetTable.toList_insertAt, rows_put, R.rows]
    rw [← p1] at p3
    generalize t.put (way t.mask (thash P w k) K) = pt at p1 p3 p4 p5 p6 p9 rw' ⊢
    obtain ⟨t1, p⟩ := pt
    dsimp only at p1 p3 p4 p5 p6 p9 rw' ⊢
    have pl1 : t1.plain = true := p6.trans R.plain
    first
      | (refine wpAny_bind ?_; refine wp_if_pos pl1 ?_; refine hashBy_tup hx ?_)
      | refine wp_if_pos pl1 (wpAny_bind (hashBy_tup hx ?_))
    simp only [if_true]
    have pm := put_perm L p (x, k)
    have e3 : (L.map fun q => thash P w q.2).take p ++ thash P w k :: (L.map fun q => thash P w q.2).drop p = (L.take p ++ (x, k) :: L.drop p).map fun q => thash P w q.2 := by
      rw [List.map_append, List.map_cons, List.map_take, List.map_drop]
    rw [e3] at p3
    generalize L.take p ++ (x, k) :: L.drop p = M at pm p3 rw'
    have len : M.length = L.length + 1 := by rw [pm.length_eq]; rfl
    have len2 : (SetTable.insertAt es p (thash P w k, Value.ref x)).size = L.length + 1 := by
      rw [← Array.length_toList, rw', ← len]
      exact List.length_map ..
    have les : es.size = L.length := R.size
    generalize SetTable.insertAt es p (thash P w k, Value.ref x) = es1 at rw' len2 ⊢
    refine wpAny_bind (wpAny_storeSet_of eo ed ?_ (by rw [len2, sizeLine_eq]; omega))
    have sb : Heap.SameBut a s.heap (s.heap.update a (Obj.putSet es1 t1)) := Heap.SameBut.update ..
    have eo1 := L2.store_at (es' := es1) (t' := t1) eo ed
    generalize s.heap.update a (Obj.putSet es1 t1) = h1 at sb eo1 ⊢
    have nd1 : (M.map (·.2)).Nodup := by
      refine (pm.map (·.2)).nodup_iff.mpr ?_
      rw [List.map_cons]
      exact List.nodup_cons.mpr ⟨hm, R.nd⟩
    have tup1 : ∀ q ∈ M, IsT P w h1 q.2 q.1 := fun q hq => by
      rcases List.mem_cons.mp (pm.mem_iff.mp hq) with e | e
      · rw [e]; exact isT_same hx eo ed sb
      · exact isT_same (R.tup q e) eo ed sb
    have ld1 : w.params.followText "set-order" = true ∨ t1.led = true := by rw [p5]; exact R.led
    by_cases c : (L.length + 1) * 5 < t.mask * 3
    · have notFull : ¬ (!false && t1.tooFull) = true := by
        unfold SetTable.tooFull
        rw [p9, p4]
        simp
        omega
      first
        | refine wp_if_neg notFull ?_
        | (refine wpAny_bind ?_; refine wp_if_neg notFull ?_; refine wpAny_pure ?_)
      exact wpAny_pure (hQ true h1 M es1 (ep + 1) t1 sb ⟨⟨_, eo1, ⟨ex.1, ex.2.1, ex.2.2⟩, rfl⟩, rw', p3, by rw [p4]; exact msk, nd1, tup1, pl1, ld1, by rw [len, p4]; exact c⟩ (fun z => absurd z hm) fun _ => pm)
    · have full : (!false && t1.tooFull) = true := by
        unfold SetTable.tooFull
        rw [p9, p4]
        simp
        omega
      obtain ⟨N, w1, w2, w3, w4⟩ : ∃ N, SetTable.sizeAbove (SetTable.grown (L.length + 1)) - 1 = N ∧ Round N ∧ (N = 7 ∨ N = 31 ∨ N = 127 ∨ N = 511) ∧ (L.length + 1) * 5 < N * 3 := by
        have three : L.length = 4 ∨ L.length = 18 ∨ L.length = 76 := by omega
        rcases three with e | e | e
        · exact ⟨31, by rw [e, size_20], round_of (.inr (.inl rfl)), by omega, by omega⟩
        · exact ⟨127, by rw [e, size_76], round_of (.inr (.inr rfl)), by omega, by omega⟩
        · exact ⟨511, by rw [e, size_512], round511, by omega, by omega⟩
      first
        | (refine wpAny_bind ?_; refine wp_if_pos full ?_)
        | (refine wp_if_pos full ?_; refine wpAny_bind ?_)
      rw [les]
      refine SetW.wider (s := { s with heap := h1 }) eo1 ⟨ex.1, ex.2.1, ex.2.2⟩ rfl rw' p3 nd1 tup1 pl1 ld1 (by rw [len, p4]; omega) w1 w2 w3 (by rw [len]; exact w4) fun h2 L2' es2 ep2 t2 sb2 R2 pm2 => ?_
      exact wpAny_pure (hQ true h2 L2' es2 ep2 t2 (sb.trans sb2) R2 (fun z => absurd z hm) fun _ => pm2.trans pm)
end
end J
namespace J
open PySem PySem.Spec L2 PyProof.Rows
/-! set(xs) of tuples, sorted(..): few of them are unlike -/
theorem few_of {D M : List (List Int)} (hM : M.Nodup) (hs : ∀ x ∈ M, x ∈ D) : M.length ≤ D.length := by
  induction M generalizing D with
  | nil => exact Nat.zero_le _
  | cons x xs ih =>
    have hx : x ∈ D := hs x List.mem_cons_self
    rw [List.nodup_cons] at hM
    have q := ih (D := D.erase x) hM.2 fun y hy => (List.mem_erase_of_ne (fun (e : y = x) => hM.1 (e ▸ hy))).mpr (hs y (List.mem_cons_of_mem _ hy))
    rw [List.length_erase_of_mem hx] at q
    have : 0 < D.length := List.length_pos_of_mem hx
    rw [List.length_cons]; omega
/-- what the set holds behind the first i items -/
structure Held (ks : List (Addr × List Int)) (i : Nat) (L : List (Addr × List Int)) : Prop where
  sub : ∀ q ∈ L, q ∈ ks.take i
  all : ∀ q ∈ ks.take i, q.2 ∈ L.map (·.2)
theorem Held.next {ks L L' : List (Addr × List Int)} {i : Nat} {x : Addr × List Int} (g : Held ks i L) (h : ks[i]? = some x) (c1 : x.2 ∈ L.map (·.2) → L' = L) (c2 : x.2 ∉ L.map (·.2) → L'.Perm (x :: L)) : Held ks (i + 1) L' := by
  have et : ks.take (i + 1) = ks.take i ++ [x] := by rw [List.take_add_one, h]; rfl
  by_cases m : x.2 ∈ L.map (·.2)
  · rw [c1 m]
    constructor
    · intro q hq; rw [et]; exact List.mem_append_left _ (g.sub q hq)
    · intro q hq
      rw [et] at hq
      rcases List.mem_append.mp hq with z | z
      · exact g.all q z
      · rw [List.mem_singleton] at z; rw [z]; exact m
  · have pm := c2 m
    constructor
    · intro q hq
      rw [et]
      rcases List.mem_cons.mp (pm.mem_iff.mp hq) with z | z
      · exact List.mem_append_right _ (by rw [z]; exact List.mem_singleton.mpr rfl)
      · exact List.mem_append_left _ (g.sub q z)
    · intro q hq
      rw [(pm.map (·.2)).mem_iff, List.map_cons]
      rw [et] at hq
      rcases List.mem_append.mp hq with z | z
      · exact List.mem_cons_of_mem _ (g.all q z)
      · rw [List.mem_singleton] at z; rw [z]; exact List.mem_cons_self
end J
namespace J
open PySem PySem.Spec PySem.W L2 PyProof.Rows
/-! the order of ints, and of tuples of ints -/
end J
namespace J
open PySem PySem.W L2
end J
namespace J
open PySem PySem.W L2
end J
namespace J
open PySem PySem.W L2
theorem nodup_eraseDups_n : ∀ (n : Nat) (l : List (List Int)), l.length ≤ n → l.eraseDups.Nodup
  | _, [], _ => by simp
  | 0, _ :: _, h => by simp at h
  | n + 1, a :: l, h => by
    rw [List.eraseDups_cons, List.nodup_cons]
    refine ⟨fun z => ?_, nodup_eraseDups_n n _ (Nat.le_trans (List.length_filter_le _ _) (by simpa using h))⟩
    rw [List.mem_eraseDups, List.mem_filter] at z
    simp at z
theorem nodup_eraseDups (l : List (List Int)) : l.eraseDups.Nodup := nodup_eraseDups_n _ l (Nat.le_refl _)
end J
namespace J
open PySem L2
/-! dicts with tuples as keys, by value -/
def getD : List (List Key) → List VV → List Key → Option VV
  | k' :: ks, v :: vs, k => if k' = k then some v else getD ks vs k
  | _, _, _ => none
section
variable {X : Cx} {W : WX}
/-- d[k] = v, d a root -/
def setD (h : VH) (o i v : VV) : Option VH := match o with
  | .obj n => match h[n]? with
    | some (.dT ks vs) => (keyV i).bind fun k => if v.isObj = true ∨ ks.length ≥ SZ then none else some (h.set n (.dT (putKs ks k) (putVs ks vs k v)))
    | _ => none
  | _ => none
def sSetD (o i e : EF) : SF := fun ρ h => (e ρ h).st ρ fun v h1 => (o ρ h1).st ρ fun ov h2 => (i ρ h2).st ρ fun iv h3 => match setD h3 ov iv v with
  | some h4 => .nx ρ h4
  | none => .no
def keyB : Key → VV
  | .inl i => .int i
  | .inr x => .str x
end
end J
namespace J
open PySem L2
/-! instances -/
def lookN : List Str → List VV → Str → Option VV
  | n :: ns, v :: vs, f => if n = f then some v else lookN ns vs f
  | _, _, _ => none
def insOf (h : VH) : VV → Option (Str × List Str × List VV)
  | .ins c ns vs => some (c, ns, vs)
  | .obj n => match h[n]? with
    | some (.ins c ns vs) => some (c, ns, vs)
    | some (.fzn (.ins c ns vs)) => some (c, ns, vs)
    | _ => none
  | _ => none
theorem insOf_get {c : Ct} {g : Gh} {h : VH} {H : Hp} {v : VV} {u : V} {a : Str × List Str × List VV} (rh : RH c g h H) (rv : RT c g H v u) (e : insOf h v = some a) : ∃ p C dx us, u = .ref p ∧ c.mg a.1 = some (.ref C) ∧ H p = some (.ins C dx (a.2.1.zip us)) ∧ a.2.1.length = us.length ∧ RTs c g H a.2.2 us := by
  cases v with
  | ins x ns vs =>
    cases e
    have q := rv.rv rfl
    rw [RV] at q
    obtain ⟨p, C, dx, us, a, b, m, d, l, r⟩ := q
    exact ⟨p, C, dx, us, a, m, d, l, RTs.of_rvs r⟩
  | obj n =>
    obtain ⟨b, ea, eu⟩ := rv
    unfold insOf at e
    simp only at e
    split at e
    · rename_i x ns vs en
      cases e
      obtain ⟨_, C, dx, us, m, d, l, r⟩ := rh.at' n _ b en ea
      exact ⟨b, C, dx, us, eu, m, d, l, r⟩
    · rename_i x ns vs en
      cases e
      obtain ⟨_, q⟩ := rh.at' n _ b en ea
      rw [RV] at q
      obtain ⟨p, C, dx, us, z, y, m, d, l, r⟩ := q
      cases z
      exact ⟨b, C, dx, us, eu, m, d, l, RTs.of_rvs r⟩
    · cases e
  | _ => cases e
theorem lookup_cons_pos {f : Str} {n : Str} {u : V} {r : List (Str × V)} (e : n = f) : ((n, u) :: r).lookup f = some u := by
  subst e; simp
theorem lookup_cons_neg {f : Str} {n : Str} {u : V} {r : List (Str × V)} (e : ¬ n = f) : ((n, u) :: r).lookup f = r.lookup f := by
  have : (f == n) = false := by simpa using fun z => e z.symm
  simp [List.lookup_cons, this]
theorem lookN_val {c : Ct} {g : Gh} {H : Hp} {f : Str} : ∀ {ns : List Str} {vs : List VV} {us : List V}, ns.length = us.length → RTs c g H vs us → (∀ v, lookN ns vs f = some v → ∃ u, (ns.zip us).lookup f = some u ∧ RT c g H v u) ∧ (lookN ns vs f = none → (ns.zip us).lookup f = none)
  | [], vs, us, _, _ => ⟨fun v e => by simp [lookN] at e, fun _ => rfl⟩
  | x :: ns, vs, us, hl, r => by
    cases us with
    | nil => cases hl
    | cons u us =>
      cases vs with
      | nil =>
        have := RTs.len r
        simp at this
      | cons y vs =>
        obtain ⟨a1, a2, e1, a3, a4⟩ := r
        cases e1
        have ih := lookN_val (f := f) (Nat.succ.inj hl) a4
        unfold lookN
        rw [List.zip_cons_cons]
        by_cases ex : x = f
        · rw [if_pos ex, lookup_cons_pos ex]
          exact ⟨fun v e => by cases e; exact ⟨u, rfl, a3⟩, fun e => by cases e⟩
        · rw [if_neg ex, lookup_cons_neg ex]
          exact ih
def eFld (cn f : Str) (fe : EF) : EF := fun ρ h => (fe ρ h).bind fun v h1 => match insOf h1 v with
  | some a => if a.1 = cn then lift (lookN a.2.1 a.2.2 f) h1 else .no
  | none => .no
section
variable {X : Cx} {W : WX}
theorem j_fld {cn f : Str} {e : Expr} {fe : EF} {pos : Pos} (hcl : ∀ C, X.mg cn = some (.ref C) → Cls X.K C ∧ NoAttr X.K C f) (he : PE X e (tE (ct X) W fe)) (hb : attributeBase e f X.env (eval e X.env) = eval e X.env := by rfl) : PE X (.Attribute e f pos) (tE (ct X) W (eFld cn f fe)) :=
  PE.mono (pe_fld he hb) fun σ H Q ⟨g, ρ, h0, rh, rs, p⟩ => by
    refine ⟨g, ρ, h0, rh, rs, (Pst.bind (R := RT (ct X)) p).imp fun u H1 ⟨g1, v, h1, st, rh1, rv1, p1⟩ => ?_⟩
    cases e1 : insOf h1 v with
    | none => rw [e1] at p1; exact p1.elim
    | some a =>
      rw [e1] at p1
      simp only at p1
      by_cases cc : a.1 = cn
      · rw [if_pos cc] at p1
        obtain ⟨q, C, dx, us, rfl, m, hq, hl, rts⟩ := insOf_get rh1 rv1 e1
        rw [cc] at m
        obtain ⟨c1, c2⟩ := hcl C m
        cases e2 : lookN a.2.1 a.2.2 f with
        | none => rw [e2] at p1; exact p1.elim
        | some w =>
          rw [e2] at p1
          obtain ⟨u2, l2, r2⟩ := (lookN_val hl rts).1 w e2
          exact ⟨q, C, dx, _, u2, rfl, hq, c1, c2, l2, p1 g1 H1 u2 .refl rh1 r2⟩
      · rw [if_neg cc] at p1; exact p1.elim
end
end J
namespace J
open PySem L2
def putN : List Str → Str → List Str
  | [], f => [f]
  | n :: ns, f => if n = f then n :: ns else n :: putN ns f
def putW {α : Type} : List Str → List α → Str → α → List α
  | n :: ns, x :: xs, f, v => if n = f then v :: xs else x :: putW ns xs f v
  | _, _, _, v => [v]
theorem putF_zip {f : Str} {u : V} : ∀ {ns : List Str} {us : List V}, ns.length = us.length → putF f u (ns.zip us) = (putN ns f).zip (putW ns us f u) ∧ (putN ns f).length = (putW ns us f u).length
  | [], us, hl => by
    cases us with
    | nil => exact ⟨rfl, rfl⟩
    | cons => cases hl
  | n :: ns, us, hl => by
    cases us with
    | nil => cases hl
    | cons w us =>
      have ih := putF_zip (f := f) (u := u) (Nat.succ.inj hl)
      rw [List.zip_cons_cons]
      unfold putF putN putW
      by_cases e : n = f
      · rw [if_pos e, if_pos e, if_pos e]
        exact ⟨rfl, by simpa using hl⟩
      · rw [if_neg e, if_neg e, if_neg e]
        exact ⟨by rw [ih.1]; rfl, by simp [ih.2]⟩
theorem RTs.putW {c : Ct} {g : Gh} {H : Hp} {f : Str} {v : VV} {u : V} (q : RT c g H v u) : ∀ {ns : List Str} {vs : List VV} {us : List V}, ns.length = us.length → RTs c g H vs us → RTs c g H (J.putW ns vs f v) (J.putW ns us f u)
  | [], vs, us, hl, r => by
    cases us with
    | nil =>
      have : vs = [] := by
        have := r.len
        cases vs with
        | nil => rfl
        | cons => simp at this
      subst this
      exact ⟨u, [], rfl, q, rfl⟩
    | cons => cases hl
  | n :: ns, vs, us, hl, r => by
    cases us with
    | nil => cases hl
    | cons w us =>
      cases vs with
      | nil => have := r.len; simp at this
      | cons y vs =>
        obtain ⟨a1, a2, e1, a3, a4⟩ := r
        cases e1
        have ih := RTs.putW (f := f) q (Nat.succ.inj hl) a4
        unfold J.putW
        by_cases e : n = f
        · rw [if_pos e, if_pos e]; exact ⟨u, us, rfl, q, a4⟩
        · rw [if_neg e, if_neg e]; exact ⟨w, _, rfl, a3, ih⟩
def setF (h : VH) (cn f : Str) (o v : VV) : Option VH := match o with
  | .obj n => match h[n]? with
    | some (.ins c ns vs) => if c = cn ∧ ns.length < 1000 then some (h.set n (.ins c (putN ns f) (putW ns vs f v))) else none
    | _ => none
  | _ => none
def sFldS (cn f : Str) (fo fe : EF) : SF := fun ρ h => (fe ρ h).st ρ fun v h1 => (fo ρ h1).st ρ fun ov h2 => match setF h2 cn f ov v with
  | some h3 => .nx ρ h3
  | none => .no
section
variable {X : Cx} {W : WX}
theorem js_fld {cn f : Str} {o e : Expr} {fo fe : EF} {pos pos' : Pos} (hcl : ∀ C, X.mg cn = some (.ref C) → Cls X.K C ∧ NoAttr X.K C f) (ho : PE X o (tE (ct X) W fo)) (he : PE X e (tE (ct X) W fe)) (hs : swapsWith e (some (.Attribute o f pos')) pos.line X.env = pure false := by rfl) :
    PS X (.Assign [.Attribute o f pos'] e pos) (tS (ct X) W (sFldS cn f fo fe)) :=
  PS.mono (ps_fld ho he hs) fun D σ H ⟨g, ρ, h, rh, rs, p⟩ => by
    refine ⟨g, ρ, h, rh, rs, (Pst.st (R := RT (ct X)) rs p).imp fun u H1 ⟨g1, v, h1, st, rh1, rs1, rv1, p1⟩ => ?_⟩
    refine ⟨g1, ρ, h1, rh1, rs1, (Pst.st (R := RT (ct X)) rs1 p1).imp fun u2 H2 ⟨g2, ov, h2, st2, rh2, rs2, rv2, p2⟩ => ?_⟩
    cases e1 : setF h2 cn f ov v with
    | none => rw [e1] at p2; exact p2.elim
    | some h3 =>
      rw [e1] at p2
      unfold setF at e1
      split at e1
      · rename_i n
        split at e1
        · rename_i c ns vs en
          split at e1
          · rename_i cc
            cases e1
            obtain ⟨a, ea, eo⟩ := rv2
            obtain ⟨nz, C, dx, us, m, hq, hl, rts⟩ := rh2.at' n _ a en ea
            rw [cc.1] at m
            obtain ⟨c1, c2⟩ := hcl C m
            have nk : ¬ g2.kp a := fun z => (rh2.kd a z).2 (List.mem_of_getElem? ea)
            have nt : ∀ ys, H2 a ≠ some (.tup ys) := fun ys z => by rw [hq] at z; cases z
            have stw : Stp g2 H2 g2 (upd H2 a (.ins C dx (putF f u (ns.zip us)))) := Stp.wr (c := ct X) nz nk nt
            refine ⟨a, C, dx, _, eo, hq, c1, c2, by rw [List.length_zip, ← hl, Nat.min_self]; exact cc.2, ?_⟩
            obtain ⟨z1, z2⟩ := putF_zip (f := f) (u := u) hl
            exact p2 g2 _ σ stw (rh2.wr ea nz nt ⟨nz, C, dx, putW ns us f u, by rw [cc.1]; exact m, by rw [upd_same, z1], z2, RTs.putW ((rv1.stp st2).stp stw) hl (rts.stp stw)⟩) (rs2.stp stw)
          · cases e1
        · cases e1
      · cases e1
/-- a method -/
structure OkM (P : Program) (w : World) (K : PySem.W.Frag) (mg : Str → Option Value) (base : Heap) (k : Nat) (cn m : Str) (n : Nat) (dws : List VV) (Fm : FF) : Prop where
  ex : ∃ (C f : Addr) (fd : FuncData) (ps : List Str) (dvs : List V) (ds : List Value), mg cn = some (.ref C) ∧ Cls K C ∧ Meth K C m f ∧ FnOk P w K mg base (L2N.CX P w) k f fd ps (spF ⟨K, mg⟩ n Fm) ∧ Binds K fd ps ds ∧ Vals dvs ds ∧ ∀ g H, RTs ⟨K, mg⟩ g H dws dvs
def X0 : XK := fun _ _ _ => False
theorem passes0 : Passes (L2N.CX X.prog X.w) X X0 := fun pins σ H s e s' I c => (cx_no c).elim
def eMeth (cn m : Str) (n : Nat) (F : FF) (dws : List VV) (fo : EF) (fa : AF) : EF := fun ρ h => (fo ρ h).bind fun v h1 => match insOf h1 v with
  | some a => if a.1 = cn ∧ lookN a.2.1 a.2.2 m = none then (fa ρ h1).bind fun vs h2 => if (v :: (vs ++ dws)).length = n then noX (F (v :: (vs ++ dws)) h2) else .no else .no
  | none => .no
theorem pst_noX {c : Ct} {σ : St} {g : Gh} {H : Hp} {Q : VK} {r : Res VV} (h : Pst c W σ (RT c) g H Q (noX r)) : Pst c (fun a d _ H' => X0 a d H') [] (RT c) g H Q r := by
  cases r with
  | no => exact h
  | ok => exact h
  | exc => exact h.elim
theorem tMeth_of {cn m : Str} {n : Nat} {Fm : FF} {dws : List VV} {dvs : List V} {fo : EF} {fa : AF} {C : Addr} (hC : X.mg cn = some (.ref C)) (hd : ∀ g H, RTs (ct X) g H dws dvs) {σ : St} {H : Hp} {Q : VK} (h : tE (ct X) W (eMeth cn m n Fm dws fo fa) σ H Q) :
    tMeth C m (spF (ct X) n Fm) dvs X0 (tE (ct X) W fo) (tA (ct X) W fa) σ H Q := by
  obtain ⟨g, ρ, h0, rh, rs, p⟩ := h
  refine ⟨g, ρ, h0, rh, rs, (Pst.bind (R := RT (ct X)) p).imp fun u H1 ⟨g1, v, h1, st, rh1, rv1, p1⟩ => ?_⟩
  cases e1 : insOf h1 v with
  | none => rw [e1] at p1; exact p1.elim
  | some a =>
    rw [e1] at p1
    simp only at p1
    by_cases cc : a.1 = cn ∧ lookN a.2.1 a.2.2 m = none
    · rw [if_pos cc] at p1
      obtain ⟨q, C', dx, us, eu, mm, hq, hl, rts⟩ := insOf_get rh1 rv1 e1
      rw [cc.1] at mm
      have eC : C' = C := by
        have : X.mg cn = some (.ref C') := mm
        rw [hC] at this
        cases this
        rfl
      subst eC
      refine ⟨q, dx, _, eu, hq, (lookN_val hl rts).2 cc.2, g1, ρ, h1, rh1, rs.stp st, (Pst.bind (R := RTs (ct X)) p1).imp fun vs H2 ⟨g2, ws, h2, st2, rh2, rts2, p2⟩ => ?_⟩
      by_cases hn : (v :: (ws ++ dws)).length = n
      · rw [if_pos hn] at p2
        exact ⟨g2, v :: (ws ++ dws), h2, rh2, ⟨u, _, rfl, rv1.stp st2, RTs.append rts2 (hd g2 H2)⟩, hn, pst_noX p2⟩
      · rw [if_neg hn] at p2; exact p2.elim
    · rw [if_neg cc] at p1; exact p1.elim
theorem j_meth {k n : Nat} {cn m : Str} {Fm : FF} {dws : List VV} {o e : Expr} {es : List Expr} {apos pos : Pos} {fo : EF} {fa : AF} {pl : Sem Bool} (O : OkM X.prog X.w X.K X.mg X.base k cn m n dws Fm) (hr : Room k X.A) (ho : PE X o (tE (ct X) W fo)) (ha : PA X (e :: es) (tA (ct X) W fa))
    (hst : starEach (e :: es) X.env = (false, eval e X.env) :: starEach es X.env := by rfl) (hpl : (backTo pos (starEach es X.env)).any (·.1) = false := by rfl)
    (ht : eval (.Call (.Attribute o m apos) (e :: es) [] pos) X.env = (do
      let ov ← eval o X.env
      standAt apos.atName
      let (f, first) ← holding [ov] (getMethod ov m pl)
      callWith pos f first (backTo pos (starEach (e :: es) X.env)) (backToKw pos (keywordEach [] X.env))) := by rfl) :
    PE X (.Call (.Attribute o m apos) (e :: es) [] pos) (tE (ct X) W (eMeth cn m n Fm dws fo fa)) := by
  obtain ⟨C, f, fd, ps, dvs, ds, h1, h2, h3, h4, h5, h6, h7⟩ := O.ex
  exact PE.mono (pe_meth (E := X0) ho h2 h3 h4 hr h5 h6 passes0 ha hst hpl ht) fun σ H Q h => tMeth_of h1 h7 h
theorem j_meth0 {k n : Nat} {cn m : Str} {Fm : FF} {dws : List VV} {o : Expr} {apos pos : Pos} {fo : EF} {pl : Sem Bool} (O : OkM X.prog X.w X.K X.mg X.base k cn m n dws Fm) (hr : Room k X.A) (ho : PE X o (tE (ct X) W fo))
    (ht : eval (.Call (.Attribute o m apos) [] [] pos) X.env = (do
      let ov ← eval o X.env
      standAt apos.atName
      let (f, first) ← holding [ov] (getMethod ov m pl)
      callWith pos f first (backTo pos (starEach [] X.env)) (backToKw pos (keywordEach [] X.env))) := by rfl) :
    PE X (.Call (.Attribute o m apos) [] [] pos) (tE (ct X) W (eMeth cn m n Fm dws fo aNil)) := by
  obtain ⟨C, f, fd, ps, dvs, ds, h1, h2, h3, h4, h5, h6, h7⟩ := O.ex
  refine PE.mono (pe_meth0 (E := X0) ho h2 h3 h4 hr h5 h6 passes0 ht) fun σ H Q h => ?_
  obtain ⟨g, ρ, h0, rh, rs, p⟩ := tMeth_of (W := W) h1 h7 h
  refine ⟨g, ρ, h0, rh, rs, p.imp fun u H1 ⟨a, dx, fs, q1, q2, q3, g2, ρ2, hh2, rh2, rs2, q4⟩ => ⟨a, dx, fs, q1, q2, q3, ?_⟩⟩
  exact q4 g2 H1 [] .refl rh2 rfl
end
end J
namespace J
open PySem L2
/-! a made thing, frozen through and through -/
def optM {α β : Type} (f : α → Option β) : List α → Option (List β)
  | [] => some []
  | x :: xs => (f x).bind fun y => (optM f xs).map fun r => y :: r
def dzV (h : VH) (n0 : Nat) : Nat → VV → Option VV
  | 0, _ => none
  | k + 1, .obj n => if n < n0 then none else match h[n]? with
    | some (.fzn v) => some v
    | some (.fl xs) => some (.lst xs)
    | some (.dT ks vs) => some (.dT ks vs)
    | some (.dK ks vs) => some (.dK ks vs)
    | some (.lo xs) => (optM (dzV h n0 k) xs).map .lst
    | some (.ins c ns vs) => (optM (dzV h n0 k) vs).map (.ins c ns)
    | none => none
  | _ + 1, v => some v
/-- frozen now: all that was, and the roots from n0 on -/
def zNew (g : Gh) (n0 : Nat) : Addr → Prop := fun q => g.fz q ∨ ∃ n, n0 ≤ n ∧ g.io[n]? = some q
theorem optM_rvs {c : Ct} {g : Gh} {H : Hp} {z : Addr → Prop} {f : VV → Option VV} (hf : ∀ v u w, RT c g H v u → f v = some w → RV c z H w u) : ∀ {vs : List VV} {us : List V} {ws : List VV}, RTs c g H vs us → optM f vs = some ws → RVs c z H ws us
  | [], us, ws, r, e => by
    cases e
    rw [show us = [] from r]
    exact RVs.nil
  | v :: vs, us, ws, r, e => by
    obtain ⟨u, q, rfl, a, b⟩ := r
    unfold optM at e
    obtain ⟨y, e1, e2⟩ := Option.bind_eq_some_iff.mp e
    obtain ⟨l, e3, e4⟩ := Option.map_eq_some_iff.mp e2
    subst e4
    exact RVs.cons (hf v u y a e1) (optM_rvs hf b e3)
theorem dz_ok {c : Ct} {g : Gh} {h : VH} {H : Hp} {n0 : Nat} (rh : RH c g h H) : ∀ (k : Nat) (v : VV) (u : V) (w : VV), RT c g H v u → dzV h n0 k v = some w → RV c (zNew g n0) H w u := by
  have up : ∀ {v u}, RV c g.fz H v u → RV c (zNew g n0) H v u := fun r => RV.stp (fun _ h => .inl h) (fun _ _ => .refl) (fun _ _ h => h) _ _ r
  have ups : ∀ {v u}, RVs c g.fz H v u → RVs c (zNew g n0) H v u := fun r => RVs.stp (fun _ h => .inl h) (fun _ _ => .refl) (fun _ _ h => h) _ _ r
  intro k
  induction k with
  | zero => intro v u w _ e; simp [dzV] at e
  | succ k ih =>
    intro v u w r e
    cases v with
    | obj n =>
      obtain ⟨a, ea, eu⟩ := r
      unfold dzV at e
      split at e
      · cases e
      · rename_i hn
        have za : zNew g n0 a := .inr ⟨n, by omega, ea⟩
        split at e
        · rename_i v en
          cases e
          obtain ⟨_, rv⟩ := rh.at' n _ a en ea
          rw [eu]; exact up rv
        · rename_i xs en
          cases e
          obtain ⟨_, us, hl, rvs⟩ := rh.at' n _ a en ea
          rw [RV]
          exact ⟨a, us, eu, za, hl, ups rvs⟩
        · rename_i ks vs en
          cases e
          obtain ⟨_, us, hl, ln, rvs⟩ := rh.at' n _ a en ea
          rw [RV]
          exact ⟨a, us, eu, za, (.inl hl), ln, ups rvs⟩
        · rename_i ks vs en
          cases e
          obtain ⟨_, us, hl, ln, rvs⟩ := rh.at' n _ a en ea
          rw [RV]
          exact ⟨a, us, eu, za, .inl hl, ln, ups rvs⟩
        · rename_i xs en
          obtain ⟨ws, e1, e2⟩ := Option.map_eq_some_iff.mp e
          subst e2
          obtain ⟨_, us, hl, rts⟩ := rh.at' n _ a en ea
          rw [RV]
          exact ⟨a, us, eu, za, hl, optM_rvs (fun v u w r e => ih v u w r e) rts e1⟩
        · rename_i x ns vs en
          obtain ⟨ws, e1, e2⟩ := Option.map_eq_some_iff.mp e
          subst e2
          obtain ⟨_, C, dx, us, m, hl, ln, rts⟩ := rh.at' n _ a en ea
          rw [RV]
          exact ⟨a, C, dx, us, eu, za, m, hl, ln, optM_rvs (fun v u w r e => ih v u w r e) rts e1⟩
        · cases e
    | _ =>
      unfold dzV at e
      cases e
      exact up (r.rv rfl)
/-- the roots from n0 on are gone, frozen -/
theorem melt {c : Ct} {g : Gh} {h : VH} {H : Hp} {n0 : Nat} (rh : RH c g h H) (hn : n0 ≤ h.length) (low : (h.take n0).all (lowO n0) = true) : RH c ⟨g.io.take n0, zNew g n0, g.kp⟩ (h.take n0) H := by
  have nd := rh.nd
  have sep : ∀ {n a}, n < n0 → g.io[n]? = some a → ¬ g.fz a → ¬ zNew g n0 a := by
    intro n a hlt ha nz z
    rcases z with z | ⟨m, hm, em⟩
    · exact nz z
    · have := nodup_inj nd ha em
      omega
  refine ⟨?_, ?_, fun n o a h1 h2 => ?_, fun q z => ?_, rh.kp, fun q z => ⟨fun y => ?_, fun y => (rh.kd q z).2 (List.mem_of_mem_take y)⟩, rh.tb, fun q z ps y => ?_⟩
  rotate_left 5
  · rcases z with (z | ⟨m, hm, em⟩) | z
    · exact rh.nt q (.inl z) ps y
    · exact rh.rootNt (List.mem_of_getElem? em) ps y
    · exact rh.nt q (.inr z) ps y
  · show (g.io.take n0).length = _
    rw [List.length_take, List.length_take, rh.len]
  · exact nd.sublist (List.take_sublist _ _)
  · have hlt : n < n0 := by
      have := (List.getElem?_eq_some_iff.mp h1).1
      rw [List.length_take] at this; omega
    have h1' : h[n]? = some o := by rw [List.getElem?_take_of_lt hlt] at h1; exact h1
    have h2' : g.io[n]? = some a := by
      have h2'' : (g.io.take n0)[n]? = some a := h2
      rw [List.getElem?_take_of_lt hlt] at h2''
      exact h2''
    have ro := rh.at' n o a h1' h2'
    have lo : lowO n0 o = true := List.all_eq_true.mp low o (List.mem_of_getElem? h1)
    have ups : ∀ {v u}, RVs c g.fz H v u → RVs c (zNew g n0) H v u := fun r => RVs.stp (fun _ h => .inl h) (fun _ _ => .refl) (fun _ _ h => h) _ _ r
    have upt : ∀ {vs us}, vs.all (lowV n0) = true → RTs c g H vs us → RTs c ⟨g.io.take n0, zNew g n0, g.kp⟩ H vs us := by
      intro vs
      induction vs with
      | nil => exact fun _ r => r
      | cons v vs ih =>
        intro us l r
        rw [List.all_cons, Bool.and_eq_true] at l
        obtain ⟨u, q, e, r1, r2⟩ := r
        refine ⟨u, q, e, ?_, ih l.2 r2⟩
        cases v with
        | obj m =>
          obtain ⟨b, eb, eu⟩ := r1
          refine ⟨b, ?_, eu⟩
          show (g.io.take n0)[m]? = some b
          rw [List.getElem?_take_of_lt (of_decide_eq_true l.1)]; exact eb
        | _ => exact RT.of_rv (RV.stp (fun _ h => .inl h) (fun _ _ => .refl) (fun _ _ h => h) _ _ (r1.rv rfl))
    cases o with
    | fzn v => exact ⟨.inl ro.1, RV.stp (fun _ h => .inl h) (fun _ _ => .refl) (fun _ _ h => h) _ _ ro.2⟩
    | fl xs =>
      obtain ⟨nz, us, q1, q2⟩ := ro
      exact ⟨sep hlt h2' nz, us, q1, ups q2⟩
    | lo xs =>
      obtain ⟨nz, us, q1, q2⟩ := ro
      exact ⟨sep hlt h2' nz, us, q1, upt lo q2⟩
    | dT ks vs =>
      obtain ⟨nz, us, q1, q2, q3⟩ := ro
      exact ⟨sep hlt h2' nz, us, q1, q2, ups q3⟩
    | dK ks vs =>
      obtain ⟨nz, us, q1, q2, q3⟩ := ro
      exact ⟨sep hlt h2' nz, us, q1, q2, ups q3⟩
    | ins x ns vs =>
      obtain ⟨nz, C, dx, us, q0, q1, q2, q3⟩ := ro
      exact ⟨sep hlt h2' nz, C, dx, us, q0, q1, q2, upt lo q3⟩
  · rcases z with z | ⟨m, hm, em⟩
    · exact rh.fz q z
    · exact rh.root (List.mem_of_getElem? em)
  · rcases y with y | ⟨m, hm, em⟩
    · exact (rh.kd q z).1 y
    · exact (rh.kd q z).2 (List.mem_of_getElem? em)
/-- a class that can be made -/
structure OkC (P : Program) (w : World) (K : PySem.W.Frag) (mg : Str → Option Value) (base : Heap) (k : Nat) (cn : Str) (n : Nat) (dws : List VV) (Fm : FF) : Prop where
  ex : ∃ (C f : Addr) (fd : FuncData) (ps : List Str) (dvs : List V) (ds : List Value), mg cn = some (.ref C) ∧ Mk K C f ∧ FnOk P w K mg base (L2N.CX P w) k f fd ps (spF ⟨K, mg⟩ n Fm) ∧ Binds K fd ps ds ∧ Vals dvs ds ∧ ∀ g H, RTs ⟨K, mg⟩ g H dws dvs
/-- made, and frozen at once -/
def mkZ (n0 : Nat) (r : Res VV) : Res VV := match r with
  | .ok .non h' => if n0 ≤ h'.length ∧ (h'.take n0).all (lowO n0) = true then (match dzV h' n0 8 (.obj n0) with
    | some w => .ok w (h'.take n0)
    | none => .no) else .no
  | _ => .no
def eMakeZ (cn : Str) (n : Nat) (F : FF) (dws : List VV) (fa : AF) : EF := fun ρ h => (fa ρ h).bind fun vs h1 => if (VV.obj h1.length :: (vs ++ dws)).length = n then mkZ h1.length (F (.obj h1.length :: (vs ++ dws)) (h1 ++ [.ins cn [] []])) else .no
section
variable {X : Cx} {W : WX}
theorem tMake_of {cn : Str} {n : Nat} {Fm : FF} {dws : List VV} {dvs : List V} {fa : AF} {C : Addr} (hC : X.mg cn = some (.ref C)) (hd : ∀ g H, RTs (ct X) g H dws dvs) {σ : St} {H : Hp} {Q : VK} (h : tE (ct X) W (eMakeZ cn n Fm dws fa) σ H Q) :
    tMake C (spF (ct X) n Fm) dvs X0 (tA (ct X) W fa) σ H Q := by
  obtain ⟨g, ρ, h0, rh, rs, p⟩ := h
  refine ⟨g, ρ, h0, rh, rs, (Pst.bind (R := RTs (ct X)) p).imp fun vs H1 ⟨g1, ws, h1, st, rh1, rts, p1⟩ x dx hx hdx ne => ?_⟩
  by_cases hn : (VV.obj h1.length :: (ws ++ dws)).length = n
  · rw [if_pos hn] at p1
    have s1 : Stp g1 H1 g1 (upd H1 dx (.own x)) := .junk rh1 hdx
    have r1 : RH (ct X) g1 h1 (upd H1 dx (.own x)) := rh1.junk hdx
    have hx' : upd H1 dx (.own x) x = none := by rw [upd_ne (Ne.symm ne)]; exact hx
    have s2 : Stp g1 (upd H1 dx (.own x)) g1 (upd (upd H1 dx (.own x)) x (.ins C dx [])) := .junk r1 hx'
    have r2 : RH (ct X) g1 h1 (upd (upd H1 dx (.own x)) x (.ins C dx [])) := r1.junk hx'
    have nx : x ∉ g1.io := fun z => by
      obtain ⟨o, e⟩ := rh1.root z
      rw [hx] at e; cases e
    have s3 : Stp g1 (upd (upd H1 dx (.own x)) x (.ins C dx [])) (g1.add x) (upd (upd H1 dx (.own x)) x (.ins C dx [])) := .add
    have r3 : RH (ct X) (g1.add x) (h1 ++ [.ins cn [] []]) (upd (upd H1 dx (.own x)) x (.ins C dx [])) := r2.add nx (fun z => by
      obtain ⟨o, e⟩ := rh1.kp x z
      rw [hx] at e; cases e) ⟨(fun z => by
        obtain ⟨o, e⟩ := rh1.fz x z
        rw [hx] at e; cases e), C, dx, [], hC, upd_same, rfl, rfl⟩
    have ss := (s1.trans s2).trans s3
    have rx : RT (ct X) (g1.add x) (upd (upd H1 dx (.own x)) x (.ins C dx [])) (.obj h1.length) (.ref x) := ⟨x, by
      show (g1.io ++ [x])[h1.length]? = some x
      rw [← rh1.len, List.getElem?_append_right (Nat.le_refl _), Nat.sub_self]; rfl, rfl⟩
    refine ⟨g1.add x, .obj h1.length :: (ws ++ dws), h1 ++ [.ins cn [] []], r3, ⟨.ref x, _, rfl, rx, RTs.append (rts.stp ss) (hd _ _)⟩, hn, ?_⟩
    generalize Fm (.obj h1.length :: (ws ++ dws)) (h1 ++ [.ins cn [] []]) = r at p1 ⊢
    cases r with
    | no => exact p1
    | exc => exact p1.elim
    | ok v h' =>
      intro g' H' u st' rh' rv'
      cases v with
      | non =>
        refine ⟨non_get rv', ?_⟩
        unfold mkZ at p1
        simp only at p1
        split at p1
        · rename_i cc
          cases e : dzV h' h1.length 8 (.obj h1.length) with
          | none => rw [e] at p1; exact p1.elim
          | some w =>
            rw [e] at p1
            have rx' : RT (ct X) g' H' (.obj h1.length) (.ref x) := rx.stp st'
            have rw' := dz_ok rh' 8 _ _ _ rx' e
            have rhm := melt rh' cc.1 cc.2
            have eio : g'.io.take h1.length = g1.io := by
              obtain ⟨l, hl⟩ := (ss.trans st').io
              rw [← hl, ← rh1.len, List.take_left]
            have all := ss.trans st'
            refine p1 ⟨g'.io.take h1.length, zNew g' h1.length, g'.kp⟩ H' (.ref x) ⟨by show g1.io <+: g'.io.take h1.length; rw [eio]; exact List.prefix_rfl, fun q z => .inl (all.fz q z), all.kp, all.fH, all.kH, all.tp⟩ rhm (RT.of_rv rw')
        · exact p1.elim
      | _ => exact p1.elim
  · rw [if_neg hn] at p1; exact p1.elim
theorem j_make {k n : Nat} {cn : Str} {Fm : FF} {dws : List VV} {e : Expr} {es : List Expr} {p pos : Pos} {fa : AF} (O : OkC X.prog X.w X.K X.mg X.base k cn n dws Fm) (hr : Room (k + 1) X.A) (hg : Gl X cn) (ha : PA X (e :: es) (tA (ct X) W fa))
    (hdb : (cn == ("__debug__" : Str)) = false := by decide) (he : starEach (e :: es) X.env = (false, eval e X.env) :: starEach es X.env := by rfl) (hpl : (backTo pos (starEach es X.env)).any (·.1) = false := by rfl) :
    PE X (.Call (.Name cn p) (e :: es) [] pos) (tE (ct X) W (eMakeZ cn n Fm dws fa)) := by
  obtain ⟨C, f, fd, ps, dvs, ds, h1, h2, h4, h5, h6, h7⟩ := O.ex
  exact PE.mono (pe_make (E := X0) h2 h4 hr hg h1 h5 h6 passes0 ha hdb he hpl) fun σ H Q h => tMake_of h1 h7 h
end
end J
namespace J
open PySem L2
section
variable {X : Cx} {W : WX}
/-! xs.pop(i), xs a root -/
def popI (h : VH) (o i : VV) : Option (VV × VH) := match o, i with
  | .obj n, .int k => match h[n]? with
    | some (.fl xs) => if 0 ≤ k ∧ k < xs.length ∧ k < 2 ^ 62 then (xs[k.toNat]?).map fun v => (v, h.set n (.fl (xs.eraseIdx k.toNat))) else none
    | _ => none
  | _, _ => none
def ePop (fo fi : EF) : EF := fun ρ h => (fo ρ h).bind fun ov h1 => match lstOf h1 ov with
  | none => .no
  | some _ => (fi ρ h1).bind fun iv h2 => match popI h2 ov iv with
    | some (v, h3) => .ok v h3
    | none => .no
theorem RVs.eraseIdx {c : Ct} {z : Addr → Prop} {H : Hp} : ∀ {vs : List VV} {us : List V} {k : Nat}, RVs c z H vs us → RVs c z H (vs.eraseIdx k) (us.eraseIdx k)
  | [], us, k, r => by rw [RVs] at r; subst r; simp only [List.eraseIdx_nil]; exact RVs.nil
  | v :: vs, us, k, r => by
    rw [RVs] at r
    obtain ⟨u, q, rfl, a, b⟩ := r
    cases k with
    | zero => simp only [List.eraseIdx_cons_zero]; exact b
    | succ k => simp only [List.eraseIdx_cons_succ]; exact RVs.cons a (RVs.eraseIdx b)
end
end J
namespace J
open PySem L2
open PyProof.Rows (envOfC)
/-! a root, frozen through and through -/
def frzL (f : VH → VV → Option (VV × VH)) : VH → List VV → Option (List VV × VH)
  | h, [] => some ([], h)
  | h, v :: vs => match f h v with
    | some (w, h1) => match frzL f h1 vs with
      | some (ws, h2) => some (w :: ws, h2)
      | none => none
    | none => none
def frzV : Nat → VH → VV → Option (VV × VH)
  | 0, _, _ => none
  | k + 1, h, .obj n => match h[n]? with
    | some (.fzn w) => some (w, h)
    | some (.fl xs) => some (.lst xs, h.set n (.fzn (.lst xs)))
    | some (.dT ks vs) => some (.dT ks vs, h.set n (.fzn (.dT ks vs)))
    | some (.dK ks vs) => some (.dK ks vs, h.set n (.fzn (.dK ks vs)))
    | some (.lo xs) => match frzL (frzV k) h xs with
      | some (ys, h') => some (.lst ys, h'.set n (.fzn (.lst ys)))
      | none => none
    | some (.ins c ns vs) => match frzL (frzV k) h vs with
      | some (ys, h') => some (.ins c ns ys, h'.set n (.fzn (.ins c ns ys)))
      | none => none
    | none => none
  | _ + 1, h, v => some (v, h)
def FrzOk (c : Ct) (H : Hp) (f : VH → VV → Option (VV × VH)) : Prop := ∀ g h v u w h', RH c g h H → RT c g H v u → f h v = some (w, h') → ∃ g', Stp g H g' H ∧ g'.io = g.io ∧ RH c g' h' H ∧ RV c g'.fz H w u
theorem frzL_ok {c : Ct} {H : Hp} {f : VH → VV → Option (VV × VH)} (hf : FrzOk c H f) : ∀ (vs : List VV) (us : List V) (g : Gh) (h : VH) (ws : List VV) (h' : VH), RH c g h H → RTs c g H vs us → frzL f h vs = some (ws, h') → ∃ g', Stp g H g' H ∧ g'.io = g.io ∧ RH c g' h' H ∧ RVs c g'.fz H ws us
  | [], us, g, h, ws, h', rh, r, e => by
    unfold frzL at e
    cases e
    rw [show us = [] from r]
    exact ⟨g, .refl, rfl, rh, RVs.nil⟩
  | v :: vs, us, g, h, ws, h', rh, r, e => by
    obtain ⟨u, q, rfl, a, b⟩ := r
    unfold frzL at e
    split at e
    · rename_i w h1 e1
      obtain ⟨g1, s1, i1, r1, v1⟩ := hf g h v u w h1 rh a e1
      split at e
      · rename_i ws' h2 e2
        cases e
        obtain ⟨g2, s2, i2, r2, v2⟩ := frzL_ok hf vs q g1 h1 _ _ r1 (b.stp s1) e2
        exact ⟨g2, s1.trans s2, i2.trans i1, r2, RVs.cons (s2.rv v1) v2⟩
      · cases e
    · cases e
theorem frzV_ok {c : Ct} {H : Hp} : ∀ k : Nat, FrzOk c H (frzV k)
  | 0 => fun g h v u w h' _ _ e => by simp [frzV] at e
  | k + 1 => fun g h v u w h' rh r e => by
    cases v with
    | obj n =>
      obtain ⟨a, ea, eu⟩ := r
      unfold frzV at e
      split at e
      · rename_i w' en
        cases e
        obtain ⟨fa, rv⟩ := rh.at' n _ a en ea
        exact ⟨g, .refl, rfl, rh, by rw [eu]; exact rv⟩
      · rename_i xs en
        cases e
        obtain ⟨nz, us, hl, rvs⟩ := rh.at' n _ a en ea
        have rv : RV c (g.frz a).fz H (.lst xs) (.ref a) := by
          rw [RV]
          exact ⟨a, us, rfl, .inr rfl, hl, (Stp.kill (p := a)).rvs rvs⟩
        exact ⟨g.frz a, .kill, rfl, rh.kill ea rv, by rw [eu]; exact rv⟩
      · rename_i ks vs en
        cases e
        obtain ⟨nz, us, hl, ln, rvs⟩ := rh.at' n _ a en ea
        have rv : RV c (g.frz a).fz H (.dT ks vs) (.ref a) := by
          rw [RV]
          exact ⟨a, us, rfl, .inr rfl, .inl hl, ln, (Stp.kill (p := a)).rvs rvs⟩
        exact ⟨g.frz a, .kill, rfl, rh.kill ea rv, by rw [eu]; exact rv⟩
      · rename_i ks vs en
        cases e
        obtain ⟨nz, us, hl, ln, rvs⟩ := rh.at' n _ a en ea
        have rv : RV c (g.frz a).fz H (.dK ks vs) (.ref a) := by
          rw [RV]
          exact ⟨a, us, rfl, (.inr rfl), .inl hl, ln, (Stp.kill (p := a)).rvs rvs⟩
        exact ⟨g.frz a, .kill, rfl, rh.kill ea rv, by rw [eu]; exact rv⟩
      · rename_i xs en
        obtain ⟨nz, us, hl, rts⟩ := rh.at' n _ a en ea
        split at e
        · rename_i ys h1 e1
          cases e
          obtain ⟨g1, s1, i1, r1, v1⟩ := frzL_ok (frzV_ok k) xs us g h ys h1 rh rts e1
          have rv : RV c (g1.frz a).fz H (.lst ys) (.ref a) := by
            rw [RV]
            exact ⟨a, us, rfl, .inr rfl, hl, (Stp.kill (p := a)).rvs v1⟩
          exact ⟨g1.frz a, s1.trans .kill, i1, r1.kill (by rw [i1]; exact ea) rv, by rw [eu]; exact rv⟩
        · cases e
      · rename_i x ns vs en
        obtain ⟨nz, C, dx, us, m, hl, ln, rts⟩ := rh.at' n _ a en ea
        split at e
        · rename_i ys h1 e1
          cases e
          obtain ⟨g1, s1, i1, r1, v1⟩ := frzL_ok (frzV_ok k) vs us g h ys h1 rh rts e1
          have rv : RV c (g1.frz a).fz H (.ins x ns ys) (.ref a) := by
            rw [RV]
            exact ⟨a, C, dx, us, rfl, .inr rfl, m, hl, ln, (Stp.kill (p := a)).rvs v1⟩
          exact ⟨g1.frz a, s1.trans .kill, i1, r1.kill (by rw [i1]; exact ea) rv, by rw [eu]; exact rv⟩
        · cases e
      · cases e
    | _ =>
      unfold frzV at e
      cases e
      exact ⟨g, .refl, rfl, rh, r.rv rfl⟩
def frzR (v : VV) (h : VH) : Res VV := match frzV 4 h v with
  | some (w, h2) => .ok w h2
  | none => .no
def eFrzD (f : EF) : EF := fun ρ h => (f ρ h).bind frzR
section
variable {X : Cx} {W : WX}
theorem j_frzD {e : Expr} {f : EF} (h : PE X e (tE (ct X) W f)) : PE X e (tE (ct X) W (eFrzD f)) :=
  PE.mono h fun σ H Q ⟨g, ρ, h0, rh, rs, p⟩ => by
    refine ⟨g, ρ, h0, rh, rs, (Pst.bind (R := RT (ct X)) p).imp fun u H1 ⟨g1, v, h1, st, rh1, rv1, p1⟩ => ?_⟩
    unfold frzR at p1
    split at p1
    · rename_i w h2 e
      obtain ⟨g2, s2, _, r2, v2⟩ := frzV_ok 4 g1 h1 v u w h2 rh1 rv1 e
      exact p1 g2 H1 u s2 r2 (RT.of_rv v2)
    · exact p1.elim
end
/-! comprehensions whose elements may be roots -/
def lcGoR (b : VV → VSt → Option VSt) (t : TF) (e : EF) (ρ : VSt) : List VV → VH → Res (List VV)
  | [], h => .ok [] h
  | x :: xs, h => match b x ρ with
    | none => .no
    | some ρ' => (t ρ' h).bind fun k h1 => if k = true then (e ρ' h1).bind fun v h2 => (lcGoR b t e ρ xs h2).bind fun vs h3 => .ok (v :: vs) h3 else lcGoR b t e ρ xs h1
def eLcR (own : List Nat) (it : AF) (b : VV → VSt → Option VSt) (t : TF) (e : EF) : EF := fun ρ h => (it ρ h).bind fun xs h1 => if xs.length > SZ then .no else match lcGoR b t e (wp ρ own) xs h1 with
  | .ok vs h2 => .ok (.obj h2.length) (h2 ++ [.lo vs])
  | _ => .no
/-- the loop of a comprehension, whatever is made of the new list -/
theorem lc_runR {c : Ct} {W0 : WX} {Wx : WX} {own : List Nat} {b : VV → VSt → Option VSt} {ft : TF} {fe : EF} {tg : TG} {J : It} {xs : List VV} {ρ : VSt} {σ : St} {g : Gh} {h : VH} {H1 : Hp} {D : Addr} {Q : VK} {K : PySem.W.Frag}
    (hW : ∀ a d s h, W0 a d s h → False) (ek : c.K = K) (pat : PatOk K tg b own) (dl : Deliv c g H1 xs J) (hsz : xs.length ≤ SZ) (rh : RH c g h H1) (rs : RS c g H1 ρ σ) (hD : H1 D = none)
    (fin : match lcGoR b ft fe (wp ρ own) xs h with
      | .ok vs h' => ∀ g' H' us, Stp g H1 g' H' → RH c g' h' H' → H' D = some (.lst us) → ¬ g'.fz D → D ∉ g'.io → ¬ g'.kp D → RTs c g' H' vs us → Q (.ref D) H'
      | _ => False) :
    ∃ Wv : Nat → Nat → Hp → Prop, (∃ m, Wv 0 m (upd H1 D (.lst []))) ∧ ∀ i m H, Wv i m H →
      (J.stop i H ∧ Q (.ref D) H) ∨ (J.go i H ∧ ∃ Nx : Hp → Prop, (∀ H', Nx H' → ∃ m', m' < m ∧ Wv (i + 1) m' H') ∧ ∀ x H', J.yld i H x H' → tg x (wipe σ own) H' fun σ2 H2 => wipe σ2 own = wipe σ own ∧ tT c W0 ft σ2 H2 fun bb H3 =>
        if bb = true then tE c W0 fe σ2 H3 fun y H4 => ∃ acc, H4 D = some (.lst acc) ∧ acc.length < sizeLine ∧ Nx (upd H4 D (.lst (acc ++ [y]))) else Nx H3) := by
  -- the invariant
  let P : Nat → Hp → Prop := fun i H => ∃ (gi : Gh) (hi : VH) (acc : List VV) (us : List V), acc.length ≤ i ∧ Stp g H1 gi H ∧ RH c gi hi H ∧ H D = some (.lst us) ∧ ¬ gi.fz D ∧ D ∉ gi.io ∧ ¬ gi.kp D ∧ RTs c gi H acc us ∧
    (match lcGoR b ft fe (wp ρ own) (xs.drop i) hi with
      | .ok vs h' => ∀ g' H' us, Stp gi H g' H' → RH c g' h' H' → H' D = some (.lst us) → ¬ g'.fz D → D ∉ g'.io → ¬ g'.kp D → RTs c g' H' (acc ++ vs) us → Q (.ref D) H'
      | _ => False)
  refine ⟨fun i m H => m = xs.length - i ∧ i ≤ xs.length ∧ P i H, ⟨xs.length, by simp, Nat.zero_le _, ?_⟩, ?_⟩
  · refine ⟨g, h, [], [], Nat.le_refl _, .junk rh hD, rh.junk hD, upd_same, fun z => ?_, fun z => ?_, fun z => ?_, rfl, ?_⟩
    · obtain ⟨o, e⟩ := rh.fz D z; rw [hD] at e; cases e
    · obtain ⟨o, e⟩ := rh.root z; rw [hD] at e; cases e
    · obtain ⟨o, e⟩ := rh.kp D z; rw [hD] at e; cases e
    · rw [List.drop_zero]
      generalize lcGoR b ft fe (wp ρ own) xs h = r at fin ⊢
      cases r with
      | ok vs h' =>
        intro g' H' us st
        rw [List.nil_append]
        exact fin g' H' us ((Stp.junk rh hD).trans st)
      | no => exact fin
      | exc _ _ _ _ => exact fin
  · rintro i m H ⟨rfl, hi, gi, hh, acc, us, hacc, st, rhi, hDl, nf, ni, nk, rvs, fin⟩
    by_cases hlt : i < xs.length
    · refine .inr ⟨dl.go gi H st.f i hlt, P (i + 1), fun H' p' => ⟨xs.length - (i + 1), by omega, rfl, hlt, p'⟩, fun x H' y => ?_⟩
      have ed : xs.drop i = xs[i] :: xs.drop (i + 1) := List.drop_eq_getElem_cons hlt
      have rhk : RH c (gi.keep D) hh H := rhi.keep hDl nf ni
      have stk : Stp g H1 (gi.keep D) H := st.trans .keep
      obtain ⟨g1, st1, rh1, rt1⟩ := dl.yld (gi.keep D) H stk.f i xs[i] hh (List.getElem?_eq_getElem hlt) rhk x H' y
      rw [ed] at fin
      unfold lcGoR at fin
      cases e : b xs[i] (wp ρ own) with
      | none => rw [e] at fin; exact fin.elim
      | some ρ' =>
        rw [e] at fin
        simp only at fin
        have rs1 : RS c g1 H' (wp ρ own) (wipe σ own) := ((rs.wipe own).stp stk).stp st1
        refine pat.run c g1 hh H' _ _ _ _ ρ' ek rh1 rs1 rt1 e _ fun σ2 rs2 o2 l2 => ⟨?_, ?_⟩
        · refine wipe_same (l2.trans (wipe_length _ _)) fun j hj => (o2 j hj).trans (wipe_out hj)
        · refine ⟨g1, ρ', hh, rh1, rs2, ?_⟩
          cases et : ft ρ' hh with
          | no => rw [et] at fin; exact fin.elim
          | exc _ _ _ _ => rw [et] at fin; exact fin.elim
          | ok k h1 =>
            rw [et] at fin
            intro g2 H2 bb st2 rh2 eb
            cases (show bb = k from eb)
            -- D is kept
            have hD2 : H2 D = some (.lst us) := by rw [st2.kH D (st1.kp D (.inr rfl)), st1.kH D (.inr rfl)]; exact hDl
            have kD2 : g2.kp D := st2.kp D (st1.kp D (.inr rfl))
            have s12 : Stp (gi.keep D) H g2 H2 := st1.trans st2
            cases k with
            | false =>
              rw [if_neg Bool.false_ne_true]
              have fin' : match lcGoR b ft fe (wp ρ own) (xs.drop (i + 1)) h1 with
                | .ok vs h' => ∀ g' H' us, Stp gi H g' H' → RH c g' h' H' → H' D = some (.lst us) → ¬ g'.fz D → D ∉ g'.io → ¬ g'.kp D → RTs c g' H' (acc ++ vs) us → Q (.ref D) H'
                | _ => False := by
                simp only [Res.bind, if_neg Bool.false_ne_true] at fin; exact fin
              refine ⟨g2.back gi.kp, h1, acc, us, Nat.le_succ_of_le hacc, st.trans s12.back, rh2.back (fun p z => s12.kp p (.inl z)), hD2, (rh2.kd D kD2).1, (rh2.kd D kD2).2, nk, RTs.back ((RTs.back (k := (gi.keep D).kp) rvs).stp s12), ?_⟩
              generalize lcGoR b ft fe (wp ρ own) (xs.drop (i + 1)) h1 = r at fin' ⊢
              cases r with
              | ok vs h' => exact fun g' H' us' st' => fin' g' H' us' (s12.back.trans st')
              | no => exact fin'
              | exc _ _ _ _ => exact fin'
            | true =>
              rw [if_pos rfl]
              refine ⟨g2, ρ', h1, rh2, rs2.stp st2, ?_⟩
              simp only [Res.bind, if_pos rfl] at fin
              cases ee : fe ρ' h1 with
              | no => rw [ee] at fin; exact fin.elim
              | exc _ _ _ _ => rw [ee] at fin; exact fin.elim
              | ok v h2 =>
                rw [ee] at fin
                simp only at fin
                intro g3 H3 yv st3 rh3 rv3
                have s13 : Stp (gi.keep D) H g3 H3 := s12.trans st3
                have kD3 : g3.kp D := st3.kp D kD2
                have hD3 : H3 D = some (.lst us) := by rw [st3.kH D kD2]; exact hD2
                have rvs3 : RTs c g3 H3 acc us := (RTs.back (k := (gi.keep D).kp) rvs).stp s13
                have nf3 := (rh3.kd D kD3).1
                have ni3 := (rh3.kd D kD3).2
                refine ⟨us, hD3, by rw [← rvs.len]; exact SZ_lt (by omega), ?_⟩
                -- write D
                have sw : Stp (g3.back gi.kp) H3 (g3.back gi.kp) (upd H3 D (.lst (us ++ [yv]))) := Stp.wr (c := c) (g := g3.back gi.kp) nf3 nk (fun ys z => by rw [hD3] at z; cases z)
                have rhb : RH c (g3.back gi.kp) h2 H3 := rh3.back (fun p z => s13.kp p (.inl z))
                have rhw : RH c (g3.back gi.kp) h2 (upd H3 D (.lst (us ++ [yv]))) := by
                  refine ⟨rhb.len, rhb.nd, fun n o a q1 q2 => ?_, fun q z => ?_, fun q z => ?_, rhb.kd, rhb.tb.upd (by rw [hD3]; exact noTab_of (fun _ z => by cases z) (fun _ z => by cases z)), fun q z ps y => rhb.nt q z ps (by rw [upd_ne (show q ≠ D from fun e => z.elim (fun z => nf3 (e ▸ z)) (fun z => nk (e ▸ z)))] at y; exact y)⟩
                  · have na : a ≠ D := fun z => ni3 (z ▸ List.mem_of_getElem? q2)
                    exact RO.stp sw (fun h => h) (upd_ne na) (rhb.at' n o a q1 q2)
                  · rw [upd_ne (show q ≠ D from fun e => nf3 (e ▸ z))]; exact rhb.fz q z
                  · rw [upd_ne (show q ≠ D from fun e => nk (e ▸ z))]; exact rhb.kp q z
                refine ⟨g3.back gi.kp, h2, acc ++ [v], us ++ [yv], by rw [List.length_append]; simp; omega, (st.trans s13.back).trans sw, rhw, upd_same, nf3, ni3, nk, ?_, ?_⟩
                · exact (RTs.app (RTs.back (k := gi.kp) rvs3) (RTs.one (RT.back rfl rfl rv3))).stp sw
                · generalize lcGoR b ft fe (wp ρ own) (xs.drop (i + 1)) h2 = r at fin ⊢
                  cases r with
                  | ok vs h' =>
                    intro g' H' us' st' rh' d1 d2 d3 d4 rv'
                    rw [List.append_assoc] at rv'
                    exact fin g' H' us' ((s13.back.trans sw).trans st') rh' d1 d2 d3 d4 rv'
                  | no => exact fin
                  | exc _ _ _ _ => exact fin
    · have e : i = xs.length := by omega
      subst e
      refine .inl ⟨dl.stop gi H st.f _ (Nat.le_refl _), ?_⟩
      rw [List.drop_length] at fin
      unfold lcGoR at fin
      refine fin gi H us .refl rhi hDl nf ni nk ?_
      rw [List.append_nil]; exact rvs
section
variable {X : Cx} {W : WX}
theorem tLcR_of {own : List Nat} {it : AF} {b : VV → VSt → Option VSt} {ft : TF} {fe : EF} {tg : TG} (pat : PatOk X.K tg b own)
    {σ : St} {H : Hp} {Q : VK} (h : tE (ct X) W (eLcR own it b ft fe) σ H Q) :
    tLc (tI (ct X) W it) tg (tT (ct X) W0 ft) (tE (ct X) W0 fe) own σ H Q := by
  obtain ⟨g, ρ, h0, rh, rs, p⟩ := tG.bind (R := fun g H xs J => Deliv (ct X) g H xs J) (f := it) (k := fun (xs : List VV) ρ h1 => if xs.length > SZ then .no else (match lcGoR b ft fe (wp ρ own) xs h1 with
      | .ok vs h2 => Res.ok (VV.obj h2.length) (h2 ++ [VO.lo vs])
      | _ => .no)) h
  refine ⟨g, ρ, h0, rh, rs, p.imp fun J H1 ⟨g1, ρ1, xs, h1, rh1, rs1, dl, p1⟩ D hD => ?_⟩
  by_cases hz : xs.length > SZ
  · rw [if_pos hz] at p1; exact p1.elim
  · rw [if_neg hz] at p1
    refine lc_runR (Wx := W) (fun _ _ _ _ z => z) rfl pat dl (by omega) rh1 rs1 hD ?_
    generalize lcGoR b ft fe (wp ρ1 own) xs h1 = r at p1 ⊢
    cases r with
    | ok vs h' =>
      intro g' H' us st rh' e nf ni nk rv'
      have q := Pst.step st p1
      refine q (g'.add D) H' (.ref D) .add (rh'.add ni nk ⟨nf, us, e, rv'.stp .add⟩) ⟨D, ?_, rfl⟩
      show (g'.io ++ [D])[h'.length]? = some D
      rw [← rh'.len, List.getElem?_append_right (Nat.le_refl _), Nat.sub_self]; rfl
    | no => exact p1
    | exc _ _ _ _ => exact p1
theorem j_lcR {elt tg iter : Expr} {ifs : List Expr} {scope : Scope} {own : List (Str × Nat)} {pos : Pos} {it : AF} {g : TG} {b : VV → VSt → Option VSt} {ft : TF} {fe : EF} (hc : X.calm = true) (hN : X.N.Nodup) (hi : PI X tg iter (tI (ct X) W it)) (ok : BlkOk X.N X.env.scope scope own)
    (hg : ∀ (s : Shared) (H : Hp) (C : Addr) (cl : List (Str × Addr)) (fp : List Addr), PG (X.blk s H scope (compEnvC scope cl C X.env) fp) tg g) (pat : PatOk X.K g b (own.map (·.2)))
    (ht : ∀ (s : Shared) (H : Hp) (C : Addr) (cl : List (Str × Addr)) (fp : List Addr), PTs (X.blk s H scope (compEnvC scope cl C X.env) fp) ifs (tT (ct X) W0 ft))
    (he : ∀ (s : Shared) (H : Hp) (C : Addr) (cl : List (Str × Addr)) (fp : List Addr), PE (X.blk s H scope (compEnvC scope cl C X.env) fp) elt (tE (ct X) W0 fe)) (hs : ∀ x, foldedSetIterable iter X.env x = pure x := by intro _; rfl) :
    PE X (.ListComp elt [⟨tg, iter, ifs, 0⟩] scope pos) (tE (ct X) W (eLcR (own.map (·.2)) it b ft fe)) :=
  PE.mono (pe_lc hc hN hi ok hg ht he hs) fun σ H Q h => tLcR_of pat h
end
end J
namespace J
open PySem L2
open PyProof.Rows (envOfC)
/-! calls with keywords -/
section
variable {X : Cx} {W : WX}
theorem PK.mono {e : List Keyword} {t t' : TA} (h : PK X e t) (m : ∀ σ H Q, t' σ H Q → t σ H Q) : PK X e t' := ⟨fun pos pins s σ H Q I q => h.run pos pins s σ H Q I (m σ H Q q)⟩
theorem jk_nil : PK X [] (tA (ct X) W aNil) := PK.mono pk_nil fun σ H Q ⟨g, ρ, h0, rh, rs, p⟩ => p g H [] .refl rh rfl
theorem jk_cons {e : Expr} {kws : List Keyword} {nm : Option Str} {kpos : Pos} {fa : EF} {fb : AF} (ha : PE X e (tE (ct X) W fa)) (hr : PK X kws (tA (ct X) W fb)) : PK X (⟨nm, e, kpos⟩ :: kws) (tA (ct X) W (aCons fa fb)) :=
  PK.mono (pk_cons ha hr) fun σ H Q h => by
    obtain ⟨g, ρ, h0, rh, rs, p⟩ := tG.bind (R := RT (ct X)) (f := fa) (k := fun v ρ h1 => (fb ρ h1).bind fun w h2 => .ok (v :: w) h2) h
    refine ⟨g, ρ, h0, rh, rs, p.imp fun u H1 ⟨g1, ρ1, v, h1, rh1, rs1, rv1, p1⟩ => ?_⟩
    refine ⟨g1, ρ1, h1, rh1, rs1, (Pst.bind (R := RTs (ct X)) p1).imp fun u2 H2 ⟨g2, w, h2, st, rh2, rv2, p2⟩ => ?_⟩
    exact p2 g2 H2 (u :: u2) .refl rh2 ⟨u, u2, rfl, rv1.stp st, rv2⟩
/-- positional values, then the keywords' -/
def aApp (n m : Nat) (a b : AF) : AF := fun ρ h => (a ρ h).bind fun vs h1 => (b ρ h1).bind fun ws h2 => if vs.length = n ∧ ws.length = m then .ok (vs ++ ws) h2 else .no
/-- a def that is called with keywords ks behind n values -/
structure OkK (P : Program) (w : World) (K : PySem.W.Frag) (mg : Str → Option Value) (base : Heap) (k : Nat) (x : Str) (n : Nat) (ks : List Str) (m : Nat) (Fm : FF) : Prop where
  ex : ∃ (f : Addr) (fd : FuncData) (ps : List Str), mg x = some (.ref f) ∧ PySem.W.keepIn K (.ref f) = true ∧ FnOk P w K mg base (L2N.CX P w) k f fd ps (spF ⟨K, mg⟩ m Fm) ∧ KBn K fd ps n ks (fun us ws => us ++ ws) (fun vs zs => vs ++ zs)
theorem run_kw {CX : CXT} {k n : Nat} {f : Addr} {fd : FuncData} {ps ks : List Str} {sp : Sp} {E : St → XK} {g : List Value → List Value → List Value} {gV : List V → List V → List V} {pins : List (Addr × Obj)} {σ : St} {H : Hp} {s : Shared} {Q : VK} {us ws : List Value} {vs zs : List V}
    (F : FnOk X.prog X.w X.K X.mg X.base CX k f fd ps sp) (hr : Room k X.A) (hb : KBn X.K fd ps n ks g gV) (hx : PassesAt CX X σ (E σ))
    (I : Inv X pins σ H s) (r : Vals vs us) (rz : Vals zs ws) (l1 : vs.length = n) (l2 : zs.length = ks.length) (h : sp (gV vs zs) H Q (E σ)) : wpAny (model X.prog X.w) X.A (call (.ref f) us (ks.zip ws)) (EP X pins σ Q) X.xe s := by
  have bound := hb.to s us ws I.kIn (r.length.symm.trans l1) (rz.length.symm.trans l2)
  have run := F.run X.A X.stack s H ⟨us, ks.zip ws⟩ (g us ws) (gV vs zs) Q (E σ) hr I.env0 bound (hb.rel r rz) h
  refine wpAny_call (codeAny_mono run fun res s' hq => ?_)
  match res, hq with
  | .error e, hq => exact hx pins H s e s' I hq
  | .ok (.ret u), hq => exact I.after hq
theorem j_callKw {k n m N : Nat} {ks : List Str} {Fm : FF} {x : Str} {p pos : Pos} {e : Expr} {es : List Expr} {kws : List Keyword} {fa fk : AF} (O : OkK X.prog X.w X.K X.mg X.base k x n ks N Fm) (hr : Room k X.A) (hg : Gl X x) (tk : L2N.Takes X W)
    (ha : PA X (e :: es) (tA (ct X) W fa)) (hkw : PK X kws (tA (ct X) W fk)) (hml : ks.length = m := by rfl) (hall : (backToKw pos (keywordEach kws X.env)).all (·.1.isSome) = true := by rfl) (hks : (backToKw pos (keywordEach kws X.env)).filterMap (·.1) = ks := by rfl)
    (hdb : (x == ("__debug__" : Str)) = false := by decide) (he : starEach (e :: es) X.env = (false, eval e X.env) :: starEach es X.env := by rfl)
    (hpl : ((backTo pos (starEach (e :: es) X.env)).any (·.1) || (backToKw pos (keywordEach kws X.env)).any (·.1.isNone)) = false := by rfl) :
    PE X (.Call (.Name x p) (e :: es) kws pos) (tE (ct X) W (eFn N Fm [] (aApp n m fa fk))) := by
  subst hml
  obtain ⟨f, fd, ps, hm, hk, F, hb⟩ := O.ex
  refine ⟨fun pins s σ H Q I ⟨g, ρ, h0, rh, rs, p⟩ => ?_⟩
  refine wpAny_Call_Name_kw (ld_glob I hg hm ?_ hdb)
  unfold eFn aApp at p
  rw [res_assoc] at p
  refine PySem.W.callWith_KW (h₀ := X.base) I.ok.mod.kin hk hall (thn (ha.run pos pins s σ H _ I ⟨g, ρ, h0, rh, rs, Pst.bind (R := RTs (ct X)) p⟩) fun us s1 ⟨vs, H1, I1, r, g1, ws, h1, st, rh1, rts, p1⟩ => ?_) hpl he
  rw [res_assoc] at p1
  refine thn (hkw.run pos pins s1 σ H1 _ I1 ⟨g1, ρ, h1, rh1, rs.stp st, Pst.bind (R := RTs (ct X)) p1⟩) fun us2 s2 ⟨zs, H2, I2, rz, g2, zz, h2, st2, rh2, rts2, p2⟩ => ⟨I2.kIn, ?_⟩
  rw [hks]
  by_cases cc : ws.length = n ∧ zz.length = ks.length
  · rw [if_pos cc] at p2
    simp only [Res.bind, List.append_nil] at p2
    by_cases hl : (ws ++ zz).length = N
    · rw [if_pos hl] at p2
      exact run_kw (E := WE W) F hr hb (L2N.passAt tk σ) I2 r rz (rts.len.symm.trans cc.1) (rts2.len.symm.trans cc.2) ⟨g2, ws ++ zz, h2, rh2, RTs.append (rts.stp st2) rts2, hl, pst_call p2⟩
    · rw [if_neg hl] at p2; exact p2.elim
  · rw [if_neg cc] at p2; exact p2.elim
end
section
variable {P : Program} {w : World} {K : PySem.W.Frag} {mg : Str → Option Value} {base : Heap}
/-- every parameter is given, the last ones by keywords -/
theorem okK_of {x : Str} {st : Stmt} {kws : List (Str × V)} {f : Addr} {fd : FuncData} {ps : List Str} {k m : Nat} {Fm : FF} (D : Dn K mg x st [] kws f fd) (hF : FnOk P w K mg base (L2N.CX P w) k f fd ps (spF ⟨K, mg⟩ m Fm)) (n : Nat) (ks : List Str)
    (h : ∀ (kV doc pm : Value) (an : Option Addr) (cdv ct : Value) (us ws : List Value), us.length = n → ws.length = ks.length → bindArgs (PySem.W.fnOf x x (defArgs st) (defBody st) (defScope st) .none kV doc pm an cdv ct) ⟨us, ks.zip ws⟩ = pure (ps.zip (us ++ ws))) : OkK P w K mg base k x n ks m Fm := by
  obtain ⟨oc, od, dV, kV, doc, pm, an, cdv, ct, osl, rfl, lk, hcd, hD, hK⟩ := D.F.ex
  rcases hD with ⟨_, rfl⟩ | ⟨e, _⟩
  · exact ⟨f, _, ps, D.m, D.F.kp, hF, ⟨fun s us ws X l1 l2 => .of_eq (h kV doc pm an cdv ct us ws l1 l2), fun r1 r2 => r1.append r2⟩⟩
  · exact absurd rfl e
end
section
variable {X : Cx} {W : WX}
/-! xs[i] op= e, xs a root -/
theorem get_list : PGet X (rIxL X.K) := by
  intro pins s σ H o i ov iv Q I ro ri h
  obtain ⟨p, xs, k, z, rfl, rfl, hq, he, q⟩ := h
  cases ro
  obtain ⟨t, rfl⟩ := ri
  obtain ⟨its, r, pl, hz⟩ := I.list hq
  obtain ⟨j, h1, h2, h3, h4, h5⟩ := atI_get he
  obtain ⟨w, ew, rw'⟩ := r.get h2
  have hl := r.length
  have hn := line63
  have fin : EP X pins σ Q w s := ⟨z, H, I, rw', q⟩
  by_cases h0 : 0 ≤ k
  · have hj : k.toNat = j := by
      rw [seqIndex_of h0 h5] at h1
      exact Option.some.inj h1
    exact wpAny_getItem_list pl.isList h0 (by omega) (by rw [hj]; simpa using ew) fin
  · have hj : (k + (its.toArray.size : Int)).toNat = j := by
      rw [seqIndex_neg (by omega) h4] at h1
      rw [List.size_toArray, ← hl]
      exact Option.some.inj h1
    exact wpAny_getItem_list_neg pl.isList (by omega) (by rw [List.size_toArray] <;> omega) (by omega) (by rw [hj]; simpa using ew) fin
/-- o[i] += e, ints -/
def augV (fe : EF) (ρ : VSt) (ov iv : VV) (h2 : VH) : SR := if ov.isObj = true then (match opIx h2 ov iv with
  | some (.int a) => (fe ρ h2).st ρ fun v h3 => match v with
    | .int b => match setI h3 ov iv (.int (a + b)) with
      | some h4 => .nx ρ h4
      | none => .no
    | _ => .no
  | _ => .no) else .no
def sAugI (o i e : EF) : SF := fun ρ h => (o ρ h).st ρ fun ov h1 => (i ρ h1).st ρ fun iv h2 => augV e ρ ov iv h2
theorem opIx_list {c : Ct} {g : Gh} {h : VH} {H : Hp} {n : Nat} {i w : VV} {x y : V} {r : VV} (rh : RH c g h H) (rv : RT c g H (.obj n) x) (ri : RT c g H i y) (e : opIx h (.obj n) i = some r) :
    ∃ p us k u, x = .ref p ∧ y = .int k ∧ SqL c.K H p us ∧ atI us k = some u ∧ RT c g H r u := by
  cases i with
  | int k =>
    have e' : ((lstR h (.obj n)).bind fun xs => atI xs k) = some r := e
    obtain ⟨xs, e1, e2⟩ := Option.bind_eq_some_iff.mp e'
    obtain ⟨p, us, ep, sp, rp⟩ := lstR_get rh rv e1
    obtain ⟨u, eu, ru⟩ := atI_rt rp e2
    exact ⟨p, us, k, u, ep, int_get ri, sp, eu, ru⟩
  | _ => cases e
theorem js_augI {o i e : Expr} {fo fi fe : EF} {pos tpos : Pos} (ho : PE X o (tE (ct X) W fo)) (hi : PE X i (tE (ct X) W fi)) (he : PE X e (tE (ct X) W fe))
    (ha : ∀ ov iv new, augStore i ov iv new = (do holding [new, ov, iv] (setItem ov iv new); release [new, ov, iv] []; pure .next) := by intros; rfl) :
    PS X (.AugAssign (.Subscript o i tpos) .Add e pos) (tS (ct X) W (sAugI fo fi fe)) :=
  PS.mono (ps_augS ho hi get_list he ip_add set_list ha) fun D σ H ⟨g, ρ, h, rh, rs, p⟩ => by
    refine ⟨g, ρ, h, rh, rs, (Pst.st (R := RT (ct X)) rs p).imp fun u H1 ⟨g1, ov, h1, st, rh1, rs1, rv1, p1⟩ => ?_⟩
    refine ⟨g1, ρ, h1, rh1, rs1, (Pst.st (R := RT (ct X)) rs1 p1).imp fun u2 H2 ⟨g2, iv, h2, st2, rh2, rs2, rv2, p2⟩ => ?_⟩
    unfold augV at p2
    split at p2
    · rename_i co
      split at p2
      · rename_i a e1
        cases ov with
        | obj n =>
          obtain ⟨q, us, k, z, rfl, ek, sq, ea, ra⟩ := opIx_list (w := .non) rh2 (rv1.stp st2) rv2 e1
          refine ⟨q, us, k, z, rfl, ek, sq, ea, g2, ρ, h2, rh2, rs2, (Pst.st (R := RT (ct X)) rs2 p2).imp fun u3 H3 ⟨g3, v, h3, st3, rh3, rs3, rv3, p3⟩ => ?_⟩
          split at p3
          · rename_i b
            refine ⟨a, b, int_get ra, int_get rv3, ?_⟩
            cases e2 : setI h3 (.obj n) iv (.int (a + b)) with
            | none => rw [e2] at p3; exact p3.elim
            | some h4 =>
              rw [e2] at p3
              exact setI_ok rh3 ((rv1.stp st2).stp st3) (rv2.stp st3) rt_int e2 _ fun H' st' rh' => p3 g3 H' σ st' rh' (rs3.stp st')
          · exact p3.elim
        | _ => cases co
      · exact p2.elim
    · exact p2.elim
end
end J
namespace J
open PySem L2
open PyProof.Rows (envOfC)
/-! x in y -/
def seqV (h : VH) : VV → Option (List VV)
  | .tup xs => some xs
  | v => lstOf h v
theorem seqV_get {c : Ct} {g : Gh} {h : VH} {H : Hp} {v : VV} {u : V} {xs : List VV} (rh : RH c g h H) (rv : RT c g H v u) (e : seqV h v = some xs) : ∃ p us, u = .ref p ∧ (SqL c.K H p us ∨ SqT c.K H p us) ∧ RVs c g.fz H xs us := by
  have old : lstOf h v = some xs → ∃ p us, u = .ref p ∧ (SqL c.K H p us ∨ SqT c.K H p us) ∧ RVs c g.fz H xs us := fun e => by
    obtain ⟨p, us, a, b, r⟩ := lstOf_get rh rv e
    exact ⟨p, us, a, .inl b, r⟩
  cases v with
  | tup ys =>
    cases e
    obtain ⟨p, us, a, b, r⟩ := tup_get rv
    exact ⟨p, us, a, .inr b.sq, r⟩
  | _ => exact old e
section
variable {X : Cx} {W : WX}
/-! min, int -/
def cInt : OpN := fun _ vs => match vs with
  | [.int i] => some (.int i)
  | [.bl b] => some (.int (if b then 1 else 0))
  | _ => none
theorem cr_intJ : CallR X (.type "int") (RdN (ct X) cInt) :=
  CallR.imp call_int1 fun xs H Q ⟨g, h, vs, r, rh, rv, e, kk⟩ => by
    unfold cInt at e
    split at e
    · cases e
      obtain ⟨u, q, rfl, a, rfl⟩ := rv
      exact .inl ⟨_, by rw [int_get a], kk g H _ .refl rh rt_int⟩
    · cases e
      obtain ⟨u, q, rfl, a, rfl⟩ := rv
      exact .inr ⟨_, by rw [bl_get a], kk g H _ .refl rh rt_int⟩
    · cases e
/-! new lists as roots -/
abbrev OpL := VH → List VV → Option (List VV)
def newO (o : Option (List VV)) (h : VH) : Res VV := match o with
  | some xs => .ok (.obj h.length) (h ++ [.fl xs])
  | none => .no
def eNewO (op : OpL) (a : AF) : EF := fun ρ h => (a ρ h).bind fun v h1 => newO (op h1 v) h1
def RnN (c : Ct) (op : OpL) : List V → Hp → VK → Prop := fun xs H Q => ∃ g h vs r, RH c g h H ∧ RTs c g H vs xs ∧ op h vs = some r ∧ ∀ g' H' u, Stp g H g' H' → RH c g' (h ++ [.fl r]) H' → RT c g' H' (.obj h.length) u → Q u H'
theorem tCBO_of {r : List V → Hp → VK → Prop} {op : OpL} {fa : AF} (m : ∀ x H Q, RnN (ct X) op x H Q → r x H Q) {σ : St} {H : Hp} {Q : VK} (h : tE (ct X) W (eNewO op fa) σ H Q) : tCB r (tA (ct X) W fa) σ H Q := by
  obtain ⟨g, ρ, h0, rh, rs, p⟩ := h
  refine ⟨g, ρ, h0, rh, rs, (Pst.bind (R := RTs (ct X)) p).imp fun u H1 ⟨g1, v, h1, st, rh1, rv1, p1⟩ => ?_⟩
  unfold newO at p1
  split at p1
  · rename_i xs e
    exact m _ _ _ ⟨g1, h1, v, xs, rh1, rv1, e, fun g' H' u st' rh' rv' => p1 g' H' u st' rh' rv'⟩
  · exact p1.elim
theorem j_callTyO {x : Str} {p pos : Pos} {T : String} {op : OpL} {e : Expr} {es : List Expr} {fa : AF} (hc : CallR X (.type T) (RnN (ct X) op)) (hg : Gl X x) (hm : X.mg x = none) (hv : bootBuiltins x = some (.type T)) (ha : PA X (e :: es) (tA (ct X) W fa)) (hn : x ≠ "__name__" := by decide) (hdb : (x == ("__debug__" : Str)) = false := by decide)
    (he : starEach (e :: es) X.env = (false, eval e X.env) :: starEach es X.env := by rfl) (hpl : (backTo pos (starEach es X.env)).any (·.1) = false := by rfl) :
    PE X (.Call (.Name x p) (e :: es) [] pos) (tE (ct X) W (eNewO op fa)) :=
  PE.mono (pe_callTy hc hg hm hv ha hn hdb he hpl) fun σ H Q h => tCBO_of (fun _ _ _ q => q) h
def lList : OpL := fun h vs => match vs with
  | [v] => seqV h v
  | _ => none
theorem root_of {c : Ct} {g : Gh} {h : VH} {H : Hp} {p : Addr} {vs : List VV} {us : List V} (rh : RH c g h H) (hp : H p = none) (rv : RVs c g.fz H vs us) :
    Stp g H (g.add p) (upd H p (.lst us)) ∧ RH c (g.add p) (h ++ [.fl vs]) (upd H p (.lst us)) ∧ RT c (g.add p) (upd H p (.lst us)) (.obj h.length) (.ref p) := by
  have st : Stp g H g (upd H p (.lst us)) := .junk rh hp
  have rh1 : RH c g h (upd H p (.lst us)) := rh.junk hp
  have nq : p ∉ g.io := fun z => by
    obtain ⟨o, e⟩ := rh.root z
    rw [hp] at e; cases e
  refine ⟨st.trans .add, rh1.add nq (fun z => ?_) ⟨fun z => ?_, us, upd_same, st.rvs rv⟩, ⟨p, ?_, rfl⟩⟩
  · obtain ⟨o, e⟩ := rh.kp p z; rw [hp] at e; cases e
  · obtain ⟨o, e⟩ := rh.fz p z; rw [hp] at e; cases e
  · show (g.io ++ [p])[h.length]? = some p
    rw [← rh.len, List.getElem?_append_right (Nat.le_refl _), Nat.sub_self]; rfl
theorem cr_listO : CallR X (.type "list") (RnN (ct X) lList) :=
  CallR.imp call_list_of fun xs H Q ⟨g, h, vs, r, rh, rv, e, kk⟩ => by
    unfold lList at e
    split at e
    · obtain ⟨u, q, rfl, a, rfl⟩ := rv
      obtain ⟨p, us, ep, sp, rp⟩ := seqV_get rh a e
      refine ⟨p, us, by rw [ep], sp, fun l hl => ?_⟩
      obtain ⟨s1, s2, s3⟩ := root_of rh hl rp
      exact kk _ _ _ s1 s2 s3
    · cases e
/-- [..] * n as a root -/
def repO (v w : VV) : Option (List VV) := match v, w with
  | .lst xs, .int k => if -(2 ^ 63) ≤ k ∧ k < 2 ^ 63 ∧ xs.length * k.toNat ≤ SZ then some (List.replicate k.toNat xs).flatten else none
  | _, _ => none
def eRepO (a b : EF) : EF := fun ρ h => (a ρ h).bind fun v h1 => (b ρ h1).bind fun w h2 => newO (repO v w) h2
theorem j_repO {a b : Expr} {fa fb : EF} {pos : Pos} (ha : PE X a (tE (ct X) W fa)) (hb : PE X b (tE (ct X) W fb)) : PE X (.BinOp a .Mult b pos) (tE (ct X) W (eRepO fa fb)) :=
  PE.mono (pe_op op_rep ha hb) fun σ H Q ⟨g, ρ, h0, rh, rs, p⟩ => by
    refine ⟨g, ρ, h0, rh, rs, (Pst.bind (R := RT (ct X)) p).imp fun u H1 ⟨g1, v, h1, st, rh1, rv1, p1⟩ => ?_⟩
    refine ⟨g1, ρ, h1, rh1, rs.stp st, (Pst.bind (R := RT (ct X)) p1).imp fun u2 H2 ⟨g2, w, h2, st2, rh2, rv2, p2⟩ => ?_⟩
    unfold newO at p2
    split at p2
    · rename_i r e
      unfold repO at e
      split at e
      · split at e
        · rename_i xs k _ cc
          obtain rfl := Option.some.inj e
          obtain ⟨q, us, rfl, hq, rvs⟩ := lstOf'_get (xs := xs) rh2 (rv1.stp st2) rfl
          refine ⟨q, k, us, rfl, int_get rv2, hq, cc.1, cc.2.1, by rw [← rvs.len]; exact SZ_le cc.2.2, fun l hl => ?_⟩
          obtain ⟨s1, s2, s3⟩ := root_of rh2 hl (rvs.rep k.toNat)
          exact p2 _ _ _ s1 s2 s3
        · cases e
      · cases e
    · exact p2.elim
/-! list(range(n)) -/
def eListRngO (f : EF) : EF := fun ρ h => (f ρ h).bind fun v h1 => match v with
  | .int n => if 0 ≤ n ∧ n ≤ SZ then .ok (.obj h1.length) (h1 ++ [.fl (rngV 0 n.toNat)]) else .no
  | _ => .no
/-! l.index(x), tuples of ints -/
end
end J
namespace J
open PySem L2
open PyProof.Rows (envOfC)
def eDnew : EF := fun _ h => .ok (.obj h.length) (h ++ [.dT [] []])
/-! methods and classes of the text -/
structure Dm (K : PySem.W.Frag) (x q : Str) (st : Stmt) (dvs : List V) (kws : List (Str × V)) (f : Addr) (fd : FuncData) : Prop where
  F : FunD K x q (defArgs st) (defBody st) (defScope st) dvs kws f fd
/-- a class: what is read of it -/
structure ClsT (K : PySem.W.Frag) (mg : Str → Option Value) (cn : Str) (C : Addr) : Prop where
  m : mg cn = some (.ref C)
  c : Cls K C
section
variable {P : Program} {w : World} {K : PySem.W.Frag} {mg : Str → Option Value} {base : Heap}
theorem fnokM_of {x q : Str} {st : Stmt} {dvs : List V} {kws : List (Str × V)} {f : Addr} {fd : FuncData} {N ps : List Str} {k n m : Nat} {B : SF} (D : Dm K x q st dvs kws f fd) (S : FnScope N ps (defScope st)) (hn : n = N.length) (hp : ps.length ≤ n) (hm : m = ps.length)
    (hbody : ∀ (cdv : Value) (A : Around) (outer : List Env) (s : Shared) (H : Hp) (E : XK), Room k (A.deeper (envOfC q (defScope st) s.heap.objs.size f cdv)) →
      PSs (cxOf (L2N.CX P w) P w K mg base N q (defScope st) f cdv A outer s H E) (defBody st) (tS ⟨K, mg⟩ (fun a d _ H' => E a d H') B)) :
    FnOk P w K mg base (L2N.CX P w) (k + 1) f fd ps (spF ⟨K, mg⟩ m (fnF n B)) := by
  subst hm
  exact fn_ok D.F S hn hp hbody
/-- all parameters are given -/
theorem okM_of {cn x q : Str} {st : Stmt} {kws : List (Str × V)} {C f : Addr} {fd : FuncData} {ps : List Str} {k m : Nat} {Fm : FF} (T : ClsT K mg cn C) (M : Meth K C x f) (D : Dm K x q st [] kws f fd) (hF : FnOk P w K mg base (L2N.CX P w) k f fd ps (spF ⟨K, mg⟩ m Fm))
    (hb : ∀ (kV doc pm : Value) (an : Option Addr) (cdv ct : Value) (us : List Value), us.length = ps.length → bindArgs (PySem.W.fnOf x q (defArgs st) (defBody st) (defScope st) .none kV doc pm an cdv ct) ⟨us, []⟩ = pure (ps.zip us)) :
    OkM P w K mg base k cn x m [] Fm := ⟨C, f, fd, ps, [], [], T.m, T.c, M, hF, D.F.bindsN hb, .nil, fun _ _ => rfl⟩
theorem okC_of {cn x q : Str} {st : Stmt} {C f : Addr} {fd : FuncData} {ps : List Str} {k m : Nat} {Fm : FF} (T : ClsT K mg cn C) (M : Mk K C f) (D : Dm K x q st [] [] f fd) (hF : FnOk P w K mg base (L2N.CX P w) k f fd ps (spF ⟨K, mg⟩ m Fm))
    (hb : ∀ (kV doc pm : Value) (an : Option Addr) (cdv ct : Value) (us : List Value), us.length = ps.length → bindArgs (PySem.W.fnOf x q (defArgs st) (defBody st) (defScope st) .none kV doc pm an cdv ct) ⟨us, []⟩ = pure (ps.zip us)) :
    OkC P w K mg base k cn m [] Fm := ⟨C, f, fd, ps, [], [], T.m, M, hF, D.F.bindsN hb, .nil, fun _ _ => rfl⟩
end
theorem fld_of {K : PySem.W.Frag} {mg : Str → Option Value} {cn f : Str} {C : Addr} (T : ClsT K mg cn C) (n : PySem.W.findIn K (.ref C) f = some none) : ∀ C', mg cn = some (.ref C') → Cls K C' ∧ NoAttr K C' f := fun C' e => by
  rw [T.m] at e
  cases e
  exact ⟨T.c, n⟩
end J
namespace J
open PySem L2
/-! evaluation of what J8 to J27 added -/
section
variable {ρ : VSt} {h : VH}
def frzO (o : Option VO) (n : Nat) (h : VH) : Res VV := match o with
  | some (.fl xs) => .ok (.lst xs) (h.set n (.fzn (.lst xs)))
  | some (.fzn w) => .ok w h
  | some (.dT ks vs) => .ok (.dT ks vs) (h.set n (.fzn (.dT ks vs)))
  | some (.dK ks vs) => .ok (.dK ks vs) (h.set n (.fzn (.dK ks vs)))
  | some (.lo xs) => frzR (.obj n) h
  | some (.ins _ _ _) => frzR (.obj n) h
  | none => .no
theorem a_frzD {f} : eFrzD f ρ h = bnd (f ρ h) frzR (tg _) := nr rfl
theorem frzR_obj {n : Nat} : frzR (.obj n) h = frzO (h[n]?) n h := by
  cases e : h[n]? with
  | none => simp only [frzO, frzR, frzV, e]
  | some o => cases o <;> simp only [frzO, frzR, frzV, e]
theorem frzO_fl {xs n} : frzO (some (.fl xs)) n h = .ok (.lst xs) (h.set n (.fzn (.lst xs))) := nr rfl
theorem frzO_fzn {w n} : frzO (some (.fzn w)) n h = .ok w h := nr rfl
theorem frzR_lst {xs} : frzR (.lst xs) h = .ok (.lst xs) h := nr rfl
theorem frzR_tup {xs} : frzR (.tup xs) h = .ok (.tup xs) h := nr rfl
theorem frzR_int {i} : frzR (.int i) h = .ok (.int i) h := nr rfl
theorem a_newO {op a} : eNewO op a ρ h = bnd (a ρ h) (fun v h1 => newO (op h1 v) h1) (tg _) := nr rfl
theorem newO_some {xs} : newO (some xs) h = .ok (.obj h.length) (h ++ [.fl xs]) := nr rfl
theorem lList_lst {xs} : lList h [.lst xs] = some xs := nr rfl
theorem lList_tup {xs} : lList h [.tup xs] = some xs := nr rfl
def lrO (v : VV) (h1 : VH) : Res VV := match v with
  | .int n => if 0 ≤ n ∧ n ≤ SZ then .ok (.obj h1.length) (h1 ++ [.fl (rngV 0 n.toNat)]) else .no
  | _ => .no
theorem a_listRngO {f} : eListRngO f ρ h = bnd (f ρ h) lrO (tg _) := nr rfl
theorem lrO_int {n : Int} : lrO (.int n) h = if 0 ≤ n ∧ n ≤ SZ then .ok (.obj h.length) (h ++ [.fl (rngV 0 n.toNat)]) else .no := nr rfl
theorem a_repO {a b} : eRepO a b ρ h = bnd (a ρ h) (fun v h1 => bnd (b ρ h1) (fun w h2 => newO (repO v w) h2) (tg _)) (tg _) := nr rfl
theorem repO_lst {xs : List VV} {k : Int} : repO (.lst xs) (.int k) = if -(2 ^ 63) ≤ k ∧ k < 2 ^ 63 ∧ xs.length * k.toNat ≤ SZ then some (List.replicate k.toNat xs).flatten else none := nr rfl
def chkL {α : Type} (o : Option (List VV)) (r : Res α) : Res α := match o with
  | none => .no
  | some _ => r
theorem chkL_some {α : Type} {xs : List VV} {r : Res α} : chkL (some xs) r = r := nr rfl
def lstO (o : Option VO) : Option (List VV) := match o with
  | some (.fl xs) => some xs
  | some (.fzn (.lst xs)) => some xs
  | _ => none
theorem lstOf_obj {n : Nat} : lstOf h (.obj n) = lstO (h[n]?) := by
  unfold lstOf lstO
  rfl
theorem lstO_fl {xs} : lstO (some (.fl xs)) = some xs := nr rfl
theorem lstO_fzn {xs} : lstO (some (.fzn (.lst xs))) = some xs := nr rfl
def lstRO (o : Option VO) : Option (List VV) := match o with
  | some (.lo xs) => some xs
  | some (.fl xs) => some xs
  | some (.fzn (.lst xs)) => some xs
  | _ => none
theorem lstR_obj {n : Nat} : lstR h (.obj n) = lstRO (h[n]?) := by
  cases e : h[n]? with
  | none => simp only [lstR, lstRO, lstOf, e]
  | some o =>
    cases o with
    | fzn w => cases w <;> simp only [lstR, lstRO, lstOf, e]
    | _ => simp only [lstR, lstRO, lstOf, e]
theorem lstRO_fl {xs} : lstRO (some (.fl xs)) = some xs := nr rfl
theorem lstRO_lo {xs} : lstRO (some (.lo xs)) = some xs := nr rfl
theorem lstRO_fzn {xs} : lstRO (some (.fzn (.lst xs))) = some xs := nr rfl
def popO (o : Option VO) (n : Nat) (k : Int) (h : VH) : Res VV := match o with
  | some (.fl xs) => if 0 ≤ k ∧ k < xs.length ∧ k < 2 ^ 62 then (match xs[k.toNat]? with
    | some v => .ok v (h.set n (.fl (xs.eraseIdx k.toNat)))
    | none => .no) else .no
  | _ => .no
def popR (h : VH) (ov iv : VV) : Res VV := match popI h ov iv with
  | some (v, h3) => .ok v h3
  | none => .no
theorem a_pop {fo fi} : ePop fo fi ρ h = bnd (fo ρ h) (fun ov h1 => chkL (lstOf h1 ov) (bnd (fi ρ h1) (fun iv h2 => popR h2 ov iv) (tg _))) (tg _) := by
  unfold ePop
  cases fo ρ h with
  | no => rfl
  | exc => rfl
  | ok ov h1 =>
    show (match lstOf h1 ov with
      | none => Res.no
      | some _ => _) = chkL (lstOf h1 ov) _
    cases lstOf h1 ov with
    | none => rfl
    | some _ => rfl
theorem popR_obj {n : Nat} {k : Int} : popR h (.obj n) (.int k) = popO (h[n]?) n k h := by
  cases e : h[n]? with
  | none => simp only [popR, popI, popO, e]
  | some o =>
    cases o with
    | fl xs =>
      simp only [popR, popI, popO, e]
      by_cases c : 0 ≤ k ∧ k < xs.length ∧ k < 2 ^ 62
      · rw [if_pos c, if_pos c]
        cases xs[k.toNat]? <;> rfl
      · rw [if_neg c, if_neg c]
    | _ => simp only [popR, popI, popO, e]
def appO (o : Option VO) (n : Nat) (h2 : VH) (v : VV) : Res VV := match o with
  | some (.fl xs) => if xs.length ≥ SZ then .no else if v.isObj = true then .ok .non (h2.set n (.lo (xs ++ [v]))) else .ok .non (h2.set n (.fl (xs ++ [v])))
  | some (.lo xs) => if xs.length ≥ SZ then .no else .ok .non (h2.set n (.lo (xs ++ [v])))
  | _ => .no
theorem a_app {o e} : eApp o e ρ h = bnd (o ρ h) (fun ov h1 => chkL (lstR h1 ov) (bnd (e ρ h1) (fun v h2 => appV h2 ov v) (tg _))) (tg _) := by
  unfold eApp
  cases o ρ h with
  | no => rfl
  | exc => rfl
  | ok ov h1 =>
    show (match lstR h1 ov with
      | none => Res.no
      | some _ => _) = chkL (lstR h1 ov) _
    cases lstR h1 ov with
    | none => rfl
    | some _ => rfl
theorem appV_obj {n : Nat} {v : VV} : appV h (.obj n) v = appO (h[n]?) n h v := nr rfl
def enumI (v : List VV) (h : VH) : Res (List VV) := match v with
  | [.lst xs] => .ok (enum 0 xs) h
  | [.scr xs] => .ok (enum 0 xs) h
  | _ => .no
theorem enumI_lst {xs} : enumI [.lst xs] h = .ok (enum 0 xs) h := nr rfl
theorem s_augI {o i e} : sAugI o i e ρ h = sbd (o ρ h) ρ (fun ov h1 => sbd (i ρ h1) ρ (fun iv h2 => augV e ρ ov iv h2) (tg _)) (tg _) := nr rfl
def augO (fe : EF) (ρ : VSt) (n : Nat) (k : Int) (o : Option VV) (h2 : VH) : SR := match o with
  | some (.int a) => sbd (fe ρ h2) ρ (fun v h3 => match v with
    | .int b => onh (setI h3 (.obj n) (.int k) (.int (a + b))) ρ
    | _ => .no) (tg _)
  | _ => .no
theorem augV_obj {fe n} {k : Int} : augV fe ρ (.obj n) (.int k) h = augO fe ρ n k (opIx h (.obj n) (.int k)) h := by
  unfold augV augO
  rw [if_pos (show (VV.obj n).isObj = true from rfl)]
  rfl
theorem augO_int {fe n} {k a : Int} : augO fe ρ n k (some (.int a)) h = sbd (fe ρ h) ρ (fun v h3 => match v with
    | .int b => onh (setI h3 (.obj n) (.int k) (.int (a + b))) ρ
    | _ => .no) (tg _) := rfl
theorem s_setD {o i e} : sSetD o i e ρ h = sbd (e ρ h) ρ (fun v h1 => sbd (o ρ h1) ρ (fun ov h2 => sbd (i ρ h2) ρ (fun iv h3 => onh (setD h3 ov iv v) ρ) (tg _)) (tg _)) (tg _) := nr rfl
theorem a_dnew : eDnew ρ h = .ok (.obj h.length) (h ++ [.dT [] []]) := nr rfl
def fldR (cn f : Str) (o : Option (Str × List Str × List VV)) (h : VH) : Res VV := match o with
  | some a => if a.1 = cn then lift (lookN a.2.1 a.2.2 f) h else .no
  | none => .no
theorem a_fld {cn f fe} : eFld cn f fe ρ h = bnd (fe ρ h) (fun v h1 => fldR cn f (insOf h1 v) h1) (tg _) := nr rfl
def insO (o : Option VO) : Option (Str × List Str × List VV) := match o with
  | some (.ins c ns vs) => some (c, ns, vs)
  | some (.fzn (.ins c ns vs)) => some (c, ns, vs)
  | _ => none
theorem insOf_obj {n : Nat} : insOf h (.obj n) = insO (h[n]?) := by
  unfold insOf insO
  rfl
theorem insO_ins {c ns vs} : insO (some (.ins c ns vs)) = some (c, ns, vs) := nr rfl
theorem insOf_ins {c ns vs} : insOf h (.ins c ns vs) = some (c, ns, vs) := nr rfl
def methC (cn m : Str) (o : Option (Str × List Str × List VV)) (r : Res VV) : Res VV := match o with
  | some a => if a.1 = cn ∧ lookN a.2.1 a.2.2 m = none then r else .no
  | none => .no
theorem a_meth {cn m n F dws fo fa} : eMeth cn m n F dws fo fa ρ h = bnd (fo ρ h) (fun v h1 => methC cn m (insOf h1 v) (bnd (fa ρ h1) (fun vs h2 => if (v :: (vs ++ dws)).length = n then noX (F (v :: (vs ++ dws)) h2) else .no) (tg _))) (tg _) := by
  unfold eMeth
  cases fo ρ h with
  | no => rfl
  | exc => rfl
  | ok v h1 =>
    show (match insOf h1 v with
      | some a => _
      | none => Res.no) = methC cn m (insOf h1 v) _
    cases insOf h1 v with
    | none => rfl
    | some _ => rfl
theorem noX_ok {α : Type} {a : α} : noX (.ok a h) = .ok a h := nr rfl
theorem a_make {cn n F dws fa} : eMakeZ cn n F dws fa ρ h = bnd (fa ρ h) (fun vs h1 => if (VV.obj h1.length :: (vs ++ dws)).length = n then mkZ h1.length (F (.obj h1.length :: (vs ++ dws)) (h1 ++ [.ins cn [] []])) else .no) (tg _) := nr rfl
theorem s_fldS {cn f fo fe} : sFldS cn f fo fe ρ h = sbd (fe ρ h) ρ (fun v h1 => sbd (fo ρ h1) ρ (fun ov h2 => onh (setF h2 cn f ov v) ρ) (tg _)) (tg _) := nr rfl
def setFO (o : Option VO) (n : Nat) (h : VH) (cn f : Str) (v : VV) : Option VH := match o with
  | some (.ins c ns vs) => if c = cn ∧ ns.length < 1000 then some (h.set n (.ins c (putN ns f) (putW ns vs f v))) else none
  | _ => none
theorem setF_obj {n : Nat} {cn f v} : setF h cn f (.obj n) v = setFO (h[n]?) n h cn f v := nr rfl
theorem a_aApp {n m a b} : aApp n m a b ρ h = bnd (a ρ h) (fun vs h1 => bnd (b ρ h1) (fun ws h2 => if vs.length = n ∧ ws.length = m then .ok (vs ++ ws) h2 else .no) (tg _)) (tg _) := nr rfl
def afterR (r : Res (List VV)) : Res VV := match r with
  | .ok vs h2 => .ok (.obj h2.length) (h2 ++ [.lo vs])
  | _ => .no
theorem afterR_ok {vs : List VV} : afterR (.ok vs h) = .ok (.obj h.length) (h ++ [.lo vs]) := nr rfl
theorem a_lcR {own it b t e} : eLcR own it b t e ρ h = bnd (it ρ h) (fun xs h1 => if xs.length > SZ then .no else afterR (lcGoR b t e (wp ρ own) xs h1)) (tg _) := nr rfl
theorem a_lenSc {own it b fe} : eLenSc own it b fe ρ h = bnd (it ρ h) (fun xs h1 => bnd (noX (accGo b (stSet fe) (wp ρ own) xs h1 [])) (fun a h2 => .ok (.int a.length) h2) (tg _)) (tg _) := nr rfl
theorem a_dc2 {own it b it1 b1 vs1 fk fv} : eDc2 own it b it1 b1 vs1 fk fv ρ h = bnd (it ρ h) (fun xs h1 => bnd (noX (accGo b (stIn it1 b1 vs1 (stDict fk fv)) (wp ρ own) xs h1 ([], []))) (fun a h2 => .ok (.dT a.1 a.2) h2) (tg _)) (tg _) := nr rfl
theorem a_enum {f} : iEnum f ρ h = bnd (f ρ h) enumI (tg _) := nr rfl
end
/-! loops -/
section
variable {α : Type}
/-- a loop by what holds behind each first part of the items -/
theorem for_pre {b : VV → VSt → Option VSt} {body : SF} (f : α → VV) (I : List α → VSt → VH → Prop) (ys : List α) {ρ : VSt} {h : VH} (h0 : I [] ρ h)
    (hs : ∀ pre y post, ys = pre ++ y :: post → ∀ ρ h, I pre ρ h → ∃ ρ' ρ2 h2, b (f y) ρ = some ρ' ∧ body ρ' h = .nx ρ2 h2 ∧ I (pre ++ [y]) ρ2 h2) : ∃ ρ2 h2, forGo b body (ys.map f) ρ h = .nx ρ2 h2 ∧ I ys ρ2 h2 := by
  have key : ∀ (post pre : List α), ys = pre ++ post → ∀ ρ h, I pre ρ h → ∃ ρ2 h2, forGo b body (post.map f) ρ h = .nx ρ2 h2 ∧ I ys ρ2 h2 := by
    intro post
    induction post with
    | nil =>
      intro pre e ρ h hi
      rw [List.append_nil] at e
      subst e
      exact ⟨ρ, h, for_nil, hi⟩
    | cons y post ih =>
      intro pre e ρ h hi
      obtain ⟨ρ', ρ2, h2, e1, e2, hi2⟩ := hs pre y post e ρ h hi
      obtain ⟨ρ3, h3, e3, hi3⟩ := ih (pre ++ [y]) (by rw [e]; simp) ρ2 h2 hi2
      refine ⟨ρ3, h3, ?_, hi3⟩
      rw [List.map_cons, for_cons, e1, obd_some, e2, trn_nx, e3]
  exact key ys [] rfl ρ h h0
end
end J
namespace M
open J
/-! sorted lists of ints -/
def leI (a b : Int) : Bool := decide (a ≤ b)
def isort (l : List Int) : List Int := l.mergeSort leI
/-- strictly growing -/
abbrev Inc (l : List Int) : Prop := l.Pairwise (fun a b => a < b)
theorem Inc.le {l : List Int} (h : Inc l) : l.Pairwise (fun a b => a ≤ b) := h.imp fun h => Int.le_of_lt h
theorem Inc.sub {l m : List Int} (h : Inc m) (s : l.Sublist m) : Inc l := List.Pairwise.sublist s h
/-! all parts of a list -/
def allS (l : List Int) : List (List Int) := l.foldl (fun acc p => acc ++ acc.map (fun s => s ++ [p])) [[]]
def subs (l : List Int) : List (List Int) := (allS l).drop 1
/-! faces -/
/-- a face: growing -/
structure Face (f : List Int) : Prop where
  inc : Inc f
  pos : f ≠ []
  le : f.length ≤ 4
  rng : ∀ p ∈ f, 0 ≤ p ∧ p ≤ 15
theorem Face.sub {f s : List Int} (h : Face f) (hs : s.Sublist f) (n : s ≠ []) : Face s := ⟨h.inc.sub hs, n, Nat.le_trans hs.length_le h.le, fun p hp => h.rng p (hs.subset hp)⟩
/-! lists of faces, in order -/
/-- the faces of faces, each once, in order -/
def parts (fs : List (List Int)) : List (List Int) := fs.flatMap fun f => subs (isort f)
/-! few faces -/
def Few (fs : List (List Int)) : Prop := ∃ D : List (List Int), D.length < 61 ∧ ∀ s ∈ parts fs, s ∈ D
theorem Few.low {fs : List (List Int)} (h : Few fs) : (parts fs).eraseDups.length < 61 := by
  obtain ⟨D, hl, hD⟩ := h
  exact Nat.lt_of_le_of_lt (few_of (nodup_eraseDups _) fun x hx => hD x (List.mem_eraseDups.mp hx)) hl
theorem Few.len {fs : List (List Int)} (h : Few fs) : (parts fs).eraseDups.length < 76 := Nat.lt_trans h.low (by decide)
/-! faces told by places -/
end M
namespace M
open J PySem L2
/-! each thing once, in the order in which they come -/
section
variable {α : Type} [DecidableEq α]
def dd (l : List α) : List α := l.foldl (fun a x => if x ∈ a then a else a ++ [x]) []
end
/-! dict keys -/
/-! a web as a value -/
def sz (E : List (List Int)) (k : Nat) : List (List Int) := E.filter fun f => decide (f.length = k)
end M
namespace J
open PySem L2 M
end J
namespace J
end J
namespace J
open PySem L2
/-! dicts with ints or texts as keys, by value -/
abbrev DKA := List Key × List VV
def hasQ (ks : List Key) (k : Key) : Bool := ks.any fun x => decide (x = k)
def putVQ {α : Type} (ks : List Key) (vs : List α) (k : Key) (v : α) : List α := if hasQ ks k = true then (ks.zip vs).map (fun p => if p.1 = k then v else p.2) else vs ++ [v]
def putKQ (ks : List Key) (k : Key) : List Key := if hasQ ks k = true then ks else ks ++ [k]
section
variable {X : Cx} {W : WX}
def eKnew : EF := fun _ h => .ok (.obj h.length) (h ++ [.dK [] []])
/-- d[k] = v, d a root -/
def setK (h : VH) (o i v : VV) : Option VH := match o with
  | .obj n => match h[n]? with
    | some (.dK ks vs) => (keyA i).bind fun k => if v.isObj = true ∨ ks.length ≥ SZ then none else some (h.set n (.dK (putKQ ks k) (putVQ ks vs k v)))
    | _ => none
  | _ => none
def sSetK (o i e : EF) : SF := fun ρ h => (e ρ h).st ρ fun v h1 => (o ρ h1).st ρ fun ov h2 => (i ρ h2).st ρ fun iv h3 => match setK h3 ov iv v with
  | some h4 => .nx ρ h4
  | none => .no
/-! for k in d -/
def iKeysK (f : EF) : AF := fun ρ h => (f ρ h).bind fun v h1 => match v with
  | .dK ks vs => .ok (ks.map keyB) h1
  | _ => .no
end
/-! {k: v for t in xs} -/
def dcGo (b : VV → VSt → Option VSt) (fk fv : EF) (ρ : VSt) : List VV → VH → DKA → Res DKA
  | [], h, a => .ok a h
  | x :: xs, h, a => match b x ρ with
    | none => .no
    | some ρ' => (fk ρ' h).bind fun kv h2 => (fv ρ' h2).bind fun v h3 => match keyA kv with
      | some k => if v.isObj = true then .no else dcGo b fk fv ρ xs h3 (putKQ a.1 k, putVQ a.1 a.2 k v)
      | none => .no
def eDc1 (own : List Nat) (it : AF) (b : VV → VSt → Option VSt) (fk fv : EF) : EF := fun ρ h => (it ρ h).bind fun xs h1 => if xs.length > SZ then .no else match dcGo b fk fv (wp ρ own) xs h1 ([], []) with
  | .ok a h2 => .ok (.dK a.1 a.2) h2
  | _ => .no
end J
namespace J
open PySem PySem.Spec L2 PyProof.Rows
/-! sorted(set(xs)), sorted({..}): ints -/
def leJ (a b : Int) : Bool := decide (a ≤ b)
def srtI (l : List Int) : List Int := l.eraseDups.mergeSort leJ
end J
namespace J
open PySem L2
open PyProof.Rows (IntsAre)
/-! sorted(set(xs)), ints -/
section
variable {X : Cx} {W : WX}
/-! sorted({e for x in xs}) -/
def eSortSc (own : List Nat) (it : AF) (b : VV → VSt → Option VSt) (fe : EF) : EF := fun ρ h => (it ρ h).bind fun xs h1 => (noX (accGo b (stSet fe) (wp ρ own) xs h1 [])).bind fun a h2 => if a.length < 64 then .ok (.lst ((srtI a).map .int)) h2 else .no
/-! xs.insert(i, e), xs a root -/
def insI (h : VH) (o i v : VV) : Option VH := match o, i with
  | .obj n, .int k => match h[n]? with
    | some (.fl xs) => if 0 ≤ k ∧ k < 2 ^ 62 ∧ xs.length < SZ ∧ v.isObj = false then some (h.set n (.fl (xs.take k.toNat ++ [v] ++ xs.drop k.toNat))) else none
    | _ => none
  | _, _ => none
def eIns (fo fi fe : EF) : EF := fun ρ h => (fo ρ h).bind fun ov h1 => match lstOf h1 ov with
  | none => .no
  | some _ => (aCons fi (aCons fe aNil) ρ h1).bind fun vs h2 => match vs with
    | [iv, v] => (match insI h2 ov iv v with
      | some h3 => .ok .non h3
      | none => .no)
    | _ => .no
/-! o.m(e, .., k=v) -/
end
end J
namespace J
open PySem L2
/-! [e for .. in .. for .. in .. if ..] -/
def lc2Go (b : VV → VSt → Option VSt) (t : TF) (it1 : AF) (b1 : VV → VSt → Option VSt) (vs1 : List Nat) (t1 : TF) (e : EF) (ρ : VSt) : List VV → VH → List VV → Res (List VV)
  | [], h, acc => .ok acc h
  | x :: xs, h, acc => match b x ρ with
    | none => .no
    | some ρ' => (t ρ' h).bind fun k h1 => if k = true then (it1 ρ' h1).bind fun ys h2 => if acc.length + ys.length > SZ then .no else (lcGo b1 t1 e (wp ρ' vs1) ys h2).bind fun vs h3 => lc2Go b t it1 b1 vs1 t1 e ρ xs h3 (acc ++ vs) else lc2Go b t it1 b1 vs1 t1 e ρ xs h1 acc
def eLc2 (own : List Nat) (it : AF) (b : VV → VSt → Option VSt) (t : TF) (it1 : AF) (b1 : VV → VSt → Option VSt) (vs1 : List Nat) (t1 : TF) (e : EF) : EF := fun ρ h => (it ρ h).bind fun xs h1 => match lc2Go b t it1 b1 vs1 t1 e (wp ρ own) xs h1 [] with
  | .ok vs h2 => .ok (.lst vs) h2
  | _ => .no
end J
namespace J
open PySem L2
/-! [e for x in xs if ..], xs a root that nothing in it changes -/
def rootL (v : VV) (h : VH) : Option (List VV) := match v with
  | .obj n => match h[n]? with
    | some (.fl xs) => some xs
    | _ => none
  | _ => none
def afterP (r : Res (List VV)) (h : VH) : Res VV := match r with
  | .ok vs _ => .ok (.lst vs) h
  | _ => .no
def eLcP (own : List Nat) (fo : EF) (b : VV → VSt → Option VSt) (t : TF) (e : EF) : EF := fun ρ h => (fo ρ h).bind fun v h1 => match rootL v h1 with
  | none => .no
  | some xs => if xs.length > SZ then .no else afterP (lcGo b t e (wp ρ own) xs h1) h1
end J
namespace J
open PySem L2
/-! len(set(xs)), ints -/
end J
namespace J
open PySem L2
/-! dict(zip(xs, ys)), the keys unlike -/
def keysA : List VV → Option (List Key)
  | [] => some []
  | v :: vs => (keyA v).bind fun k => (keysA vs).map fun r => k :: r
def dzM (vs : List VV) : Option VV := match vs with
  | [.lst xs, .lst ys] => (keysA xs).bind fun ks => if ks.Nodup ∧ ks.length = ys.length ∧ ks.length ≤ 1000 then some (.dK ks ys) else none
  | _ => none
def eDictZip (a : AF) : EF := fun ρ h => (a ρ h).bind fun vs h1 => lift (dzM vs) h1
end J
namespace J
open PySem L2 M
/-! evaluation of what J28 to J31 added -/
section
variable {ρ : VSt} {h : VH}
theorem a_knew : eKnew ρ h = .ok (.obj h.length) (h ++ [.dK [] []]) := nr rfl
theorem s_setK {o i e} : sSetK o i e ρ h = sbd (e ρ h) ρ (fun v h1 => sbd (o ρ h1) ρ (fun ov h2 => sbd (i ρ h2) ρ (fun iv h3 => onh (setK h3 ov iv v) ρ) (tg _)) (tg _)) (tg _) := nr rfl
def keysI (v : VV) (h1 : VH) : Res (List VV) := match v with
  | .dK ks vs => .ok (ks.map keyB) h1
  | _ => .no
theorem a_keysK {f} : iKeysK f ρ h = bnd (f ρ h) keysI (tg _) := nr rfl
theorem keysI_dK {ks vs} : keysI (.dK ks vs) h = .ok (ks.map keyB) h := nr rfl
def afterK (r : Res DKA) : Res VV := match r with
  | .ok a h2 => .ok (.dK a.1 a.2) h2
  | _ => .no
theorem a_dc1 {own it b fk fv} : eDc1 own it b fk fv ρ h = bnd (it ρ h) (fun xs h1 => if xs.length > SZ then .no else afterK (dcGo b fk fv (wp ρ own) xs h1 ([], []))) (tg _) := nr rfl
theorem a_sortSc {own it b fe} : eSortSc own it b fe ρ h = bnd (it ρ h) (fun xs h1 => bnd (noX (accGo b (stSet fe) (wp ρ own) xs h1 [])) (fun a h2 => if a.length < 64 then .ok (.lst ((srtI a).map .int)) h2 else .no) (tg _)) (tg _) := nr rfl
def insM (o : Option VH) : Res VV := match o with
  | some h3 => .ok .non h3
  | none => .no
def insR (h2 : VH) (ov : VV) (vs : List VV) : Res VV := match vs with
  | [iv, v] => insM (insI h2 ov iv v)
  | _ => .no
theorem a_ins {fo fi fe} : eIns fo fi fe ρ h = bnd (fo ρ h) (fun ov h1 => chkL (lstOf h1 ov) (bnd (aCons fi (aCons fe aNil) ρ h1) (fun vs h2 => insR h2 ov vs) (tg _))) (tg _) := by
  unfold eIns
  cases fo ρ h with
  | no => rfl
  | exc => rfl
  | ok ov h1 =>
    show (match lstOf h1 ov with
      | none => Res.no
      | some _ => _) = chkL (lstOf h1 ov) _
    cases lstOf h1 ov with
    | none => rfl
    | some _ => rfl
theorem a_lc2 {own it b t it1 b1 vs1 t1 e} : eLc2 own it b t it1 b1 vs1 t1 e ρ h = bnd (it ρ h) (fun xs h1 => afterL (lc2Go b t it1 b1 vs1 t1 e (wp ρ own) xs h1 [])) (tg _) := nr rfl
theorem frzO_dK {ks vs n} : frzO (some (.dK ks vs)) n h = .ok (.dK ks vs) (h.set n (.fzn (.dK ks vs))) := nr rfl
theorem frzR_dK {ks vs} : frzR (.dK ks vs) h = .ok (.dK ks vs) h := nr rfl
def lcP (own : List Nat) (b : VV → VSt → Option VSt) (t : TF) (e : EF) (ρ : VSt) (h1 : VH) (o : Option (List VV)) : Res VV := match o with
  | none => .no
  | some xs => if xs.length > SZ then .no else afterP (lcGo b t e (wp ρ own) xs h1) h1
theorem a_lcP {own fo b t e} : eLcP own fo b t e ρ h = bnd (fo ρ h) (fun v h1 => lcP own b t e ρ h1 (rootL v h1)) (tg _) := nr rfl
theorem lcP_some {own b t e xs} : lcP own b t e ρ h (some xs) = if xs.length > SZ then .no else afterP (lcGo b t e (wp ρ own) xs h) h := nr rfl
def rootO (o : Option VO) : Option (List VV) := match o with
  | some (.fl xs) => some xs
  | _ => none
theorem rootL_obj {n : Nat} : rootL (.obj n) h = rootO (h[n]?) := by
  cases e : h[n]? with
  | none => simp only [rootL, rootO, e]
  | some o => cases o <;> simp only [rootL, rootO, e]
theorem rootO_fl {xs} : rootO (some (.fl xs)) = some xs := nr rfl
theorem a_dictZip {a : AF} : eDictZip a ρ h = bnd (a ρ h) (fun vs h1 => lift (dzM vs) h1) (tg _) := nr rfl
/-! points led -/
end
end J
namespace J
open PySem L2
open PyProof.Rows (envOfC)
/-! refusals: own exception classes over one own base whose __init__ sets word and at -/
structure XcK (K : PySem.W.Frag) (C : Addr) : Prop where
  o : OexC K C
  nw : PySem.W.findIn K (.ref C) "word" = some none
  na : PySem.W.findIn K (.ref C) "at" = some none
def weH (H : Hp) (e C dx : Addr) (w v : V) : Hp := upd (upd (upd H dx (exd dx [("word", w)])) e (exo e C (some dx))) dx (exd dx [("at", v), ("word", w)])
def spWE (K : PySem.W.Frag) : Sp := fun vs H Q _ => ∃ (e C : Addr) (w v : V), vs = [.ref e, w, v] ∧ XcK K C ∧ H e = some (exo e C none) ∧ ∀ dx, H dx = none → dx ≠ e → Q .non (weH H e C dx w v)
def spOX (K : PySem.W.Frag) (x : Str) : Sp := fun vs H Q _ => ∃ (e C : Addr) (v : V), vs = [.ref e, v] ∧ XcK K C ∧ H e = some (exo e C none) ∧ ∀ dx, H dx = none → dx ≠ e → Q .non (weH H e C dx (.str x) v)
section
variable {P : Program} {w : World} {K : PySem.W.Frag} {mg : Str → Option Value} {base : Heap} {q : Str} {params : Arguments} {body : List Stmt} {scope : Scope} {dvs : List V} {kws : List (Str × V)} {f : Addr} {fd : FuncData} {k : Nat}
theorem we_fn {p1 p2 p3 p4 p5 p6 p7 p8 : Pos} (F : FunD K "__init__" q params body scope dvs kws f fd) (S : FnScope ["self", "word", "at"] ["self", "word", "at"] scope)
    (hb : body = [.Assign [.Attribute (.Name "self" p1) "word" p2] (.Name "word" p3) p4, .Assign [.Attribute (.Name "self" p5) "at" p6] (.Name "at" p7) p8])
    (v0 : Vis scope "self") (v1 : Vis scope "word") (v2 : Vis scope "at") : FnOk P w K mg base (L2N.CX P w) (k + 1) f fd ["self", "word", "at"] (spWE K) := by
  subst hb
  refine F.ok S (fun vs H Q E h => by obtain ⟨e, C, a, b, rfl, _⟩ := h; rfl) fun cdv A outer s H vs Q E hr h => ?_
  refine ⟨_, pss_cons (ps_ost (pe_var (i := 0) rfl v0) (pe_var (i := 1) rfl v1)) (pss_one (ps_ost (pe_var (i := 0) rfl v0) (pe_var (i := 2) rfl v2))), ?_⟩
  obtain ⟨e, C, a, b, rfl, xc, he, k⟩ := h
  refine ⟨a, rfl, .ref e, rfl, e, C, rfl, xc.o, xc.nw, .inl ⟨he, fun dx hd ne => ?_⟩⟩
  refine ⟨b, rfl, .ref e, rfl, e, C, rfl, xc.o, xc.na, .inr ⟨dx, [("word", a)], upd_same, by rw [upd_ne ne, upd_same], by simp, ?_⟩⟩
  exact k dx hd ne
end
section
variable {X : Cx} {W : WX}
/-- B.__init__(e, ..), B an own class -/
theorem pe_binit {pl : Sem Bool} {k : Nat} {B f : Addr} {fd : FuncData} {ps : List Str} {sp : Sp} {b : Str} {e : Expr} {es : List Expr} {ta : TA} {p1 p2 pos : Pos} (hg : Gl X b) (hm : X.mg b = some (.ref B)) (rd : ClX.CRead X.K B (.type "type")) (cv : PySem.W.findCls X.K (.ref B) (.type "type") "__init__" = some (.val (.ref f)))
    (hk : PySem.W.keepIn X.K (.ref f) = true) (F : FnOk X.prog X.w X.K X.mg X.base (L2N.CX X.prog X.w) k f fd ps sp) (hr : Room k X.A) (hb : Binds X.K fd ps []) (ha : PA X (e :: es) ta)
    (hc : eval (.Call (.Attribute (.Name b p1) "__init__" p2) (e :: es) [] pos) X.env = (do
      let ov ← eval (.Name b p1) X.env
      standAt p2.atName
      let (f, first) ← holding [ov] (getMethod ov "__init__" pl)
      callWith pos f first (backTo pos (starEach (e :: es) X.env)) (backToKw pos (keywordEach [] X.env))) := by rfl)
    (hdb : (b == ("__debug__" : Str)) = false := by decide) (he : starEach (e :: es) X.env = (false, eval e X.env) :: starEach es X.env := by rfl) (hpl : (backTo pos (starEach es X.env)).any (·.1) = false := by rfl) :
    PE X (.Call (.Attribute (.Name b p1) "__init__" p2) (e :: es) [] pos) (fun σ H Q => ta σ H fun vs H1 => sp vs H1 Q X0) := by
  refine ⟨fun pins s σ H Q I h => ?_⟩
  refine PySem.W.methodCall_KW (pl := pl) (ld_glob I hg hm ?_ hdb) hc
  refine PySem.W.method_cls I.kIn rd.ga (ClX.getcval_ok I rd ⟨cv, (show RelV (.ref f) (.ref f) from rfl)⟩ fun s1 I1 => ?_)
  refine PySem.W.callWith_K (h₀ := X.base) I1.ok.mod.kin hk (thn (ha.run pos pins s1 σ H _ I1 h) fun us s2 ⟨vs, H2, I2, r, q⟩ => ⟨I2.kIn, ?_⟩) he hpl
  have hl : us.length = ps.length := by rw [← r.length]; exact F.len _ _ _ _ q
  have bb := hb s2 us I2.kIn (by rw [List.append_nil]; exact hl)
  rw [List.append_nil] at bb
  refine wpAny_call (codeAny_mono (F.run X.A X.stack s2 H2 ⟨us, []⟩ us vs Q X0 hr I2.env0 bb r q) fun rr s' hq => ?_)
  cases rr with
  | error er => exact (cx_no hq).elim
  | ok fl =>
    cases fl with
    | ret u => exact I2.after hq
    | next => exact False.elim hq
    | brk => exact False.elim hq
    | cont => exact False.elim hq
end
section
variable {P : Program} {w : World} {K : PySem.W.Frag} {mg : Str → Option Value} {base : Heap} {q : Str} {params : Arguments} {body : List Stmt} {scope : Scope} {dvs : List V} {kws : List (Str × V)} {f fB B : Addr} {fd fdB : FuncData} {k : Nat}
/-- an own class's __init__(self, at): WebError.__init__(self, x, at) -/
theorem ox_fn {x : Str} {p1 p2 p3 p4 p5 p6 p7 : Pos} {kk : Nat} (F : FunD K "__init__" q params body scope dvs kws f fd) (S : FnScope ["self", "at"] ["self", "at"] scope)
    (hb : body = [.Expr (.Call (.Attribute (.Name "WebError" p1) "__init__" p2) [.Name "self" p3, .Constant (.str x) kk p4, .Name "at" p5] [] p6) p7])
    (v0 : Vis scope "self") (v1 : Vis scope "at") (gl : scope.names.lookup ("WebError" : Str) = some NameKind.globalImplicit) (hm : mg "WebError" = some (.ref B)) (rd : ClX.CRead K B (.type "type")) (cv : PySem.W.findCls K (.ref B) (.type "type") "__init__" = some (.val (.ref fB)))
    (hk : PySem.W.keepIn K (.ref fB) = true) (FB : FnOk P w K mg base (L2N.CX P w) k fB fdB ["self", "word", "at"] (spWE K)) (hbB : Binds K fdB ["self", "word", "at"] [])
    (hc : ∀ env : Env, ∃ pl : Sem Bool, eval (.Call (.Attribute (.Name "WebError" p1) "__init__" p2) [.Name "self" p3, .Constant (.str x) kk p4, .Name "at" p5] [] p6) env = (do
      let ov ← eval (.Name "WebError" p1) env
      standAt p2.atName
      let (f, first) ← holding [ov] (getMethod ov "__init__" pl)
      callWith p6 f first (backTo p6 (starEach [.Name "self" p3, .Constant (.str x) kk p4, .Name "at" p5] env)) (backToKw p6 (keywordEach [] env)))) : FnOk P w K mg base (L2N.CX P w) (k + 1) f fd ["self", "at"] (spOX K x) := by
  subst hb
  refine F.ok S (fun vs H Q E h => by obtain ⟨e, C, b, rfl, _⟩ := h; rfl) fun cdv A outer s H vs Q E hr h => ?_
  obtain ⟨pl, hpl⟩ := hc (envOfC q scope s.heap.objs.size f cdv)
  refine ⟨_, pss_one (ps_expr (pe_binit (X := cxOf (L2N.CX P w) P w K mg base ["self", "at"] q scope f cdv A outer s H E) (pl := pl) gl hm rd cv hk FB hr hbB (pa_cons (pe_var (i := 0) rfl v0) (pa_cons pe_str (pa_cons (pe_var (i := 1) rfl v1) pa_nil))) hpl)), ?_⟩
  obtain ⟨e, C, b, rfl, xc, he, k⟩ := h
  refine ⟨.ref e, rfl, b, rfl, ?_⟩
  exact ⟨e, C, .str x, b, rfl, xc, he, k⟩
end
theorem takesN0 {X : Cx} : L2N.Takes X (fun _ _ _ _ => False) := fun _ _ x => by
  obtain ⟨_, _, _, _, _, _, _, _, _, _, _, _, _, _, _, _, z⟩ := x
  exact z.elim
/-- a refusal's class that can be made -/
structure OkX (P : Program) (w : World) (K : PySem.W.Frag) (mg : Str → Option Value) (base : Heap) (k : Nat) (x : Str) : Prop where
  ex : ∃ (C f : Addr) (fd : FuncData) (ds : List Value), mg x = some (.ref C) ∧ XcK K C ∧ PySem.W.findIn K (.ref C) "__init__" = some (some (.ref f)) ∧ PySem.W.typeIn K (.ref f) = some (.type "function") ∧
    FnOk P w K mg base (L2N.CX P w) k f fd ["self", "at"] (spOX K x) ∧ Binds K fd ["self", "at"] [] ∧ Binds K fd ["self", "at"] ds ∧ Vals [.int (-1)] ds
section
variable {X : Cx} {W : WX}
theorem weH_end {H : Hp} {e C dx : Addr} {w v : V} {O : HO} (he : H e = none) (ne : dx ≠ e) : upd (del (weH (upd H e (exo e C none)) e C dx w v) e) dx O = upd H dx O := by
  funext b
  by_cases h1 : b = dx
  · rw [h1, upd_same, upd_same]
  · rw [upd_ne h1, upd_ne h1]
    by_cases h2 : b = e
    · rw [h2, del_same, he]
    · rw [del_ne h2]
      unfold weH
      rw [upd_ne h1, upd_ne h2, upd_ne h1, upd_ne h2]
/-- the class is called -/
theorem mk_run {k : Nat} {C f : Addr} {fd : FuncData} {x : Str} {ds : List Value} {dvs : List V} (xc : XcK X.K C) (iC : PySem.W.findIn X.K (.ref C) "__init__" = some (some (.ref f))) (tI : PySem.W.typeIn X.K (.ref f) = some (.type "function"))
    (F : FnOk X.prog X.w X.K X.mg X.base (L2N.CX X.prog X.w) k f fd ["self", "at"] (spOX X.K x)) (hr : Room (k + 1) X.A) (hb : Binds X.K fd ["self", "at"] ds) (hd : Vals dvs ds)
    {pins : List (Addr × Obj)} {σ : St} {H : Hp} {Q : XK} {s : Shared} {us : List Value} {vs : List V} {v : V} (I : Inv X pins σ H s) (r : Vals vs us) (hv : vs ++ dvs = [v]) (q : ∀ d, H d = none → Q (.ref C) (some d) (upd H d (.xd [("at", v), ("word", .str x)]))) :
    wpAny (model X.prog X.w) X.A (call (.ref C) us) (L2N.MkP X pins σ Q) X.xe s := by
  obtain ⟨nm, qn, N, bs, bm, sn, sub, ab, col, dd, k0, k1, k2, k3, k5, hC, hbm⟩ := xc.o.cls
  obtain ⟨hp, g, dr, tk, os⟩ := s
  let e := hp.objs.size + 1
  let hp2 := (hp.push (PySem.W.kdv_tup us)).push (PySem.HandSPX.excO C hp.objs.size)
  have he : hp.objs.size ≤ e := Nat.le_succ _
  have hn : H e = none := I.hok.fresh he
  have kk : ∀ b o, hp.get? b = some o → hp2.get? b = some o := fun b o z => Heap.get?_push_of_some _ (Heap.get?_push_of_some _ z)
  have hget : hp2.get? e = some (PySem.HandSPX.excO C hp.objs.size) := by
    show ((hp.push (PySem.W.kdv_tup us)).push (PySem.HandSPX.excO C hp.objs.size)).get? (hp.objs.size + 1) = _
    heap_get
  have I2 : Inv X pins σ (upd H e (exo e C none)) ⟨hp2, g, dr, tk, os⟩ := I.laid (t' := tk) (a := e) (o := exo e C none) (h' := hp2) kk he (exo_ok hget)
  have r2 : Vals (V.ref e :: (vs ++ dvs)) (Value.ref e :: (us ++ ds)) := .cons rfl (r.append hd)
  have hl : (Value.ref e :: us ++ ds).length = ["self", "at"].length := by
    have z := r2.length
    rw [hv] at z
    exact z.symm
  have hus : us.length ≤ sizeLine := by
    have z := congrArg List.length hv
    rw [List.length_append, Paired.length r] at z
    rw [PySem.sizeLine_eq]
    simp at z
    omega
  have hsp : spOX X.K x (.ref e :: (vs ++ dvs)) (upd H e (exo e C none)) (fun u H2 => u = .non ∧ ∃ (d : Addr) (fs : List (Str × V)), H2 e = some (exo e C (some d)) ∧ H2 d = some (exd d fs) ∧ H d = none ∧ Q (.ref C) (some d) (upd (del H2 e) d (.xd fs))) X0 := by
    refine ⟨e, C, v, by rw [hv], xc, upd_same, fun dx hdx ne => ⟨rfl, dx, [("at", v), ("word", .str x)], ?_, ?_, ?_, ?_⟩⟩
    · unfold weH; rw [upd_ne (Ne.symm ne), upd_same]
    · unfold weH; rw [upd_same]
    · rw [upd_ne ne] at hdx; exact hdx
    · rw [weH_end hn ne]
      rw [upd_ne ne] at hdx
      exact q dx hdx
  have run := F.run _ X.stack ⟨hp2, g, dr, tk, os⟩ _ ⟨Value.ref e :: us, []⟩ (Value.ref e :: (us ++ ds)) _ _ X0 (hr.make C us []) (I2.env0.make C us []) (hb _ (Value.ref e :: us) I2.kIn hl) r2 hsp
  refine wpAny_call (PySem.HandSPX.call_own PySem.F.excBase_ValueError (fun Y => PySem.HandSPX.refsVE_contains Y bm hbm) (I.kIn _ _ hC) (PySem.W.looks_findIn I.kIn iC) (fun self => PySem.W.bind_fn I.kIn self tI) hus (codeAny_mono run fun rr s' hq => ?_))
  cases rr with
  | error er => exact (cx_no hq).elim
  | ok fl =>
    cases fl with
    | ret u =>
      obtain ⟨v2, H2, os2, bare2, un2, hok2, rv, ev, d, fs, ea, ed, hd1, q2⟩ := hq
      subst ev
      obtain ⟨h2, g2, d2, t2, os'⟩ := s'
      obtain ⟨t0, G, J, kG, ge, hoe, na⟩ := mk_end0 (d2 := d2) (t2 := t2) I he kk un2 hok2 os2 bare2 ea ed hd1
      refine ⟨rv, e, _, _, ⟨G, g2, d2, t2, os'⟩, _, .ref C, some d, rfl, J, kG, ge, hoe, ⟨rfl, rfl, fun vs z => ?_⟩, rfl, rfl, na, rfl, bare2, raises_own xc.o.exC xc.o.tyC, q2⟩
      cases z
      rfl
    | next => exact False.elim hq
    | brk => exact False.elim hq
    | cont => exact False.elim hq
def sRaise0 (x : Str) : SF := fun ρ h => .exc x ["at", "word"] [.int (-1), .str x] ρ h
theorem raise_end {g : Gh} {ρ : VSt} {h : VH} {H : Hp} {σ : St} {x : Str} {i : Int} {C : Addr} {D : Ends} (hm : X.mg x = some (.ref C)) (rh : RH (ct X) g h H) (rs : RS (ct X) g H ρ σ) (p : PS1 (ct X) W g H D (.exc x ["at", "word"] [.int i, .str x] ρ h)) (d : Addr) (hd : H d = none) :
    W (.ref C) (some d) σ (upd H d (.xd [("at", V.int i), ("word", V.str x)])) := by
  have st : Stp g H g (upd H d (.xd [("at", V.int i), ("word", V.str x)])) := .junk rh hd
  exact p g _ σ C d [.int i, .str x] st (rh.junk hd) (rs.stp st) hm ⟨upd_same, (fun z => by obtain ⟨o, e⟩ := rh.fz d z; rw [hd] at e; cases e), (fun z => by obtain ⟨o, e⟩ := rh.root z; rw [hd] at e; cases e)⟩ rfl (RVs.cons (rv_int _ _ _ _) (RVs.one (by rw [RV])))
theorem js_raise0 {k : Nat} {x : Str} {p1 p2 pos : Pos} (O : OkX X.prog X.w X.K X.mg X.base k x) (hr : Room (k + 1) X.A) (hc : X.calm = true) (hg : Gl X x) (tk : L2N.Takes X W) (hdb : (x == ("__debug__" : Str)) = false := by decide) :
    PS X (.Raise (some (.Call (.Name x p1) [] [] p2)) none pos) (tS (ct X) W (sRaise0 x)) := by
  obtain ⟨C, f, fd, ds, hm, xc, iC, tI, F, b0, b1, hv⟩ := O.ex
  refine PS.mono (L2N.ps_raise (W := W) (t := fun σ H Q => ∀ d, H d = none → Q (.ref C) (some d) (upd H d (.xd [("at", V.int (-1)), ("word", .str x)]))) hc tk (fun pins s σ H Q I h => ?_)) fun D σ H ⟨g, ρ, h, rh, rs, p⟩ => ?_
  · refine wpAny_Call_Name_kw (ld_glob I hg hm ?_ hdb)
    refine PySem.W.callWith_K0 I.kIn xc.o.kC ?_
    exact mk_run (us := []) (vs := []) (dvs := [.int (-1)]) xc iC tI F hr b1 hv I .nil rfl h
  · exact raise_end hm rh rs p
end
end J
namespace J
open PySem L2
open PyProof.Rows (envOfC)
/-! methods and classes that let refusals out -/
abbrev Wc (E : XK) : WX := fun a d _ H' => E a d H'
def eMethX (cn m : Str) (n : Nat) (F : FF) (dws : List VV) (fo : EF) (fa : AF) : EF := fun ρ h => (fo ρ h).bind fun v h1 => match insOf h1 v with
  | some a => if a.1 = cn ∧ lookN a.2.1 a.2.2 m = none then (fa ρ h1).bind fun vs h2 => if (v :: (vs ++ dws)).length = n then F (v :: (vs ++ dws)) h2 else .no else .no
  | none => .no
def mkX (n0 : Nat) (r : Res VV) : Res VV := match r with
  | .ok .non h' => if n0 ≤ h'.length ∧ (h'.take n0).all (lowO n0) = true then (match dzV h' n0 8 (.obj n0) with
    | some w => .ok w (h'.take n0)
    | none => .no) else .no
  | .exc x ns vs h' => .exc x ns vs h'
  | _ => .no
def eMakeX (cn : Str) (n : Nat) (F : FF) (dws : List VV) (fa : AF) : EF := fun ρ h => (fa ρ h).bind fun vs h1 => if (VV.obj h1.length :: (vs ++ dws)).length = n then mkX h1.length (F (.obj h1.length :: (vs ++ dws)) (h1 ++ [.ins cn [] []])) else .no
end J
namespace J
open PySem L2
open PyProof.Rows (envOfC)
/-! within an except suite -/
/-- into a comprehension's block within an except suite -/
theorem blk_enterH {X : Cx} {pins : List (Addr × Obj)} {s : Shared} {σ : St} {H : Hp} {Q : VK} {node tg iter : Expr} {ifs : List Expr} {gs : List Comprehension} {scope : Scope} {own : List (Str × Nat)} {pos' : Pos} {wi : TI} {new : Sem Value} {o0 : Obj} {O : Addr → HO}
    (L : It → Addr → Hp → Prop) (hcl : clausesOf node = ⟨tg, iter, ifs, 0⟩ :: gs) (hN : X.N.Nodup) (I : Inv X pins σ H s) (hi : L2H.PIH X tg iter wi) (ok : BlkOk X.N X.env.scope scope own) (hs : ∀ x, foldedSetIterable iter X.env x = pure x)
    (hnew : ∀ (s : Shared) (E Q : Value → Shared → Prop), Q (.ref s.heap.objs.size) { s with heap := s.heap.push o0 } → wpAny (model X.prog X.w) X.A new Q E s)
    (hO : ∀ (h : Heap) (G : Hp), sysModules < h.objs.size → ObjOk X.prog X.w G (h.push o0) h.objs.size (O h.objs.size))
    (hst : ∀ (it acc : Value) (env : Env) (R : Result → Shared → Prop) (s : Shared), codeAny (model X.prog X.w) X.A (.compLoop node 0 it acc env) R s →
      wpAny (model X.prog X.w) X.A (pyIter it) (fun it' s' => codeAny (model X.prog X.w) X.A (.compLoop node 0 it' acc env) R s') (notedBy (model X.prog X.w) X.A env fun x s' => R (.error x) s') s → codeAny (model X.prog X.w) X.A (.compStart node 0 it acc env) R s)
    (h : wi σ H fun Jt H1 => ∀ D, H1 D = none → L Jt D (upd H1 D (O D)))
    (loop : ∀ (s3 : Shared) (H3 : Hp) (C : Addr) (cl : List (Str × Addr)) (fp : List Addr) (it D : Addr) (tn : Nat → Heap → Prop) (Jt : It) (s4 : Shared) (R : Result → Shared → Prop), L Jt D H3 → Inv (X.blk s3 H3 scope (compEnvC scope cl C X.env) fp) [] (wipe σ (own.map (·.2))) H3 s4 →
      (∀ G' s', Inv (X.blk s3 H3 scope (compEnvC scope cl C X.env) fp) [] (wipe σ (own.map (·.2))) G' s' → ∀ q ∈ X.pn, s'.heap.get? q.1 = some q.2 ∧ G' q.1 = none ∧ q.1 ≠ C ∧ q.1 ∉ frs X.stack ∧ (∀ b ∈ fp, q.1 ≠ b) ∧ ∀ v, q.2.data ≠ .cell v) →
      L2H.TurnH X.prog X.w X.K tg Jt fp it tn → tn 0 s4.heap → (∀ b ∈ fp, H3 b = none) → (∀ (b : Addr) (G : Hp), b ∈ fp → G b = none → FpOk (X.blk s3 H3 scope (compEnvC scope cl C X.env) fp) [] G b) →
      (∀ G s', Inv (X.blk s3 H3 scope (compEnvC scope cl C X.env) fp) [] (wipe σ (own.map (·.2))) G s' → Q (.ref D) G → R (.ok .next) s') →
      codeAny (model X.prog X.w) X.A (.compLoop node 0 (.ref it) (.ref D) (compEnvC scope cl C X.env)) R s4) :
    wpAny (model X.prog X.w) X.A (comprehension node scope X.env pos' new false (eval iter X.env) none) (EP X pins σ Q) X.xe s := by
  have hfree : ∀ y ∈ scope.names, y.2 = .free → ∃ c, X.env.cells.lookup y.1 = some c := by
    intro y hy e
    exact (ok.free y hy e).elim (fun k => I.ok.has _ (.inl k)) (fun k => I.ok.has _ (.inr k))
  refine wpAny_comprehension_free (use := none) hcl hs (closure_ok hfree) ok.kind (by intro y hy e; rw [ok.uniq y hy, e]) (thn (hi.run pins s σ H _ I h) fun xv s1 hx => thn hx fun itv s2 h2 => ?_)
  obtain ⟨it, fp, tn, Jt, H2, e, I2, T, st2, f2, lp⟩ := h2
  subst e
  refine hnew s2 _ _ (newEnv_comp ?_)
  have nD : H2 s2.heap.objs.size = none := I2.hok.fresh (Nat.le_refl _)
  have lp' := lp s2.heap.objs.size nD
  have I3 : Inv X pins σ (upd H2 s2.heap.objs.size (O s2.heap.objs.size)) { s2 with heap := s2.heap.push o0 } :=
    I2.laid (t' := s2.toks) (fun b o e => Heap.get?_push_of_some _ e) (Nat.le_refl _) (hO _ _ I2.big)
  have old : ∀ b ∈ fp, b < s2.heap.objs.size := by
    intro b hb
    obtain ⟨o, e, _⟩ := T.obj _ _ st2 b hb
    exact Heap.lt_size e
  have f3 : ∀ b ∈ fp, FpOk X pins (upd H2 s2.heap.objs.size (O s2.heap.objs.size)) b ∧ b < (s2.heap.push o0).objs.size := by
    intro b hb
    refine ⟨⟨?_, (f2 b hb).2⟩, by rw [Heap.size_push]; exact Nat.lt_succ_of_lt (old b hb)⟩
    rw [upd_ne (Nat.ne_of_lt (old b hb))]
    exact (f2 b hb).1
  have st3 : tn 0 (s2.heap.push o0) := T.keep _ _ _ st2 fun b _ o e => Heap.get?_push_of_some _ e
  have I4 := block_start I3 ok hN f3
  generalize hH3 : upd H2 s2.heap.objs.size (O s2.heap.objs.size) = H3 at I3 I4 f3 lp'
  have f3' : ∀ b ∈ fp, FpOk X pins H3 b ∧ b < ({ s2 with heap := s2.heap.push o0 } : Shared).heap.objs.size := f3
  have st3' : tn 0 ({ s2 with heap := s2.heap.push o0 } : Shared).heap := st3
  generalize ({ s2 with heap := s2.heap.push o0 } : Shared) = s3 at I3 I4 f3' st3' ⊢
  generalize s2.heap.objs.size = D at lp' ⊢
  clear f3 st3 nD hH3
  have st4 : tn 0 (pushCells (s3.heap.push { cls := .type "dict", data := .dict #[] }) scope.names) := T.keep _ _ _ st3' fun b _ o e => pushCells_keeps _ _ _ _ (Heap.get?_push_of_some _ e)
  have nfp : ∀ b ∈ fp, H3 b = none := fun b hb => (f3' b hb).1.1
  have stat : ∀ (b : Addr) (G : Hp), b ∈ fp → G b = none → FpOk (X.blk s3 H3 scope (compEnvC scope (cellsFrom (s3.heap.objs.size + 1) scope.names (cloFrom X.env.cells scope.names [])) s3.heap.objs.size X.env) fp) [] G b := by
    intro b G hb gn
    refine ⟨gn, (I4.ok.exf b hb).1, I4.ok.exfs b hb, .inl hb, fun x c e => (I4.ok.exf b hb).2 x c e, fun p hp => ?_⟩
    cases (show p ∈ ([] : List (Addr × Obj)) ++ [] from hp)
  have held : ∀ G' s', Inv (X.blk s3 H3 scope (compEnvC scope (cellsFrom (s3.heap.objs.size + 1) scope.names (cloFrom X.env.cells scope.names [])) s3.heap.objs.size X.env) fp) [] (wipe σ (own.map (·.2))) G' s' → ∀ q ∈ X.pn, s'.heap.get? q.1 = some q.2 ∧ G' q.1 = none ∧ q.1 ≠ s3.heap.objs.size ∧ q.1 ∉ frs X.stack ∧ (∀ b ∈ fp, q.1 ≠ b) ∧ ∀ v, q.2.data ≠ .cell v := by
    intro G' s' I' q hq
    have P := I3.pin q (List.mem_append_left _ hq)
    have nst : q.1 ∉ frs X.stack := fun hm => (List.mem_cons.mp (I3.stkSub q.1 hm)).elim P.2.2.1 P.2.2.2.1
    have nfp' : ∀ b ∈ fp, q.1 ≠ b := fun b hb => (f3' b hb).1.2.2.2.2.2 q (List.mem_append_left _ hq)
    have nex : q.1 ∉ fp := fun z => nfp' _ z rfl
    exact ⟨I'.base.keep q.1 q.2 P.1 P.2.1 nst nex, I'.base.free q.1 q.2 P.1 P.2.1 nex, Nat.ne_of_lt (Heap.lt_size P.1), nst, nfp', P.2.2.2.2⟩
  have go := loop s3 H3 s3.heap.objs.size (cellsFrom (s3.heap.objs.size + 1) scope.names (cloFrom X.env.cells scope.names [])) fp it D tn Jt _ (compPost (model X.prog X.w) X.A X.xe none (EP X pins σ Q) (.ref D) s3.heap.objs.size) lp' I4 held T st4 nfp stat fun G s' I5 q => ?_
  · exact hst _ _ _ _ _ go (T.self X.A 0 _ _ _ st4 go)
  · have cL : (X.blk s3 H3 scope (compEnvC scope (cellsFrom (s3.heap.objs.size + 1) scope.names (cloFrom X.env.cells scope.names [])) s3.heap.objs.size X.env) fp).env.locals = s3.heap.objs.size := rfl
    have I6 : Inv X pins σ G s' := I3.call' (ch := fp) I5.os I5.base I5.hok I5.bare fun b hb => by
      obtain ⟨-, q1, q2, q3, q4, q5⟩ := (f3' b hb).1
      exact ⟨q3, q1, q4, q5⟩
    have nC : G s3.heap.objs.size = none := by
      rw [← cL]; exact I5.free
    obtain ⟨m, hn, _⟩ := I5.loc
    rw [cL] at hn
    obtain ⟨q0, q1, q2, q3, q4, q5⟩ := I3.fpOk (H' := G) (Nat.le_refl _) nC
    exact ⟨m, hn, fun h' sb => ⟨.ref D, G, I6.turned (t' := s'.toks) (fun b o hb e => (sb.2 b hb).trans e) q0 q1 q3 q4 q5, rfl, q⟩⟩
abbrev pin1 (Y : Cx) (p : Addr × Obj) : Cx := { Y with pn := p :: Y.pn }
/-- the same state, with a thing that is held -/
theorem inv_pn {Y : Cx} {pins : List (Addr × Obj)} {σ : St} {H : Hp} {s : Shared} {p : Addr × Obj} (I : Inv Y pins σ H s) (h : s.heap.get? p.1 = some p.2 ∧ H p.1 = none ∧ p.1 ≠ Y.env.locals ∧ p.1 ∉ Y.fs ∧ ∀ v, p.2.data ≠ .cell v) : Inv (pin1 Y p) pins σ H s :=
  ⟨⟨I.ok.mod, I.ok.kind, I.ok.glob, I.ok.blt, I.ok.above, I.ok.inj, I.ok.has, I.ok.cab, I.ok.hd, I.ok.frames, I.ok.stk, I.ok.exf, I.ok.bs, I.ok.bsz, I.ok.noex, I.ok.exfs, I.ok.funs, I.ok.frf⟩, I.os, I.bare, I.base, I.loc, I.cell, I.free, I.freeC, fun q hq => by
    rcases List.mem_cons.mp (show q ∈ p :: (Y.pn ++ pins) from hq) with e | e
    · rw [e]; exact h
    · exact I.pin q e, I.hok, I.len⟩
theorem inv_unpn {Y : Cx} {pins : List (Addr × Obj)} {σ : St} {H : Hp} {s : Shared} {p : Addr × Obj} (I : Inv (pin1 Y p) pins σ H s) : Inv Y pins σ H s :=
  ⟨⟨I.ok.mod, I.ok.kind, I.ok.glob, I.ok.blt, I.ok.above, I.ok.inj, I.ok.has, I.ok.cab, I.ok.hd, I.ok.frames, I.ok.stk, I.ok.exf, I.ok.bs, I.ok.bsz, I.ok.noex, I.ok.exfs, I.ok.funs, I.ok.frf⟩, I.os, I.bare, I.base, I.loc, I.cell, I.free, I.freeC, fun q hq => I.pin q (List.mem_cons_of_mem p hq), I.hok, I.len⟩
/-- a list comprehension within an except suite -/
theorem hot_lc {X : Cx} {elt tg iter : Expr} {ifs : List Expr} {scope : Scope} {own : List (Str × Nat)} {pos : Pos} {wi : TI} {g : TG} {tt : TT} {te : TE} (hc : L2H.HotC X) (hN : X.N.Nodup) (hi : L2H.PIH X tg iter wi) (ok : BlkOk X.N X.env.scope scope own)
    (hg : ∀ (s : Shared) (H : Hp) (C : Addr) (cl : List (Str × Addr)) (fp : List Addr), PG (X.blk s H scope (compEnvC scope cl C X.env) fp) tg g)
    (ht : ∀ (s : Shared) (H : Hp) (C : Addr) (cl : List (Str × Addr)) (fp : List Addr), PTs (X.blk s H scope (compEnvC scope cl C X.env) fp) ifs tt)
    (he : ∀ (s : Shared) (H : Hp) (C : Addr) (cl : List (Str × Addr)) (fp : List Addr), PE (X.blk s H scope (compEnvC scope cl C X.env) fp) elt te) (hs : ∀ x, foldedSetIterable iter X.env x = pure x := by intro _; rfl) :
    PE X (.ListComp elt [⟨tg, iter, ifs, 0⟩] scope pos) (tLc wi g tt te (own.map (·.2))) := by
  refine ⟨fun pins s σ H Q I h => ?_⟩
  rw [eval_ListComp]
  obtain ⟨p, hot, hp⟩ := hc
  refine blk_enterH (O := fun _ => .lst []) (Q := Q) (o0 := { cls := .type "list", data := .seq ([] : List Value).toArray }) (fun Jt D H3 => ∃ W : Nat → Nat → Hp → Prop, (∃ m, W 0 m H3) ∧ ∀ i m H, W i m H → (Jt.stop i H ∧ Q (.ref D) H) ∨ (Jt.go i H ∧ ∃ Nx : Hp → Prop, (∀ H', Nx H' → ∃ m', m' < m ∧ W (i + 1) m' H') ∧ ∀ x H', Jt.yld i H x H' → g x (wipe σ (own.map (·.2))) H' fun σ2 H2 => wipe σ2 (own.map (·.2)) = wipe σ (own.map (·.2)) ∧ tt σ2 H2 fun b H3 =>
    if b = true then te σ2 H3 fun y H4 => ∃ acc, H4 D = some (.lst acc) ∧ acc.length < sizeLine ∧ Nx (upd H4 D (.lst (acc ++ [y]))) else Nx H3)) rfl hN I hi ok hs (fun s E Q q => wpAny_newObj_type q (by show 0 ≤ sizeLine; decide)) ?_ (fun it acc env R s a b => codeAny_compStart_list a b) h ?_
  · intro h0 G _
    exact ⟨Nat.zero_le _, [], 0, .nil, Heap.get?_push_size _ rfl⟩
  · rintro s3 H3 C cl fp it D tn Jt s4 R ⟨W, ⟨m0, w0⟩, turn⟩ I4 held T st4 nfp stat done
    refine compLoop_any (fun m s' => ∃ i H', Inv (X.blk s3 H3 scope (compEnvC scope cl C X.env) fp) [] (wipe σ (own.map (·.2))) H' s' ∧ tn i s'.heap ∧ (∀ b ∈ fp, H' b = none) ∧ W i m H') ?_ m0 ⟨0, H3, I4, st4, nfp, w0⟩
    rintro m s5 ⟨i, H5, I5, st5, n5, w5⟩
    have hpn := held H5 s5 I5 p hp
    have I5p := inv_pn (p := p) I5 ⟨hpn.1, hpn.2.1, hpn.2.2.1, hpn.2.2.2.1, hpn.2.2.2.2.2⟩
    have hc' : L2H.HotC (pin1 (X.blk s3 H3 scope (compEnvC scope cl C X.env) fp) p) := ⟨p, hot, List.mem_cons_self ..⟩
    have stat' : ∀ b ∈ fp, FpOk (pin1 (X.blk s3 H3 scope (compEnvC scope cl C X.env) fp) p) [] H5 b := fun b hb => by
      obtain ⟨q0, q1, q2, q3, q4, q5⟩ := stat b H5 hb (n5 b hb)
      refine ⟨q0, q1, q2, q3, q4, fun q hq => ?_⟩
      have e : q = p := by simpa using hq
      rw [e]
      exact hpn.2.2.2.2.1 b hb
    rcases turn i m H5 w5 with ⟨stop, fin⟩ | ⟨go, Nx, hNx, step⟩
    · refine thnF (T.done (pin1 (X.blk s3 H3 scope (compEnvC scope cl C X.env) fp) p) rfl rfl rfl hc' i [] s5 _ H5 (fun _ _ => False) I5p stat' st5 stop) fun r s6 ⟨hr, I6p⟩ => ?_
      subst hr
      exact done H5 s6 (inv_unpn I6p) fin
    · refine thnF (T.item (pin1 (X.blk s3 H3 scope (compEnvC scope cl C X.env) fp) p) rfl rfl rfl hc' i [] s5 _ H5 (fun _ _ => False) I5p stat' st5 go) fun r s6 ⟨u, hr, h6⟩ => ?_
      subst hr
      refine thnF h6 fun _ s7 ⟨x, H7, I7p, r7, y7, st7, n7⟩ => ?_
      have I7 := inv_unpn I7p
      have I7' := I7.pinned (fun b hb => stat b _ hb (n7 b hb)) (T.obj _ _ st7)
      refine thnF ((hg s3 H3 C cl fp).run _ s7 _ _ _ u _ I7' r7 (step x H7 y7)) fun _ s8 ⟨σ8, H8, I8, hw8, q8⟩ => ?_
      refine thnF ((ht s3 H3 C cl fp).run _ s8 σ8 H8 _ I8 q8) fun b s9 ⟨H9, I9, q9⟩ => ?_
      have turned : ∀ {s' : Shared} {H' : Hp}, Inv (X.blk s3 H3 scope (compEnvC scope cl C X.env) fp) ([] ++ pinsAt fp s7.heap) σ8 H' s' → Nx H' → ∃ m1, m1 < m ∧ ∃ i H', Inv (X.blk s3 H3 scope (compEnvC scope cl C X.env) fp) [] (wipe σ (own.map (·.2))) H' s' ∧ tn i s'.heap ∧ (∀ b ∈ fp, H' b = none) ∧ W i m1 H' := by
        intro s' H' I' nx
        obtain ⟨m', hm, w'⟩ := hNx H' nx
        have still : ∀ b ∈ fp, ∀ o, s7.heap.get? b = some o → s'.heap.get? b = some o ∧ H' b = none := by
          intro b hb o e
          have z := I'.pin (b, o) (List.mem_append_right _ (List.mem_append_right _ (mem_pinsAt hb e)))
          exact ⟨z.1, z.2.1⟩
        have hl : (wipe σ (own.map (·.2))).length = σ8.length := by rw [← hw8, wipe_length]
        refine ⟨m', hm, i + 1, H', (I'.unpinned (pins := [])).weak hl (fun j v e => ?_), T.keep _ _ _ st7 fun b hb o e => (still b hb o e).1, fun b hb => ?_, w'⟩
        · rw [← hw8] at e
          exact (wipe_some e).1
        · obtain ⟨o, e, _⟩ := T.obj _ _ st7 b hb
          exact (still b hb o e).2
      cases b with
      | false =>
        simp only [Bool.false_eq_true, if_false] at q9 ⊢
        exact turned I9 q9
      | true =>
        simp only [if_true] at q9 ⊢
        refine thnF ((he s3 H3 C cl fp).run _ s9 σ8 H9 _ I9 q9) fun z s10 ⟨yv, H10, I10, r10, acc, hD10, hz10, nx⟩ => ?_
        exact app_ok (X := X.blk s3 H3 scope (compEnvC scope cl C X.env) fp) I10 hD10 hz10 r10 fun s11 I11 => turned I11 nx
end J
namespace J
open PySem L2
open PyProof.Rows (envOfC)
theorem PIH.mono {X : Cx} {tg e : Expr} {t t' : TI} (h : L2H.PIH X tg e t) (m : ∀ σ H R, t' σ H R → t σ H R) : L2H.PIH X tg e t' := ⟨fun pins s σ H R I q => h.run pins s σ H R I (m σ H R q)⟩
section
variable {X : Cx} {W : WX}
theorem ji_range1H {tg a : Expr} {f : EF} {p pos : Pos} (hg : Gl X "range") (hm : X.mg "range" = none) (ha : PE X a (tE (ct X) W f)) (hs : starEach [a] X.env = [(false, eval a X.env)] := by rfl) : L2H.PIH X tg (.Call (.Name "range" p) [a] [] pos) (tI (ct X) W (iRange1 f)) :=
  PIH.mono (L2H.pi_range1H hg hm (pa_cons ha pa_nil hs) hs) fun σ H R h => by
    obtain ⟨g, ρ, h0, rh, rs, p⟩ := h
    unfold iRange1 at p
    refine ⟨g, ρ, h0, rh, rs, ?_⟩
    cases e : f ρ h0 with
    | no => rw [e] at p; exact p.elim
    | exc x ns vs h' => rw [e] at p; exact p
    | ok v h1 =>
      rw [e] at p
      cases v with
      | int n =>
        simp only [Res.bind] at p
        by_cases hn : -(2 ^ 62) ≤ n ∧ n < 2 ^ 62
        · rw [if_pos hn] at p
          intro g' H' u st rh' rv
          exact ⟨n, by rw [int_get rv], hn.1, hn.2, p g' H' _ st rh' deliv_rng⟩
        · rw [if_neg hn] at p; exact p.elim
      | _ => exact p.elim
theorem j_lcH {elt tg iter : Expr} {ifs : List Expr} {scope : Scope} {own : List (Str × Nat)} {pos : Pos} {it : AF} {g : TG} {b : VV → VSt → Option VSt} {ft : TF} {fe : EF} (hc : L2H.HotC X) (hN : X.N.Nodup) (hi : L2H.PIH X tg iter (tI (ct X) W it)) (ok : BlkOk X.N X.env.scope scope own)
    (hg : ∀ (s : Shared) (H : Hp) (C : Addr) (cl : List (Str × Addr)) (fp : List Addr), PG (X.blk s H scope (compEnvC scope cl C X.env) fp) tg g) (pat : PatOk X.K g b (own.map (·.2)))
    (ht : ∀ (s : Shared) (H : Hp) (C : Addr) (cl : List (Str × Addr)) (fp : List Addr), PTs (X.blk s H scope (compEnvC scope cl C X.env) fp) ifs (tT (ct X) W0 ft))
    (he : ∀ (s : Shared) (H : Hp) (C : Addr) (cl : List (Str × Addr)) (fp : List Addr), PE (X.blk s H scope (compEnvC scope cl C X.env) fp) elt (tE (ct X) W0 fe)) (hs : ∀ x, foldedSetIterable iter X.env x = pure x := by intro _; rfl) :
    PE X (.ListComp elt [⟨tg, iter, ifs, 0⟩] scope pos) (tE (ct X) W (eLc (own.map (·.2)) it b ft fe)) :=
  PE.mono (hot_lc hc hN hi ok hg ht he hs) fun σ H Q h => by
    exact tLc_of (mk := fun vs h => .ok (.lst vs) h) pat mk_lst h
/-! text.split(sep) -/
def eSplit (o e : EF) : EF := fun ρ h => (o ρ h).bind fun v h1 => match v with
  | .str a => (e ρ h1).bind fun w h2 => (match w with
    | .str b => if (b.length == 0) = false ∧ a.length + 2 ≤ SZ then .ok (.lst ((Txt.split a b).map .str)) h2 else .no
    | _ => .no)
  | _ => .no
theorem rvs_strs {c : Ct} {z : Addr → Prop} {H : Hp} : ∀ ys : List Str, RVs c z H (ys.map VV.str) (ys.map V.str)
  | [] => RVs.nil
  | y :: ys => RVs.cons (by rw [RV]) (rvs_strs ys)
theorem j_split {o e : Expr} {fo fe : EF} {apos pos : Pos} (ho : PE X o (tE (ct X) W fo)) (he : PE X e (tE (ct X) W fe)) (hs : starEach [e] X.env = [(false, eval e X.env)] := by rfl) (hbase : attributeBase o "split" X.env (eval o X.env) = eval o X.env := by rfl) (hline : (apos.endLine == pos.line) = true := by rfl) :
    PE X (.Call (.Attribute o "split" apos) [e] [] pos) (tE (ct X) W (eSplit fo fe)) :=
  PE.mono (pe_split ho he hs hbase hline) fun σ H Q ⟨g, ρ, h0, rh, rs, p⟩ => by
    refine ⟨g, ρ, h0, rh, rs, (Pst.bind (R := RT (ct X)) p).imp fun u H1 ⟨g1, v, h1, st, rh1, rv1, p1⟩ => ?_⟩
    cases v with
    | str a =>
      refine ⟨⟨a, str_get rv1⟩, g1, ρ, h1, rh1, rs.stp st, (Pst.bind (R := RT (ct X)) p1).imp fun u2 H2 ⟨g2, w, h2, st2, rh2, rv2, p2⟩ => ?_⟩
      cases w with
      | str b =>
        simp only at p2
        by_cases cc : (b.length == 0) = false ∧ a.length + 2 ≤ SZ
        · rw [if_pos cc] at p2
          refine ⟨a, b, str_get rv1, by rw [str_get rv2], cc.1, SZ_le cc.2, fun q hq => ?_⟩
          obtain ⟨s1, s2, s3⟩ := new_lst rh2 hq (rvs_strs (Txt.split a b))
          exact p2 _ _ _ s1 s2 s3
        · rw [if_neg cc] at p2; exact p2.elim
      | _ => exact p2.elim
    | _ => exact p1.elim
end
/-! isinstance of the handled exception (which has a dict) -/
section
open PySem.W PySem.Calls PyProof.Rows
variable {prog : Program} {w : World} {A : Around} {E : Value → Shared → Prop} {s : Shared} {K : Frag} {x D : Addr} {ox od : Obj}
theorem ca_exc {Q : Option Value → Shared → Prop} (T : L2.ExcC K D) (X : K.In s.heap) (I : InstAt s.heap x ox D (some od)) (h : Q (some (.ref D)) { s with toks := s.toks + 1 }) : wpAny (model prog w) A (getAttr? (.ref x) "__class__") Q E s := by
  obtain ⟨cdD, hcD, _⟩ := any_some T.hd
  have hf : findObj K D (some od) "__class__" = some (.bind (.builtin "getset_descriptor.__get__") (.builtin "object.__class__")) := findObj_data (by rw [hcD]; rfl) T.ha T.hn T.ht
  obtain ⟨hp, gs, dr, tk, os⟩ := s
  have la := I.type (M := model prog w)
  have lb := looks_findIn (M := model prog w) X T.hg
  have lc := looks_findIn (M := model prog w) X T.hk
  have ld := looks_find (M := model prog w) X I hf
  have isB : Looks (model prog w) hp (isInstance (.ref x) (.type "BaseException")) true := la.andThen (looks_subIn X T.hs)
  have n2 : (onTheHeap (Value.ref D) && Value.builtin "BaseException.__getattribute__" == Value.builtin "object.__getattribute__") = false := by
    have n1 : (Value.builtin "BaseException.__getattribute__" == Value.builtin "object.__getattribute__") = false := by decide +kernel
    rw [n1]; rfl
  unfold getAttr? getAttrBy? getAttrBy
  apply wpAny_bind; apply wpAny_mkText; apply wpAny_bind; apply wpAny_attempt; apply wpAny_holding; apply wpAny_bind
  refine la.at ?_
  apply wpAny_bind
  refine lb.at ?_
  show wpAny _ _ (if (onTheHeap (Value.ref D) && Value.builtin "BaseException.__getattribute__" == Value.builtin "object.__getattribute__") = true then _ else _) _ _ _
  rw [n2, if_neg Bool.false_ne_true]
  unfold getAttrByItsOwn hookBefore
  apply wpAny_bind
  rw [if_pos (show onTheHeap (Value.ref D) = true from rfl)]
  refine lc.at ?_
  apply wpAny_bind; apply wpAny_attempt; apply wpAny_holding
  unfold callGetattribute
  rw [show (false && onTheHeap (Value.builtin "BaseException.__getattribute__")) = false from rfl, if_neg Bool.false_ne_true]
  unfold boundAndCalled
  rw [PySem.F.excAttr_ValueError.ga.bind (.ref x)]
  apply wpAny_bind; apply wpAny_pure
  show wpAny _ _ (call (.builtin "BaseException.__getattribute__") [.ref x, .str "__class__" tk]) _ _ _
  apply wpAny_call
  refine codeAny_call_builtin PySem.F.excAttr_ValueError.ga.plain PySem.F.entry_bexc_ga ?_
  refine @check_slot (model prog w) _ _ ⟨hp, gs, dr, tk + 1, os⟩ "BaseException.__getattribute__" "BaseException" "__getattribute__" (.ref x) [.str "__class__" tk] [] _ (by decide +kernel) (by decide +kernel) isB (PySem.F.args_bexc_ga (.ref x) (.str "__class__" tk)) ?_
  unfold Builtin.«object.__getattribute__»
  apply wpAny_bind
  refine wpAny_of_eq (a := ((Value.ref x : Value), [Value.str "__class__" tk])) (by first | rfl | (simp only [slotArgs]; rfl)) ?_
  apply wpAny_bind; apply wpAny_pure; apply wpAny_bind
  refine la.at ?_
  apply wpAny_bind
  refine ld.at ?_
  show wpAny _ _ (holding [Value.builtin "object.__class__"] (call (.builtin "getset_descriptor.__get__") [.builtin "object.__class__", .ref x, .ref D]) >>= ret) _ _ _
  apply wpAny_bind; apply wpAny_holding; apply wpAny_call
  refine class_get (s := ⟨hp, gs, dr, tk + 1, os⟩) (ox := ox) (od := some od) X I T.hm ?_
  apply wpAny_pure
  show wpAny _ _ (handedOut (.ref D)) _ _ _
  rw [handedOut_of (v := .ref D) rfl]
  first
    | exact wpAny_pure (wpAny_pure h)
    | exact wpAny_pure h
theorem kitx_excD (T : L2.ExcC K D) : KitX K (.ref x) (.ref D) (fun h => ∃ ox od, InstAt h x ox D (some od)) where
  ty := fun _ _ _ ⟨_, _, I⟩ => I.type
  it := fun _ _ X _ => by
    obtain ⟨cdD, hcD, _⟩ := any_some T.hd
    unfold clsIn at hcD
    split at hcD
    · rename_i ho
      intro A' Q' E' s' k q
      unfold isType loadHead
      apply wpAny_bind
      exact wpAny_loadPart (k _ _ (X _ _ ho)) (wpAny_pure q)
    · cases hcD
  ne := fun h tp dd its n sl X htp => by
    obtain ⟨cdD, hcD, _⟩ := any_some T.hd
    apply Bool.eq_false_iff.mpr
    intro q
    have e : D = tp := Value.ref.inj (beq_iff_eq.mp q)
    subst e
    unfold clsIn at hcD
    split at hcD
    · rename_i ho
      have z := (X _ _ ho).symm.trans htp
      cases z
    · cases hcD
  ca := fun X ⟨ox, od, I⟩ k => ca_exc T X I k
end
/-- isinstance(e, c): e held by a pin, its dict at dd -/
def rIsD (Y : Cx) (D a dd : Addr) : List V → Hp → VK → Prop := fun xs H Q => ∃ (c : V) (cv : Value) (b : Bool), xs = [.ref a, c] ∧ (∀ u, RelV c u → u = cv) ∧ PySem.W.kitOne Y.K (.ref D) cv = some b ∧ ((∃ fs, H dd = some (.xd fs)) ∨ ∃ o, Y.s_0.heap.get? dd = some o ∧ dd ∉ Y.ex) ∧ Q (.bl b) H
theorem call_isD {Y : Cx} {a D dd : Addr} {oe : Obj} (hp : (a, oe) ∈ Y.pn) (T : ExcC Y.K D) (hz : Zc (.ref D) (some dd) oe) (hf : ∃ vs, oe.data = .fields vs) : CallR Y (.builtin "isinstance") (rIsD Y D a dd) := by
  intro pins s σ H xs us Q I r h
  obtain ⟨c, cv, b, rfl, hcv, e, hd, q⟩ := h
  cases r with
  | cons rx rr =>
    cases rr with
    | cons rt rr =>
      cases rr
      cases rx
      have ec := hcv _ rt
      subst ec
      have hget := (I.pin (a, oe) (List.mem_append_left _ hp)).1
      obtain ⟨vs, hv⟩ := hf
      have hod : ∃ od, s.heap.get? dd = some od := by
        rcases hd with ⟨fs, hfs⟩ | ⟨o, ho, hx⟩
        · have z : ObjOk Y.prog Y.w H s.heap dd (.xd fs) := I.hok dd _ hfs
          obtain ⟨mA, hns, _⟩ := z
          obtain ⟨o, _, _, e1, _⟩ := hns
          exact ⟨o, e1⟩
        · exact I.base.there dd o ho hx
      obtain ⟨od, hod⟩ := hod
      have J : PySem.W.InstAt s.heap a oe D (some od) := ⟨hget, hz.1, by unfold PySem.W.notCls; rw [hv] <;> rfl, by rw [hz.2]; exact hod⟩
      exact PySem.W.kia_one (kitx_excD T) I.kIn ⟨oe, od, J⟩ e (fun z => nomatch z) fun tk => ⟨.bl b, H, I.kept (t' := tk) fun _ _ z => z, rfl, q⟩
def eIsE (i : Nat) (a : Addr) (b : Bool) : EF := fun ρ h => match ρ[i]? with
  | some (some (.raw a')) => if a' = a then .ok (.bl b) h else .no
  | _ => .no
theorem j_isE {Y : Cx} {W : WX} {a D dd C : Addr} {oe : Obj} {i : Nat} {x y : Str} {b : Bool} {p1 p2 p3 pos : Pos} (hp : (a, oe) ∈ Y.pn) (T : ExcC Y.K D) (hz : Zc (.ref D) (some dd) oe) (hf : ∃ vs, oe.data = .fields vs) (hd : ∃ o, Y.s_0.heap.get? dd = some o) (hx : dd ∉ Y.ex)
    (hg : Gl Y "isinstance") (hm : Y.mg "isinstance" = none) (hN : Y.N[i]? = some x) (hv : Vis Y.env.scope x) (hgy : Gl Y y) (hmy : Y.mg y = some (.ref C)) (hk : PySem.W.kitOne Y.K (.ref D) (.ref C) = some b)
    (h1 : (x == ("__debug__" : Str)) = false := by decide) (h2 : (x == ("__classdict__" : Str)) = false := by decide) (h3 : (y == ("__debug__" : Str)) = false := by decide)
    (he : starEach [.Name x p2, .Name y p3] Y.env = (false, eval (.Name x p2) Y.env) :: starEach [.Name y p3] Y.env := by rfl) :
    PE Y (.Call (.Name "isinstance" p1) [.Name x p2, .Name y p3] [] pos) (tE (ct Y) W (eIsE i a b)) :=
  PE.mono (pe_callB (call_isD hp T hz hf) hg hm (by decide +kernel) (pa_cons (pe_var (i := i) hN hv h1 h2) (pa_cons (pe_glob (v := .ref C) hgy hmy rfl h3) pa_nil)) (by decide) (by decide) he) fun σ H Q ⟨g, ρ, h0, rh, rs, p⟩ => by
    unfold eIsE at p
    split at p
    · rename_i a' er
      split at p
      · rename_i ea
        subst ea
        obtain ⟨u, eu, ru⟩ := rs.get i _ er
        have eu2 : u = .ref a' := by have q := ru.rv rfl; rw [RV] at q; exact q
        subst eu2
        obtain ⟨o, ho⟩ := hd
        exact ⟨.ref a', eu, .ref C, .ref C, b, rfl, fun u r => r, hk, .inr ⟨o, ho, hx⟩, p g H _ .refl rh rt_bl⟩
      · exact p.elim
    · exact p.elim
end J
namespace J
open PySem L2
open PyProof.Rows (envOfC)
/-- x(e, ..) within the except suite, x a def: the exception at p.1 is held, its dict stands at dd -/
def tHot (dd : Addr) (N ps : List Str) (tb : TS) (t : TA) : TE := fun σ H Q => t σ H fun vs H1 => vs.length = ps.length ∧ (∃ fs, H1 dd = some (.xd fs)) ∧ tb { nx := fun _ H' => Q .non H', rt := Q } (L2.start N vs) H1
theorem pe_hot {X : Cx} {k : Nat} {f dd : Addr} {x : Str} {params : Arguments} {body : List Stmt} {scope : Scope} {fd : FuncData} {N ps : List Str} {p : Addr × Obj} {e : Expr} {es : List Expr} {t : TA} {tb : TS} {q pos : Pos} (F : FunD X.K x x params body scope [] [] f fd) (S : FnScope N ps scope) (hm : X.mg x = some (.ref f)) (hg : Gl X x)
    (hr : L2H.RoomH (k + 1) X.A) (hot : L2H.Hot1 X.A p) (hp : p ∈ X.pn) (hb : Binds X.K fd ps []) (ha : PA X (e :: es) t)
    (hbody : ∀ (cdv : Value) (s : Shared) (H : Hp), (∃ o, s.heap.get? dd = some o) → L2H.RoomH k (X.A.deeper (envOfC x scope s.heap.objs.size f cdv)) → PSs (L2H.cxH (L2N.CX X.prog X.w) X.prog X.w X.K X.mg X.base N x scope f cdv X.A X.stack s H X0 p) body tb)
    (hdb : (x == ("__debug__" : Str)) = false := by decide) (he : starEach (e :: es) X.env = (false, eval e X.env) :: starEach es X.env := by rfl) (hpl : (backTo pos (starEach es X.env)).any (·.1) = false := by rfl) :
    PE X (.Call (.Name x q) (e :: es) [] pos) (tHot dd N ps tb t) := by
  refine ⟨fun pins s σ H Q I h => ?_⟩
  have kp := F.kp
  obtain ⟨oc, od, dV, kV, doc, pm, an, cdv, ctv, osl, efd, lk, hcd, _, _⟩ := F.ex
  subst efd
  refine wpAny_Call_Name_kw (ld_glob I hg hm ?_ hdb)
  refine PySem.W.callWith_K (h₀ := X.base) I.ok.mod.kin kp (thn (ha.run pos pins s σ H _ I h) fun us s1 ⟨vs, H1, I1, r, hl, ⟨fs, hfs⟩, qb⟩ => ⟨I1.kIn, ?_⟩) he hpl
  have hdd : ∃ o, s1.heap.get? dd = some o := by
    have z : ObjOk X.prog X.w H1 s1.heap dd (.xd fs) := I1.hok dd _ hfs
    obtain ⟨mA, ⟨o, _, _, e1, _⟩, _⟩ := z
    exact ⟨o, e1⟩
  have P1 := I1.pin p (List.mem_append_left _ hp)
  have held : L2H.PinOk X.stack H1 s1 p := ⟨P1.1, P1.2.1, fun z => (List.mem_cons.mp (I1.stkSub p.1 z)).elim P1.2.2.1 P1.2.2.2.1, P1.2.2.2.2⟩
  have lu : us.length = ps.length := by rw [← r.length]; exact hl
  have bb := hb s1 us I1.kIn (by rw [List.append_nil]; exact lu)
  rw [List.append_nil] at bb
  have e0 := I1.env0
  have KX : X.K.In s1.heap := I1.kIn
  have noL : s1.heap.NoLimit := e0.mod.nolimit.keeps fun b o z => (e0.bs b o z).1
  have kinds : ∀ y ∈ ps.zip us, scope.names.lookup y.1 = some .local ∨ (scope.names.lookup y.1 = some .cell ∧ ((cellsFrom (s1.heap.objs.size + 1) scope.names []).lookup y.1).isSome = true) := by
    rintro ⟨n, v⟩ hy
    exact (S.par n (List.of_mem_zip hy).1).elim .inl fun z => .inr ⟨z, PySem.W.cellsFrom_some _ _ _ (.inl z)⟩
  have run : codeAny (model X.prog X.w) X.A (.call (.ref f) ⟨us, []⟩) (CR (L2N.CX X.prog X.w) X.stack X.prog X.w H1 s1 Q X0) s1 := by
    apply codeAny_call_function hr.depth (KX _ _ lk) rfl S.co S.gen rfl (PySem.W.codeRec_of KX hcd)
    apply bb
    apply wpAny_newFunctionEnv_cells S.kind kinds
    intro env henv s2 ic
    subst henv
    refine ⟨noL.keeps ic.toInCall.keep, codeAny_func ?_⟩
    have pb := hbody cdv s1 H1 hdd (hr.deeper _)
    have I2 := L2H.inv_startH (CX := L2N.CX X.prog X.w) (E := X0) S held e0 hl r ic
    apply wpAny_mono (pb.run [] s2 (L2.start N vs) H1 { nx := fun _ H' => Q .non H', rt := Q } I2 qb)
    · intro fl s3 z
      cases fl with
      | ret u =>
        obtain ⟨v, σ3, H3, I3, rv, q3⟩ := z
        exact ⟨v, H3, I3.os, I3.bare, I3.base, I3.hok, rv, q3⟩
      | next =>
        obtain ⟨σ3, H3, I3, q3⟩ := z
        exact ⟨.non, H3, I3.os, I3.bare, I3.base, I3.hok, rfl, q3⟩
      | brk => obtain ⟨_, _, _, z⟩ := z; exact z.elim
      | cont => obtain ⟨_, _, _, z⟩ := z; exact z.elim
    · exact fun _ _ z => z
  apply wpAny_call
  apply codeAny_mono run
  intro rr s' z
  cases rr with
  | error er => exact (cx_no z).elim
  | ok fl =>
    cases fl with
    | ret u => exact I1.after z
    | next => exact z.elim
    | brk => exact z.elim
    | cont => exact z.elim
end J
namespace J
open PySem L2
def kindNames : List Str := ["BadFace", "Full", "BadSize", "BadRow", "BadRests", "NotShut", "BadMap", "NotFace", "NotNear", "NoFace", "NotFree", "BadName", "Taken", "NoWeb", "NoRow", "BadKind", "Unlike", "Had", "NothingLeft", "BadText"]
def isL (a : Addr) (i k : Nat) : EF := eLst (aCons (eIsE 0 a (i == 4 * k)) (aCons (eIsE 0 a (i == 4 * k + 1)) (aCons (eIsE 0 a (i == 4 * k + 2)) (aCons (eIsE 0 a (i == 4 * k + 3)) aNil))))
def B_kinds (a : Addr) (i : Nat) : SF := sSeq (sSet 1 (isL a i 0)) (sSeq (sSet 1 (eBin opAdd (eVar 1) (isL a i 1))) (sSeq (sSet 1 (eBin opAdd (eVar 1) (isL a i 2))) (sSeq (sSet 1 (eBin opAdd (eVar 1) (isL a i 3))) (sSeq (sSet 1 (eBin opAdd (eVar 1) (isL a i 4)))
  (sSeq (sSet 2 (eC (.str "BadFace Full BadSize BadRow BadRests NotShut BadMap NotFace NotNear NoFace NotFree BadName Taken NoWeb"))) (sSeq (sSet 2 (eSplit (eBin opAdd (eVar 2) (eC (.str " NoRow BadKind Unlike Had NothingLeft BadText"))) (eC (.str " "))))
  (sRet (eLc [3] (iRange1 (eC (.int 20))) (bNm 3) (tVal (eBin opIx (eVar 1) (eVar 3))) (eBin opIx (eVar 2) (eVar 3))))))))))
theorem isE_eval {a : Addr} {b : Bool} {r : VSt} {h : VH} : eIsE 0 a b (some (.raw a) :: r) h = .ok (.bl b) h := by
  unfold eIsE
  simp
theorem isL_eval {a : Addr} {i k : Nat} {r : VSt} {h : VH} : isL a i k (some (.raw a) :: r) h = .ok (.lst [.bl (i == 4 * k), .bl (i == 4 * k + 1), .bl (i == 4 * k + 2), .bl (i == 4 * k + 3)]) h := by
  unfold isL eLst aCons aNil
  simp only [isE_eval, Res.bind]
  rfl
def ksAt (i : Nat) : List VV := (List.range 20).map fun j => VV.bl (i == j)
theorem kinds_first {a : Addr} {i : Nat} {r : VSt} {h : VH} : sSet 1 (isL a i 0) (some (.raw a) :: none :: r) h = .nx (some (.raw a) :: some (.lst ((ksAt i).take 4)) :: r) h := by
  unfold sSet
  rw [isL_eval]
  rfl
theorem kinds_next {a : Addr} {i k : Nat} {xs : List VV} {r : VSt} {h : VH} (hx : xs.length ≤ 20) : sSet 1 (eBin opAdd (eVar 1) (isL a i k)) (some (.raw a) :: some (.lst xs) :: r) h = .nx (some (.raw a) :: some (.lst (xs ++ [.bl (i == 4 * k), .bl (i == 4 * k + 1), .bl (i == 4 * k + 2), .bl (i == 4 * k + 3)])) :: r) h := by
  unfold sSet eBin eVar
  simp only [List.getElem?_cons_succ, List.getElem?_cons_zero, Res.bind]
  rw [isL_eval]
  unfold opAdd
  simp only [Res.bind]
  have z : (24 : Nat) ≤ SZ := by decide
  rw [if_pos (by simp; omega)]
  rfl
def kinds3 : SF := sSeq (sSet 2 (eC (.str "BadFace Full BadSize BadRow BadRests NotShut BadMap NotFace NotNear NoFace NotFree BadName Taken NoWeb"))) (sSeq (sSet 2 (eSplit (eBin opAdd (eVar 2) (eC (.str " NoRow BadKind Unlike Had NothingLeft BadText"))) (eC (.str " "))))
  (sRet (eLc [3] (iRange1 (eC (.int 20))) (bNm 3) (tVal (eBin opIx (eVar 1) (eVar 3))) (eBin opIx (eVar 2) (eVar 3)))))
theorem kinds_rest {a : Addr} {h : VH} : ∀ i, i < 20 → kinds3 [some (.raw a), some (.lst (ksAt i)), none, none] h = .ret (.lst [.str (kindNames.getD i "")]) h
  | 0, _ => by kernel_rfl
  | 1, _ => by kernel_rfl
  | 2, _ => by kernel_rfl
  | 3, _ => by kernel_rfl
  | 4, _ => by kernel_rfl
  | 5, _ => by kernel_rfl
  | 6, _ => by kernel_rfl
  | 7, _ => by kernel_rfl
  | 8, _ => by kernel_rfl
  | 9, _ => by kernel_rfl
  | 10, _ => by kernel_rfl
  | 11, _ => by kernel_rfl
  | 12, _ => by kernel_rfl
  | 13, _ => by kernel_rfl
  | 14, _ => by kernel_rfl
  | 15, _ => by kernel_rfl
  | 16, _ => by kernel_rfl
  | 17, _ => by kernel_rfl
  | 18, _ => by kernel_rfl
  | 19, _ => by kernel_rfl
  | n + 20, hn => absurd hn (by omega)
theorem kinds_eval {a : Addr} {h : VH} {i : Nat} (hi : i < 20) : B_kinds a i [some (.raw a), none, none, none] h = .ret (.lst [.str (kindNames.getD i "")]) h := by
  unfold B_kinds
  unfold sSeq
  simp only [kinds_first]
  rw [kinds_next (by simp [ksAt])]
  simp only
  rw [kinds_next (by simp [ksAt])]
  simp only
  rw [kinds_next (by simp [ksAt])]
  simp only
  rw [kinds_next (by simp [ksAt])]
  simp only
  exact kinds_rest i hi
end J
namespace J
open PySem L2
open PyProof.Rows (envOfC)
/-! _law_refusal(lambda: ..) -/
theorem ext_ok {c : Ct} {g : Gh} {h : VH} {H H1 : Hp} (rh : RH c g h H) (e : LamX.ExtN H H1) (t : LTab c H1) : Stp g H g H1 ∧ RH c g h H1 := by
  have keep : ∀ q, (∃ o, H q = some o) → (∀ ps, H q ≠ some (.tbl ps)) → H1 q = H q := fun q ⟨o, ho⟩ n => by
    rw [ho]
    exact e q o ho (fun ps z => n ps (by rw [ho, z]))
  have hfz : ∀ q, g.fz q → H1 q = H q := fun q z => keep q (rh.fz q z) (rh.nt q (.inl z))
  have hkp : ∀ q, g.kp q → H1 q = H q := fun q z => keep q (rh.kp q z) (rh.nt q (.inr z))
  have hio : ∀ a ∈ g.io, H1 a = H a := fun a z => keep a (rh.root z) (rh.rootNt z)
  have st : Stp g H g H1 := ⟨List.prefix_rfl, fun _ h => h, fun _ h => h, fun q z => .inl (hfz q z), hkp, fun q us z => e q _ z (fun _ y => by cases y)⟩
  refine ⟨st, rh.len, rh.nd, fun n o a h1 h2 => RO.stp st (fun h => h) (hio a (List.mem_of_getElem? h2)) (rh.at' n o a h1 h2), fun q z => ?_, fun q z => ?_, rh.kd, t, fun q z ps => ?_⟩
  · rw [hfz q z]; exact rh.fz q z
  · rw [hkp q z]; exact rh.kp q z
  · rw [z.elim (hfz q) (hkp q)]; exact rh.nt q z ps
theorem or_eqU {X : Cx} (hu : X.A.units + 64 < cLine) : OpR X (compareOp .Eq) (Rd2 (ct X) opEq) :=
  OpR.imp (OpR.or op_eq (op_eqD hu)) fun x y H Q ⟨g, h, v, w, r, rh, rv, rw', e, kk⟩ => by
    obtain ⟨b, e1, e2⟩ := Option.map_eq_some_iff.mp e
    cases e2
    rcases eqD_cases rv rw' e1 with ⟨q1, q2⟩ | ⟨d, e, q1, q2, q3, q4, q5⟩
    · exact .inl ⟨q1, by rw [q2]; exact kk g H _ .refl rh rt_bl⟩
    · exact .inr ⟨d, e, q1, q2, q3, q4, by rw [q5]; exact kk g H _ .refl rh rt_bl⟩
/-- what the written part says of a refusal that is told -/
structure RefC (K : PySem.W.Frag) (mg : Str → Option Value) (WE : Addr) (x : Str) (i : Nat) (C : Addr) : Prop where
  m : mg x = some (.ref C)
  lt : i < 20
  nm : kindNames.getD i "" = x
  ec : ExcC K C
  xf : XfC K C
  nw : PySem.W.findIn K (.ref C) "word" = some none
  na : PySem.W.findIn K (.ref C) "at" = some none
  ex : PySem.W.exmOne K (.ref C) (.ref WE) = some true
  ve : PySem.W.kitOne K (.ref C) (.type "ValueError") = some true
  ks : ∀ j, j < 20 → ∃ Cj, mg (kindNames.getD j "") = some (.ref Cj) ∧ PySem.W.kitOne K (.ref C) (.ref Cj) = some (i == j)
/-- the body of _law_kinds, walked within the except suite -/
def KindsOk (P : Program) (w : World) (K : PySem.W.Frag) (mg : Str → Option Value) (base : Heap) (WE : Addr) (k : Nat) (body : List Stmt) (scope : Scope) (f : Addr) : Prop :=
  ∀ (cdv : Value) (A : Around) (outer : List Env) (s : Shared) (H : Hp) (a C dd : Addr) (oe : Obj) (x : Str) (i : Nat), RefC K mg WE x i C → Zc (.ref C) (some dd) oe → (∃ vs, oe.data = .fields vs) → (∃ o, s.heap.get? dd = some o) → L2H.Hot1 A (a, oe) → L2H.RoomH k (A.deeper (envOfC "_law_kinds" scope s.heap.objs.size f cdv)) →
    PSs (L2H.cxH (L2N.CX P w) P w K mg base ["_law_e", "_law_h", "_law_w", "_law_at"] "_law_kinds" scope f cdv A outer s H X0 (a, oe)) body (tS ⟨K, mg⟩ W0 (B_kinds a i))
/-- the wish at the except suite -/
def tSuite (c : Ct) (WE : Addr) (a : Addr) (cls : Value) (d : Option Addr) : TS := fun D σ H => ∃ (C dd : Addr) (x : Str) (i : Nat) (n : Int) (g : Gh) (h : VH), cls = .ref C ∧ d = some dd ∧ RefC c.K c.mg WE x i C ∧ H dd = some (.xd [("at", .int n), ("word", .str x)]) ∧ RH c g h H ∧ ¬ g.fz dd ∧ dd ∉ g.io ∧
  σ.length = 4 ∧ σ[3]? = some (some (.ref a)) ∧ ∀ g' H' σ' p, Stp g H g' H' → RH c g' h H' → H' p = some (.tup [.str x, .int n]) → σ'.length = 4 → σ'[1]? = some (some (.ref p)) → D.nx σ' H'
theorem kinds_ok : ∀ i, i < 20 → PyData.strOk (kindNames.getD i "") = true := by decide +kernel
theorem eq_strs {h : VH} {x : Str} (hx : PyData.strOk x = true) : opEq h (.lst [.str x]) (.lst [.str x]) = some (.bl true) := by
  have sh : SeqAt.shaped (toD (.lst [.str x])) = true := by
    unfold SeqAt.shaped
    simp [toD, toDs, PyData.canLay0, PyData.canLayAll0, PyData.depth, PyData.depthAll, hx]
  have ev : PyData.eqv (toD (.lst [.str x])) (toD (.lst [.str x])) = true := by
    simp [toD, toDs, PyData.eqv, PyData.eqvAll]
  unfold opEq eqD
  simp only
  rw [if_pos ⟨by simp [isD, isDs], by simp [isD, isDs], sh, sh⟩, ev]; rfl
section
variable {X : Cx}
theorem suite_ok {WE fk : Addr} {k : Nat} {pk : Arguments} {bk : List Stmt} {sk : Scope} {fdk : FuncData} {p1 p2 p3 p4 p5 p6 p7 p8 p9 p10 p11 p12 p13 p14 p15 p16 p17 p18 p19 p20 p21 p22 p23 p24 p25 p26 p27 p28 p29 p30 : Pos} {i1 i2 i3 i4 i5 : Nat}
    (hN : X.N = (["_law_ask", "_law_found", "_law_kinds_here", "_law_e"] : List Str)) (l1 : X.env.scope.names.lookup ("_law_found" : Str) = some NameKind.local) (l2 : X.env.scope.names.lookup ("_law_kinds_here" : Str) = some NameKind.local) (l3 : X.env.scope.names.lookup ("_law_e" : Str) = some NameKind.local)
    (gk : Gl X "_law_kinds") (gi : Gl X "isinstance") (gv : Gl X "ValueError") (mi : X.mg "isinstance" = none) (mv : X.mg "ValueError" = none) (Fk : FunD X.K "_law_kinds" "_law_kinds" pk bk sk [] [] fk fdk) (Sk : FnScope ["_law_e", "_law_h", "_law_w", "_law_at"] ["_law_e"] sk) (mk : X.mg "_law_kinds" = some (.ref fk)) (hbk : Binds X.K fdk ["_law_e"] [])
    (hr : L2H.RoomH (k + 1) X.A) (KB : KindsOk X.prog X.w X.K X.mg X.base WE k bk sk fk) (a : Addr) (oe : Obj) (cls : Value) (d : Option Addr) (pn : List (Addr × Obj)) (hz : L2N.Zn cls d oe) (hf : ∃ vs, oe.data = .fields vs) :
    PSs (X.suite a ((a, oe) :: pn)) [.Assign [.Name "_law_kinds_here" p1] (.Call (.Name "_law_kinds" p2) [.Name "_law_e" p3] [] p4) p5,
      .Assign [.Name "_law_found" p6] (.Tuple [.Constant (.str "other") i1 p7, .UnaryOp .USub (.Constant (.int 1) i2 p8) p9] i3 p10) p11,
      .If (.BoolOp .And [.Compare (.Name "_law_kinds_here" p12) [.Eq] [.List [.Attribute (.Name "_law_e" p13) "word" p14] p15] p16, .Call (.Name "isinstance" p17) [.Name "_law_e" p18, .Name "ValueError" p19] [] p20] p21)
        [.Assign [.Name "_law_found" p22] (.Tuple [.Subscript (.Name "_law_kinds_here" p23) (.Constant (.int 0) i4 p24) p25, .Attribute (.Name "_law_e" p26) "at" p27] i5 p28) p29] [] p30] (tSuite (ct X) WE a cls d) := by
  refine ⟨fun pins s σ H D I pre => ?_⟩
  obtain ⟨C, dd, x, i, n, g, h, rfl, rfl, R, hdd, rh, nf, ni, hl, h3, fin⟩ := pre
  have hzc : Zc (.ref C) (some dd) oe := hz.zc
  have hot : L2H.Hot1 (X.suite a ((a, oe) :: pn)).A (a, oe) := by
    obtain ⟨vs, hv⟩ := hf
    exact ⟨rfl, vs, hv, hz.2.2 vs hv⟩
  have hN' : (X.suite a ((a, oe) :: pn)).N.Nodup := by show X.N.Nodup; rw [hN]; decide +kernel
  have n1 : (X.suite a ((a, oe) :: pn)).N[1]? = some ("_law_found" : Str) := by show X.N[1]? = _; rw [hN]; rfl
  have n2 : (X.suite a ((a, oe) :: pn)).N[2]? = some ("_law_kinds_here" : Str) := by show X.N[2]? = _; rw [hN]; rfl
  have n3 : (X.suite a ((a, oe) :: pn)).N[3]? = some ("_law_e" : Str) := by show X.N[3]? = _; rw [hN]; rfl
  have hrS : L2H.RoomH (k + 1) (X.suite a ((a, oe) :: pn)).A := ⟨hr.dp, hr.un⟩
  have hu : (X.suite a ((a, oe) :: pn)).A.units + 64 < cLine := by have := hr.un; show X.A.units + 64 < cLine; omega
  have d0 := ps_set (X := X.suite a ((a, oe) :: pn)) (i := 2) (pos := p5) (pos' := p1) hN' n2 (.inl l2) (pe_hot (X := X.suite a ((a, oe) :: pn)) (dd := dd) (q := p2) (pos := p4) Fk Sk mk gk hrS hot (List.mem_cons_self ..) hbk (pa_cons (pe_var (i := 3) (pos := p3) n3 (.inl l3)) pa_nil)
    (fun cdv s H hd hr2 => KB cdv _ _ s H a C dd oe x i R hzc hf hd hot hr2)) (hf := .inr l2)
  have d1 := ps_set (X := X.suite a ((a, oe) :: pn)) (i := 1) (pos := p11) (pos' := p6) hN' n1 (.inl l1) (pe_tup (x1 := i3) (pos := p10) (pa_cons (pe_str (j := i1) (pos := p7) (x := "other")) (pa_cons (pe_un (pos := p9) un_neg (pe_int (j := i2) (pos := p8) (i := 1))) pa_nil))) (hf := .inr l1)
  have xw := pe_xf (X := X) (pn := pn) (n := "word") (pos := p14) R.xf R.nw hzc hf (pe_var (i := 3) (pos := p13) n3 (.inl l3))
  have xa := pe_xf (X := X) (pn := pn) (n := "at") (pos := p27) R.xf R.na hzc hf (pe_var (i := 3) (pos := p26) n3 (.inl l3))
  have tv := pt_val (pe_callB (X := X.suite a ((a, oe) :: pn)) (p := p17) (pos := p20) (call_isD (List.mem_cons_self ..) R.ec hzc hf) gi mi (by decide +kernel) (pa_cons (pe_var (i := 3) (pos := p18) n3 (.inl l3)) (pa_cons (pe_bltn (v := .ty "ValueError") (pos := p19) gv mv PyProof.Rows.Boot.«ValueError» rfl) pa_nil)))
  have d2 := ps_if (pos := p30) (PW.pt (pw_and (pos := p21) (pt_cmpR (pos := p16) (or_eqU hu) (pe_var (i := 2) (pos := p12) n2 (.inl l2)) (pe_lst (pos := p15) (pa_cons xw pa_nil)) (nomark _)) (pw_and1 (pos := p21) tv)))
    (pss_one (ps_set (X := X.suite a ((a, oe) :: pn)) (i := 1) (pos := p29) (pos' := p22) hN' n1 (.inl l1) (pe_tup (x1 := i5) (pos := p28) (pa_cons (j_ix (W := W0) (X := X.suite a ((a, oe) :: pn)) (pos := p25) ir_ix (j_var 2 (pe_var (i := 2) (pos := p23) n2 (.inl l2))) (j_int (i := 0) (j := i4) (pos := p24)) (fun _ _ => rfl)) (pa_cons xa pa_nil))) (hf := .inr l1))) pss_nil
  refine (pss_cons d0 (pss_cons d1 (pss_one d2))).run pins s σ H D I ?_
  have lenS : ∀ (i : Nat) (v : Option V), (σ.set i v).length = 4 := fun i v => by rw [List.length_set]; exact hl
  refine ⟨.ref a, h3, rfl, ⟨_, hdd⟩, g.keep dd, [some (.raw a), none, none, none], h, rh.keep hdd nf ni, ⟨rfl, ?_⟩, ?_⟩
  · intro j v e
    match j, e with
    | 0, e =>
      cases e
      exact ⟨.ref a, rfl, RT.of_rv (by rw [RV])⟩
    | 1, e => cases e
    | 2, e => cases e
    | 3, e => cases e
    | j + 4, e => simp at e
  rw [kinds_eval R.lt, R.nm]
  intro g2 H2 u st rh2 rv
  have kp2 : g2.kp dd := st.kp dd (.inr rfl)
  have hdd2 : H2 dd = some (.xd [("at", .int n), ("word", .str x)]) := (st.kH dd (.inr rfl)).trans hdd
  refine ⟨1, rfl, by show 2 ≤ sizeLine; rw [PySem.sizeLine_eq]; decide, fun p hp => ?_⟩
  have st3 : Stp g2 H2 g2 (upd H2 p (.tup [.str "other", .int (-1)])) := .junk rh2 hp
  have rh3 : RH (ct X) g2 h (upd H2 p (.tup [.str "other", .int (-1)])) := rh2.junk hp
  have hdd3 : upd H2 p (.tup [.str "other", .int (-1)]) dd = some (.xd [("at", .int n), ("word", .str x)]) := (st3.kH dd kp2).trans hdd2
  have s2 : ((σ.set 2 (some u)).set 1 (some (V.ref p)))[2]? = some (some u) := by
    rw [List.getElem?_set_ne (by decide), List.getElem?_set_self (by omega)]
  have s3 : ((σ.set 2 (some u)).set 1 (some (V.ref p)))[3]? = some (some (.ref a)) := by
    rw [List.getElem?_set_ne (by decide), List.getElem?_set_ne (by decide)]; exact h3
  have l3' : ((σ.set 2 (some u)).set 1 (some (V.ref p))).length = 4 := by rw [List.length_set, List.length_set]; exact hl
  revert st3 rh3 hdd3
  generalize upd H2 p (.tup [.str "other", .int (-1)]) = H3
  intro st3 rh3 hdd3
  refine ⟨u, s2, .ref a, s3, rfl, rfl, dd, _, .str x, rfl, hdd3, rfl, by show 1 ≤ sizeLine; rw [PySem.sizeLine_eq]; decide, fun p4 hp4 => ?_⟩
  obtain ⟨st4, rh4, rt4⟩ := new_lst (xs := [.str x]) rh3 hp4 (RVs.one (by rw [RV]))
  refine ⟨g2.frz p4, h, .lst [.str x], .lst [.str x], .bl true, rh4, (rv.stp st3).stp st4, rt4, eq_strs (by rw [← R.nm]; exact kinds_ok i R.lt), fun g5 H5 u5 st5 rh5 rv5 => ⟨true, bl_get rv5, ?_⟩⟩
  show (if (true : Bool) = true then _ else _)
  rw [if_pos rfl]
  have kp5 : g5.kp dd := st5.kp dd (st4.kp dd kp2)
  have hdd5 : H5 dd = some (.xd [("at", .int n), ("word", .str x)]) := ((st5.kH dd (st4.kp dd kp2)).trans (st4.kH dd kp2)).trans hdd3
  refine ⟨.ref a, s3, .ty "ValueError", .type "ValueError", true, rfl, fun u r => r, R.ve, .inl ⟨_, hdd5⟩, true, rfl, ?_⟩
  show (if (true : Bool) = true then _ else _)
  rw [if_pos rfl]
  have ru5 : RT (ct X) g5 H5 (.lst [.str x]) u := ((rv.stp st3).stp st4).stp st5
  refine ⟨g5, [none, none, some (.lst [.str x]), none], h, rh5, ⟨l3'.symm, ?_⟩, ?_⟩
  · intro j v e
    match j, e with
    | 0, e => cases e
    | 1, e => cases e
    | 2, e =>
      cases e
      exact ⟨u, s2, ru5⟩
    | 3, e => cases e
    | j + 4, e => simp at e
  intro g6 H6 u6 st6 rh6 rv6
  have e6 := str_get rv6
  subst e6
  have hdd6 : H6 dd = some (.xd [("at", .int n), ("word", .str x)]) := (st6.kH dd kp5).trans hdd5
  refine ⟨.ref a, s3, rfl, rfl, dd, _, .int n, rfl, hdd6, rfl, by show 2 ≤ sizeLine; rw [PySem.sizeLine_eq]; decide, fun p7 hp7 => ?_⟩
  have all : Stp (g.keep dd) H g6 (upd H6 p7 (.tup [.str x, .int n])) := ((((st.trans st3).trans st4).trans st5).trans st6).trans (.junk rh6 hp7)
  refine fin (g6.back g.kp) _ _ p7 all.back ((rh6.junk hp7).back (fun q z => all.kp q (.inl z))) upd_same ?_ ?_
  · rw [List.length_set]; exact l3'
  · rw [List.getElem?_set_self (by omega)]
end
end J
namespace J
open PySem L2
open PyProof.Rows (envOfC)
/-- the context of a lambda's body; what it lets out has no context of its own -/
abbrev lamN (X : Cx) (A : Around) (outer : List Env) (s : Shared) (H : Hp) (E : XK) (scope : Scope) (f c' : Addr) : Cx := (LamX.lamCx X A outer s H E scope f c').wish fun e s' =>
  wpAny (model X.prog X.w) (A.deeper (LamX.lamEnv X scope s.heap.objs.size f c')) (leaving (LamX.lamEnv X scope s.heap.objs.size f c') e) (fun _ s2 => L2N.CX X.prog X.w outer H s E e s2) (fun e2 s2 => L2N.CX X.prog X.w outer H s E e2 s2) s'
theorem pe_actN {X : Cx} {pins : List (Addr × Obj)} {σ : L2.St} {H : Hp} {s : Shared} {Ng : List Str} {qg : Str} {sg : Scope} {gA f c' : Addr} {cdg pm ctv : Value} {params : Arguments} {body : Expr} {scope : Scope} {k i : Nat} {a : Str} {pn : List (Addr × Obj)} {xe : Value → Shared → Prop} {W : WX} {tb : XK → TE} {p1 p2 : Pos}
    (I : Inv X pins σ H s) (L : LamX.LamS X.env.scope scope) (hf : s.heap.get? f = some (PySem.W.kla_obj "<lambda>" (X.env.qual ++ "<lambda>") params body scope (cloFrom X.env.cells scope.names []) pm c' ctv)) (hfn : H f = none) (hfr : f ∉ frs X.stack)
    (hbind : bindArgs (PySem.W.kla_fn "<lambda>" (X.env.qual ++ "<lambda>") params body scope (cloFrom X.env.cells scope.names []) pm (.ref c') ctv) ⟨[], []⟩ = pure [])
    (tk : L2N.Takes ((cxOf C8.CX0 X.prog X.w X.K X.mg X.base Ng qg sg gA cdg X.A X.stack s H C8.E0).tr pn xe) W) (hr : Room (k + 1) (X.A.deeper (envOfC qg sg s.heap.objs.size gA cdg)))
    (hbody : ∀ (A : Around) (outer : List Env) (s : Shared) (H : Hp) (E : XK), Room k (A.deeper (LamX.lamEnv X scope s.heap.objs.size f c')) → PE (lamN X A outer s H E scope f c') body (tb E))
    (hN : Ng[i]? = some a) (hv : Vis sg a) (hd : (a == ("__debug__" : Str)) = false := by decide) (hcd : (a == ("__classdict__" : Str)) = false := by decide) :
    PE ((cxOf C8.CX0 X.prog X.w X.K X.mg X.base Ng qg sg gA cdg X.A X.stack s H C8.E0).tr pn xe) (.Call (.Name a p1) [] [] p2)
      (fun τ G Q => τ[i]? = some (some (.ref f)) ∧ G c' = some (LamX.CodeO c' (X.env.qual ++ "<lambda>")) ∧ tb (fun cls d G' => W cls d τ G') σ G Q) := by
  refine ⟨fun qs s0 τ G Q I0 h => ?_⟩
  obtain ⟨hs, hc, ht⟩ := h
  have rd := (pe_var (pos := p1) (i := i) hN hv hd hcd).run qs s0 τ G (fun v G1 => v = .ref f ∧ G1 = G) I0 ⟨.ref f, hs, rfl, rfl⟩
  refine wpAny_Call_Name_kw (thn rd fun u s1 z => ?_)
  obtain ⟨v, G1, I1, r1, ev, eG⟩ := z
  subst ev
  subst eG
  obtain rfl : u = Value.ref f := r1
  have hf1 : s1.heap.get? f = some (PySem.W.kla_obj "<lambda>" (X.env.qual ++ "<lambda>") params body scope (cloFrom X.env.cells scope.names []) pm c' ctv) := by
    refine I1.base.keep f _ hf hfn hfr fun z => ?_
    cases z
  apply PySem.W.callWith_F0 ⟨_, _, _, _, hf1⟩
  have kept : Un (frs X.stack) [] H G1 s.heap s1.heap := I1.base
  obtain ⟨⟨oc, vs, t, hoc, hdc, hvc⟩, _, _⟩ := I1.hok c' _ hc
  have run : codeAny (model X.prog X.w) (X.A.deeper (envOfC qg sg s.heap.objs.size gA cdg)) (.call (.ref f) ⟨[], []⟩) (CR (L2N.CX X.prog X.w) (envOfC qg sg s.heap.objs.size gA cdg :: X.stack) X.prog X.w G1 s1 Q fun cls d G' => W cls d τ G') s1 := by
    apply PySem.W.kla_callFunE hr.depth hf1 rfl L.co L.gen rfl ⟨c', oc, vs, t, rfl, hoc, hdc, hvc⟩
    rw [hbind]
    apply wpAny_pure
    refine wpAny_newFunctionEnv (fun y hy => (L.own y hy).2) (fun y hy => absurd hy (by simp)) (fun h1 hns hsb => ?_) L.kind
    refine ⟨I1.nolimit.fresh _ hsb, ?_⟩
    show codeAny _ _ (.expr body (LamX.lamEnv X scope s1.heap.objs.size f c')) _ _
    have old : ∀ b o, s1.heap.get? b = some o → h1.get? b = some o := by
      intro b o z
      exact hsb.extBut b o (Nat.ne_of_lt (Heap.lt_size z)) (Heap.get?_push_of_some _ z)
    have J0 := LamX.lam_start2 (E := fun cls d G' => W cls d τ G') (f := f) (c' := c') (tk := s1.toks + ([] : List (Str × Value)).length) I L I1.env0 hr.hd kept hns old
    have J : Inv (lamN X (X.A.deeper (envOfC qg sg s.heap.objs.size gA cdg)) (envOfC qg sg s.heap.objs.size gA cdg :: X.stack) s1 G1 (fun cls d G' => W cls d τ G') scope f c') [] σ G1 { s1 with heap := h1, toks := s1.toks + ([] : List (Str × Value)).length } := J0.wish _
    apply PySem.W.kla_codeExpr
    refine wpAny_mono ((hbody _ _ s1 G1 _ (hr.deeper _)).run [] _ _ G1 Q J ht) (fun v s2 hq => ?_) fun e s2 hq => hq
    obtain ⟨w2, G2, J2, rv, q⟩ := hq
    exact ⟨w2, G2, J2.os, J2.bare, J2.base, J2.hok, rv, q⟩
  apply wpAny_call
  apply codeAny_mono run
  intro rr s2 hq
  cases rr with
  | error e => exact L2N.passAt tk τ qs G1 s1 e s2 I1 hq
  | ok fl =>
    cases fl with
    | ret u => exact I1.after hq
    | next => exact hq.elim
    | brk => exact hq.elim
    | cont => exact hq.elim
def eRef (xs : List Str) (fb : EF) : EF := fun ρ h => match fb ρ h with
  | .no => .no
  | .ok _ h' => .ok (.tup [.str "let", .int (-1)]) (trim h.length .non h')
  | .exc x ns vs h' => if x ∈ xs ∧ ns = (["at", "word"] : List Str) then (match vs with
    | [.int n, .str y] => if y = x then .ok (.tup [.str x, .int n]) (trim h.length .non h') else .no
    | _ => .no) else .no
theorem rt_pair {c : Ct} {g : Gh} {H : Hp} {p : Addr} {x : Str} {n : Int} (e : H p = some (.tup [.str x, .int n])) : RT c g H (.tup [.str x, .int n]) (.ref p) := by
  refine RT.of_rv ?_
  rw [RV]
  exact ⟨p, _, rfl, e, RVs.cons (by rw [RV]) (RVs.one (rv_int _ _ _ _))⟩
theorem ref_run {X : Cx} {W : WX} {xs : List Str} {fb : EF} {WE g0 fk : Addr} {k kk : Nat} {pg pk : Arguments} {bg bk : List Stmt} {sg sk : Scope} {fdg fdk : FuncData} {params : Arguments} {body : Expr} {scope : Scope}
    {p1 p2 p3 p4 p5 p6 p7 p8 p9 p10 p11 p12 p13 p14 p15 p16 p17 p18 p19 p20 p21 p22 p23 p24 p25 p26 p27 p28 p29 p30 q1 q2 q3 q4 q5 q6 q7 q8 q9 q10 q11 q12 q13 q14 : Pos} {i1 i2 i3 i4 i5 i6 i7 i8 : Nat}
    (hm : X.mg "_law_refusal" = some (.ref g0)) (FD : FunD X.K "_law_refusal" "_law_refusal" pg bg sg [] [] g0 fdg) (Sg : FnScope ["_law_ask", "_law_found", "_law_kinds_here", "_law_e"] ["_law_ask"] sg) (hbg : Binds X.K fdg ["_law_ask"] [])
    (ebg : bg = [.Assign [.Name "_law_found" q1] (.Tuple [.Constant (.str "let") i6 q2, .UnaryOp .USub (.Constant (.int 1) i7 q3) q4] i8 q5) q6,
      .Try [.Expr (.Call (.Name "_law_ask" q7) [] [] q8) q9] [.ExceptHandler (some (.Name "WebError" q10)) (some "_law_e") [.Assign [.Name "_law_kinds_here" p1] (.Call (.Name "_law_kinds" p2) [.Name "_law_e" p3] [] p4) p5,
      .Assign [.Name "_law_found" p6] (.Tuple [.Constant (.str "other") i1 p7, .UnaryOp .USub (.Constant (.int 1) i2 p8) p9] i3 p10) p11,
      .If (.BoolOp .And [.Compare (.Name "_law_kinds_here" p12) [.Eq] [.List [.Attribute (.Name "_law_e" p13) "word" p14] p15] p16, .Call (.Name "isinstance" p17) [.Name "_law_e" p18, .Name "ValueError" p19] [] p20] p21)
        [.Assign [.Name "_law_found" p22] (.Tuple [.Subscript (.Name "_law_kinds_here" p23) (.Constant (.int 0) i4 p24) p25, .Attribute (.Name "_law_e" p26) "at" p27] i5 p28) p29] [] p30] q11] [] [] q12,
      .Return (some (.Name "_law_found" q13)) q14])
    (l0 : sg.names.lookup ("_law_ask" : Str) = some NameKind.local) (l1 : sg.names.lookup ("_law_found" : Str) = some NameKind.local) (l2 : sg.names.lookup ("_law_kinds_here" : Str) = some NameKind.local) (l3 : sg.names.lookup ("_law_e" : Str) = some NameKind.local)
    (gk : sg.names.lookup ("_law_kinds" : Str) = some NameKind.globalImplicit) (gi : sg.names.lookup ("isinstance" : Str) = some NameKind.globalImplicit) (gv : sg.names.lookup ("ValueError" : Str) = some NameKind.globalImplicit) (gw : sg.names.lookup ("WebError" : Str) = some NameKind.globalImplicit)
    (mi : X.mg "isinstance" = none) (mv : X.mg "ValueError" = none) (mw : X.mg "WebError" = some (.ref WE)) (Fk : FunD X.K "_law_kinds" "_law_kinds" pk bk sk [] [] fk fdk) (Sk : FnScope ["_law_e", "_law_h", "_law_w", "_law_at"] ["_law_e"] sk) (mk : X.mg "_law_kinds" = some (.ref fk)) (hbk : Binds X.K fdk ["_law_e"] [])
    (KB : KindsOk X.prog X.w X.K X.mg X.base WE kk bk sk fk) (RX : ∀ x ∈ xs, ∃ i C, RefC X.K X.mg WE x i C)
    (hr : Room (k + 2) X.A) (hk : kk ≤ k) (L : LamX.LamS X.env.scope scope)
    (hbind : ∀ (q : Str) (cl : List (Str × Addr)) (pm cv ctv : Value), bindArgs (PySem.W.kla_fn "<lambda>" q params body scope cl pm cv ctv) ⟨[], []⟩ = pure [])
    (hbody : ∀ (A : Around) (outer : List Env) (s : Shared) (H : Hp) (E : XK) (f c' : Addr), Room k (A.deeper (LamX.lamEnv X scope s.heap.objs.size f c')) → PE (lamN X A outer s H E scope f c') body (tE (ct X) (Wc E) fb))
    {pins : List (Addr × Obj)} {s1 : Shared} {σ : St} {H1 : Hp} {Q : VK} {g : Gh} {ρ : VSt} {h0 : VH} {f c' : Addr} {pm2 ctv : Value} (I1 : Inv X pins σ H1 s1) (hf : s1.heap.get? f = some (PySem.W.kla_obj "<lambda>" (X.env.qual ++ "<lambda>") params body scope (cloFrom X.env.cells scope.names []) pm2 c' ctv)) (hfn : H1 f = none) (hfr : f ∉ frs X.stack) (hco : H1 c' = some (LamX.CodeO c' (X.env.qual ++ "<lambda>")))
    (rh1 : RH (ct X) g h0 H1) (rs : RS (ct X) g H1 ρ σ) (pp : Pst (ct X) W σ (RT (ct X)) g H1 Q (eRef xs fb ρ h0)) : wpAny (model X.prog X.w) X.A (call (.ref g0) [.ref f]) (EP X pins σ Q) X.xe s1 := by
  obtain ⟨oc, od, dV, kV, doc, pm, an, cdg, ctv0, osl, efd, lk, hcg, _, _⟩ := FD.ex
  subst efd
  subst ebg
  have run : codeAny (model X.prog X.w) X.A (.call (.ref g0) ⟨[.ref f], []⟩) (CR C8.CX0 X.stack X.prog X.w H1 s1 Q C8.E0) s1 := by
    refine LamX.run_ofS (N := ["_law_ask", "_law_found", "_law_kinds_here", "_law_e"]) (ps := ["_law_ask"]) (us := [.ref f]) (vs := [.ref f]) lk hcg Sg hr I1.env0 (hbg s1 [.ref f] I1.kIn rfl) (.cons rfl .nil) rfl fun hr' => ?_
    generalize hZ : cxOf C8.CX0 X.prog X.w X.K X.mg X.base ["_law_ask", "_law_found", "_law_kinds_here", "_law_e"] "_law_refusal" sg g0 cdg X.A X.stack s1 H1 C8.E0 = Z
    have eN' : Z.N = (["_law_ask", "_law_found", "_law_kinds_here", "_law_e"] : List Str) := by rw [← hZ]; rfl
    have eS : Z.env.scope = sg := by rw [← hZ]; rfl
    have nd : Z.N.Nodup := by rw [eN']; decide +kernel
    have n1 : Z.N[1]? = some ("_law_found" : Str) := by rw [eN']; rfl
    have n3 : Z.N[3]? = some ("_law_e" : Str) := by rw [eN']; rfl
    have v1 : Z.env.scope.names.lookup ("_law_found" : Str) = some NameKind.local := by rw [eS]; exact l1
    have v3 : Z.env.scope.names.lookup ("_law_e" : Str) = some NameKind.local := by rw [eS]; exact l3
    have glob : ∀ y : Str, sg.names.lookup y = some NameKind.globalImplicit → Gl Z y := fun y hy => by rw [← hZ]; exact hy
    have d1 := ps_set (X := Z) (i := 1) (pos := q6) (pos' := q1) nd n1 (.inl v1) (pe_tup (x1 := i8) (pos := q5) (pa_cons (pe_str (j := i6) (pos := q2) (x := "let")) (pa_cons (pe_un (pos := q4) un_neg (pe_int (j := i7) (pos := q3) (i := 1))) pa_nil))) (hf := .inr v1)
    have rZ : L2H.RoomH (kk + 1) Z.A := by
      have z := L2H.roomH_of (hr'.mono (show kk + 1 ≤ k + 1 by omega))
      rw [← hZ]
      exact z
    have d2 := L2N.ps_try_as (X := Z) (x := "WebError") (n := "_law_e") (c := .ref WE) (i := 3) (np := q10) (pos := q12) (pos' := q11) (Wout := fun _ _ _ _ => False) (ts := tSuite (ct X) WE)
      (tb := fun Wi => tDrop fun τ G Q => τ[0]? = some (some (.ref f)) ∧ G c' = some (LamX.CodeO c' (X.env.qual ++ "<lambda>")) ∧ tE (ct X) (Wc fun cls d G' => Wi cls d τ G') fb σ G Q) (body := [.Expr (.Call (.Name "_law_ask" q7) [] [] q8) q9])
      (by rw [← hZ]; rfl) (by rw [← hZ]; rfl) nd n3 v3 ⟨glob _ gw, by decide, .inl (by rw [← hZ]; exact mw)⟩ takesN0
      (fun Wi pn xe tk _ => by
        subst hZ
        exact pss_one (ps_expr (pe_actN (i := 0) (tb := fun E => tE (ct X) (Wc E) fb) I1 L hf hfn hfr (hbind _ _ _ _ _) tk hr' (fun A outer s H E hr2 => hbody A outer s H E f c' hr2) rfl (.inl l0))))
      (fun a oe cls d pn hz hfl => by
        subst hZ
        exact suite_ok (X := cxOf C8.CX0 X.prog X.w X.K X.mg X.base ["_law_ask", "_law_found", "_law_kinds_here", "_law_e"] "_law_refusal" sg g0 cdg X.A X.stack s1 H1 C8.E0) (WE := WE) (k := kk) (p1 := p1) (p2 := p2) (p3 := p3) (p4 := p4) (p5 := p5) (p6 := p6) (p7 := p7) (p8 := p8) (p9 := p9) (p10 := p10) (p11 := p11) (p12 := p12) (p13 := p13) (p14 := p14) (p15 := p15) (p16 := p16) (p17 := p17) (p18 := p18) (p19 := p19) (p20 := p20) (p21 := p21) (p22 := p22) (p23 := p23) (p24 := p24) (p25 := p25) (p26 := p26) (p27 := p27) (p28 := p28) (p29 := p29) (p30 := p30) (i1 := i1) (i2 := i2) (i3 := i3) (i4 := i4) (i5 := i5) rfl l1 l2 l3 gk gi gv mi mv Fk Sk mk hbk rZ KB a oe cls d pn hz hfl)
    refine ⟨_, pss_cons d1 (pss_cons d2 (pss_one (ps_ret (pos := q14) (pe_var (i := 1) (pos := q13) n1 (.inl v1))))), ?_⟩
    refine ⟨1, rfl, by show 2 ≤ sizeLine; rw [PySem.sizeLine_eq]; decide, fun p0 hp0 => ?_⟩
    have st2 : Stp g H1 g (upd H1 p0 (.tup [.str "let", .int (-1)])) := .junk rh1 hp0
    have rh2 : RH (ct X) g h0 (upd H1 p0 (.tup [.str "let", .int (-1)])) := rh1.junk hp0
    refine ⟨rfl, by rw [upd_ne (ne_of_none hco hp0)]; exact hco, g, ρ, h0, rh2, rs.stp st2, ?_⟩
    have hp2 : upd H1 p0 (.tup [.str "let", .int (-1)]) p0 = some (.tup [.str "let", .int (-1)]) := upd_same
    revert st2 rh2 hp2
    generalize upd H1 p0 (.tup [.str "let", .int (-1)]) = H2
    intro st2 rh2 hp2
    unfold eRef at pp
    cases er : fb ρ h0 with
    | no => rw [er] at pp; exact pp
    | ok v h' =>
      rw [er] at pp
      intro g' H' u st rh' rv
      have all : Stp g H1 g' H' := st2.trans st
      obtain ⟨g3, s3, r3, _⟩ := trim_ok rh1 all rh' (rt_non (c := ct X))
      exact ⟨.ref p0, rfl, pp g3 H' _ s3 r3 (rt_pair (st.tp _ _ hp2))⟩
    | exc x ns vs h' =>
      rw [er] at pp
      simp only at pp
      intro g' H' C d us st rh' m e l rvs
      have all : Stp g H1 g' H' := st2.trans st
      by_cases cc : x ∈ xs ∧ ns = (["at", "word"] : List Str)
      · rw [if_pos cc] at pp
        obtain ⟨hx, rfl⟩ := cc
        split at pp
        · rename_i n y
          by_cases ey : y = x
          · rw [if_pos ey] at pp
            subst ey
            rw [RVs] at rvs
            obtain ⟨u1, r1, rfl, a1, rvs⟩ := rvs
            rw [RVs] at rvs
            obtain ⟨u2, r2, rfl, a2, rvs⟩ := rvs
            rw [RVs] at rvs
            subst rvs
            rw [RV] at a1
            rw [RV] at a2
            subst a1
            subst a2
            obtain ⟨i, C0, R⟩ := RX y hx
            have eC : C0 = C := by
              have z := R.m.symm.trans m
              cases z
              rfl
            subst eC
            refine ⟨true, by rw [← hZ]; exact R.ex, fun _ a ha => ?_, fun z => by cases z⟩
            refine ⟨C0, d, y, i, n, g', h', rfl, rfl, R, e.1, rh', e.2.1, e.2.2, rfl, rfl, fun g2 H3 σ' p7 st7 rh7 hp7 hl7 h17 => ?_⟩
            obtain ⟨g3, s3, r3, _⟩ := trim_ok rh1 (all.trans st7) rh7 (rt_non (c := ct X))
            refine ⟨.ref p7, ?_, pp g3 H3 _ s3 r3 (rt_pair hp7)⟩
            rw [List.getElem?_set_ne (by decide)]
            exact h17
          · rw [if_neg ey] at pp; exact pp.elim
        · exact pp.elim
      · rw [if_neg cc] at pp; exact pp.elim
  apply wpAny_call
  apply codeAny_mono run
  intro rr s2 hq2
  cases rr with
  | error e => exact hq2.elim
  | ok fl =>
    cases fl with
    | ret u => exact I1.after hq2
    | next => exact hq2.elim
    | brk => exact hq2.elim
    | cont => exact hq2.elim
end J
namespace J
open PySem L2
open PyProof.Rows (envOfC)
/-- what _law_refusal makes of a lambda, at the def g0 -/
def RefRun (X : Cx) (g0 : Addr) (xs : List Str) (kk : Nat) : Prop := ∀ (W : WX) (fb : EF) (k : Nat) (params : Arguments) (body : Expr) (scope : Scope), Room (k + 2) X.A → kk ≤ k → LamX.LamS X.env.scope scope →
  (∀ (q : Str) (cl : List (Str × Addr)) (pm cv ctv : Value), bindArgs (PySem.W.kla_fn "<lambda>" q params body scope cl pm cv ctv) ⟨[], []⟩ = pure []) →
  (∀ (A : Around) (outer : List Env) (s : Shared) (H : Hp) (E : XK) (f c' : Addr), Room k (A.deeper (LamX.lamEnv X scope s.heap.objs.size f c')) → PE (lamN X A outer s H E scope f c') body (tE (ct X) (Wc E) fb)) →
  ∀ (pins : List (Addr × Obj)) (s1 : Shared) (σ : St) (H1 : Hp) (Q : VK) (g : Gh) (ρ : VSt) (h0 : VH) (f c' : Addr) (pm2 ctv : Value), Inv X pins σ H1 s1 → s1.heap.get? f = some (PySem.W.kla_obj "<lambda>" (X.env.qual ++ "<lambda>") params body scope (cloFrom X.env.cells scope.names []) pm2 c' ctv) → H1 f = none → f ∉ frs X.stack → H1 c' = some (LamX.CodeO c' (X.env.qual ++ "<lambda>")) →
    RH (ct X) g h0 H1 → RS (ct X) g H1 ρ σ → Pst (ct X) W σ (RT (ct X)) g H1 Q (eRef xs fb ρ h0) → wpAny (model X.prog X.w) X.A (call (.ref g0) [.ref f]) (EP X pins σ Q) X.xe s1
structure OkR (P : Program) (w : World) (K : PySem.W.Frag) (mg : Str → Option Value) (base : Heap) (xs : List Str) (kk : Nat) : Prop where
  ex : ∃ g0, mg "_law_refusal" = some (.ref g0) ∧ PySem.W.keepIn K (.ref g0) = true ∧ ∀ X : Cx, X.prog = P → X.w = w → X.K = K → X.mg = mg → X.base = base → RefRun X g0 xs kk
section
variable {X : Cx} {W : WX} {xs : List Str} {fb : EF} {c P : Addr} {k kk : Nat} {params : Arguments} {body : Expr} {scope : Scope}
theorem tabs1 {g : Gh} {h : VH} {H : Hp} (rh : RH (ct X) g h H) (hTab : PySem.W.tabIn X.K lamFn = some (c, P)) (hq : X.env.qual ++ "<lambda>" = lamQ) : LamX.Tabs [(P, X.env.qual ++ "<lambda>")] H := fun q hq' => by
  have e : q = (P, X.env.qual ++ "<lambda>") := by simpa using hq'
  rw [e, hq]
  exact rh.tb c P hTab
theorem tabs2 {H : Hp} (T : LamX.Tabs [(P, X.env.qual ++ "<lambda>")] H) (hTab : PySem.W.tabIn X.K lamFn = some (c, P)) (hq : X.env.qual ++ "<lambda>" = lamQ) : LTab (ct X) H := fun c2 P2 e2 => by
  have e3 := hTab.symm.trans e2
  cases e3
  rw [← hq]
  exact T _ (List.mem_singleton.mpr rfl)
/-- _law_refusal(lambda: ..) -/
theorem j_ref {p lpos pos : Pos} (O : OkR X.prog X.w X.K X.mg X.base xs kk) (hg : Gl X "_law_refusal") (TB : LamX.TabB X.base X.mg c P) (hcode : X.env.code = .ref c) (hTab : PySem.W.tabIn X.K lamFn = some (c, P)) (hq : X.env.qual ++ "<lambda>" = lamQ) (hr : Room (k + 2) X.A) (hk : kk ≤ k) (L : LamX.LamS X.env.scope scope) (hdef : defaultsOf params X.env = ([], []))
    (hbind : ∀ (q : Str) (cl : List (Str × Addr)) (pm cv ctv : Value), bindArgs (PySem.W.kla_fn "<lambda>" q params body scope cl pm cv ctv) ⟨[], []⟩ = pure [])
    (hbody : ∀ (A : Around) (outer : List Env) (s : Shared) (H : Hp) (E : XK) (f c' : Addr), Room k (A.deeper (LamX.lamEnv X scope s.heap.objs.size f c')) → PE (lamN X A outer s H E scope f c') body (tE (ct X) (Wc E) fb)) :
    PE X (.Call (.Name "_law_refusal" p) [.Lambda params body scope lpos] [] pos) (tE (ct X) W (eRef xs fb)) := by
  obtain ⟨g0, hm, kp, run⟩ := O.ex
  refine ⟨fun pins s σ H Q I ⟨g, ρ, h0, rh, rs, pp⟩ => ?_⟩
  refine wpAny_Call_Name_kw (ld_glob I hg hm ?_ (by decide))
  refine PySem.W.callWith_K (h₀ := X.base) I.ok.mod.kin kp ?_ (by rfl) (by rfl)
  show wpAny _ _ (spliced ((false, eval (.Lambda params body scope lpos) X.env) :: backTo pos (starEach [] X.env))) _ _ s
  apply Calls.spliced_cons
  refine LamX.lam_make2 I TB hcode (List.mem_singleton.mpr rfl) (fun q hq' _ => by rw [List.mem_singleton.mp hq']) (tabs1 rh hTab hq) hdef (L.has I.ok) fun f c' pm2 ctv H1 s1 I1 eN T1 hf hfn hfr hco => ?_
  apply Calls.spliced_nil
  refine ⟨I1.kIn, ?_⟩
  obtain ⟨st1, rh1⟩ := ext_ok rh eN (tabs2 T1 hTab hq)
  exact run X rfl rfl rfl rfl rfl W fb k params body scope hr hk L hbind hbody pins s1 σ H1 Q g ρ h0 f c' pm2 ctv I1 hf hfn hfr hco rh1 (rs.stp st1) (Pst.step st1 pp)
end
end J
namespace J
open PySem L2
open PyProof.Rows (envOfC)
section
variable {P : Program} {w : World} {K : PySem.W.Frag} {mg : Str → Option Value} {base : Heap}
theorem fn_okC {x qual : Str} {params : Arguments} {body : List Stmt} {scope : Scope} {f : Addr} {N ps : List Str} {k n : Nat} {B : SF} {oc dV kV doc pm cdv ctv : Value} {od an : Option Addr} {osl : Array (Option Value)} (lk : K.lookup f = some ⟨oc, od, .func (PySem.W.fnOf x qual params body scope dV kV doc pm an cdv ctv), osl⟩) (hcd : PySem.W.codeIn K cdv qual = true)
    (S : FnScope N ps scope) (hn : n = N.length) (hp : ps.length ≤ n)
    (hbody : ∀ (A : Around) (outer : List Env) (s : Shared) (H : Hp) (E : XK), Room k (A.deeper (envOfC qual scope s.heap.objs.size f cdv)) → PSs (cxOf (L2N.CX P w) P w K mg base N qual scope f cdv A outer s H E) body (tS ⟨K, mg⟩ (fun a d _ H' => E a d H') B)) :
    FnOk P w K mg base (L2N.CX P w) (k + 1) f (PySem.W.fnOf x qual params body scope dV kV doc pm an cdv ctv) ps (spF ⟨K, mg⟩ ps.length (fnF n B)) := by
  refine fn_of lk hcd S (fun vs H Q E h => ?_) (fun A outer s H vs Q E hr h => ?_)
  · obtain ⟨g, ws, hh, rh, rt, l, _⟩ := h
    rw [← rt.len]; exact l
  · refine ⟨_, hbody A outer s H E hr, ?_⟩
    obtain ⟨g, ws, hh, rh, rt, l, p⟩ := h
    have rs := rt.start n
    refine ⟨g, ws.map some ++ List.replicate (n - ws.length) none, hh, rh, ?_, ?_⟩
    · rw [hn] at rs ⊢; exact rs
    · unfold fnF at p
      generalize B (ws.map some ++ List.replicate (n - ws.length) none) hh = r at p ⊢
      cases r with
      | no => exact p
      | brk => exact p.elim
      | cnt => exact p.elim
      | nx ρ h' =>
        intro g' H' σ' st rh' rs'
        obtain ⟨g2, s2, rh2, rv2⟩ := trim_ok rh st rh' (rt_non (c := ⟨K, mg⟩))
        exact p g2 H' .non s2 rh2 rv2
      | ret v h' =>
        intro g' H' u st rh' rv
        obtain ⟨g2, s2, rh2, rv2⟩ := trim_ok rh st rh' rv
        exact p g2 H' u s2 rh2 rv2
      | exc x ns vs ρ h' => exact fun g' H' σ' C d us st rh' rs' m e l rv => p g' H' C d us st rh' m e l rv
/-- the def that makes lambdas: its code object is known -/
theorem fn_okL {params : Arguments} {body : List Stmt} {scope : Scope} {dvs : List V} {kws : List (Str × V)} {f c T : Addr} {fd : FuncData} {N ps : List Str} {k n m : Nat} {B : SF} (F : FunD K lamFn lamFn params body scope dvs kws f fd) (hns : PySem.W.nsIn K mainGlobals lamFn = some (some (.ref f))) (hT : PySem.W.tabIn K lamFn = some (c, T))
    (S : FnScope N ps scope) (hn : n = N.length) (hp : ps.length ≤ n) (hm : m = ps.length)
    (hbody : ∀ (A : Around) (outer : List Env) (s : Shared) (H : Hp) (E : XK), Room k (A.deeper (envOfC lamFn scope s.heap.objs.size f (.ref c))) →
      PSs (cxOf (L2N.CX P w) P w K mg base N lamFn scope f (.ref c) A outer s H E) body (tS ⟨K, mg⟩ (fun a d _ H' => E a d H') B)) :
    FnOk P w K mg base (L2N.CX P w) (k + 1) f fd ps (spF ⟨K, mg⟩ m (fnF n B)) := by
  subst hm
  have ec : ∀ cdv A outer s H E, Room k (A.deeper (envOfC lamFn scope s.heap.objs.size f cdv)) → cdv = .ref c → PSs (cxOf (L2N.CX P w) P w K mg base N lamFn scope f cdv A outer s H E) body (tS ⟨K, mg⟩ (fun a d _ H' => E a d H') B) := by
    intro cdv A outer s H E hr e
    subst e
    exact hbody A outer s H E hr
  obtain ⟨oc, od, dV, kV, doc, pm, an, cdv, ctv, osl, efd, lk, hcd, h1, h2⟩ := F.ex
  have e : cdv = .ref c := by
    subst efd
    unfold PySem.W.tabIn at hT
    rw [hns] at hT
    simp only [lk] at hT
    split at hT
    · split at hT
      · split at hT
        · cases hT
          first | rfl | assumption
        · cases hT
      · cases hT
    · cases hT
  subst efd
  exact fn_okC lk hcd S hn hp fun A outer s H E hr => ec cdv A outer s H E hr e
end
/-- what is read of a refusal's class, checked at once -/
def refB (K : PySem.W.Frag) (WE : Addr) (x : Str) (i : Nat) (C : Addr) : Bool :=
  decide (i < 20) && (decide (kindNames.getD i "" = x) && (decide (PySem.W.findIn K (.ref C) "__getattribute__" = some (some (.builtin "BaseException.__getattribute__"))) && (decide (PySem.W.findIn K (.ref C) "__getattr__" = some none) && (decide (PySem.W.subIn K (.ref C) (.type "BaseException") = some true) && (PySem.W.hasDictIn K C && (decide (PySem.W.findIn K (.ref C) "__class__" = some (some (.builtin "object.__class__"))) &&
  (decide (PySem.W.specialIn K (.builtin "object.__class__") "__get__" = some (some (.builtin "getset_descriptor.__get__"))) && (decide (PySem.W.takesIn K (.builtin "object.__class__") = some true) && (decide (PySem.W.mroIn K C (.type "object") = some true) && (decide (PySem.W.findIn K (.ref C) "word" = some none) && (decide (PySem.W.findIn K (.ref C) "at" = some none) &&
  (decide (PySem.W.exmOne K (.ref C) (.ref WE) = some true) && (decide (PySem.W.kitOne K (.ref C) (.type "ValueError") = some true) && (List.range 20).all fun j => match PySem.W.nsIn K mainGlobals (kindNames.getD j "") with
    | some (some (.ref D)) => decide (PySem.W.kitOne K (.ref C) (.ref D) = some (i == j))
    | _ => false)))))))))))))
theorem refB_ok {K : PySem.W.Frag} {mg : Str → Option Value} {h : Heap} {WE C : Addr} {x : Str} {i : Nat} (X : K.In h) (G : h.Ns mainGlobals mg) (m : mg x = some (.ref C)) (b : refB K WE x i C = true) : RefC K mg WE x i C := by
  unfold refB at b
  obtain ⟨b1, b⟩ := Bool.and_eq_true_iff.mp b
  obtain ⟨b2, b⟩ := Bool.and_eq_true_iff.mp b
  obtain ⟨b3, b⟩ := Bool.and_eq_true_iff.mp b
  obtain ⟨b4, b⟩ := Bool.and_eq_true_iff.mp b
  obtain ⟨b5, b⟩ := Bool.and_eq_true_iff.mp b
  obtain ⟨b6, b⟩ := Bool.and_eq_true_iff.mp b
  obtain ⟨b7, b⟩ := Bool.and_eq_true_iff.mp b
  obtain ⟨b8, b⟩ := Bool.and_eq_true_iff.mp b
  obtain ⟨b9, b⟩ := Bool.and_eq_true_iff.mp b
  obtain ⟨b10, b⟩ := Bool.and_eq_true_iff.mp b
  obtain ⟨b11, b⟩ := Bool.and_eq_true_iff.mp b
  obtain ⟨b12, b⟩ := Bool.and_eq_true_iff.mp b
  obtain ⟨b13, b⟩ := Bool.and_eq_true_iff.mp b
  obtain ⟨b14, b⟩ := Bool.and_eq_true_iff.mp b
  refine ⟨m, of_decide_eq_true b1, of_decide_eq_true b2, ⟨of_decide_eq_true b3, of_decide_eq_true b4, of_decide_eq_true b5, b6, of_decide_eq_true b7, of_decide_eq_true b8, of_decide_eq_true b9, of_decide_eq_true b10⟩, ⟨of_decide_eq_true b3, of_decide_eq_true b4, of_decide_eq_true b5, b6⟩, of_decide_eq_true b11, of_decide_eq_true b12, of_decide_eq_true b13, of_decide_eq_true b14, fun j hj => ?_⟩
  have q := List.all_eq_true.mp b j (List.mem_range.mpr hj)
  split at q
  · rename_i D e
    exact ⟨D, PySem.W.mg_of X G e, of_decide_eq_true q⟩
  · cases q
theorem okX_mk {P : Program} {w : World} {K : PySem.W.Frag} {mg : Str → Option Value} {base : Heap} {k : Nat} {x q : Str} {st : Stmt} {C f : Addr} {fd : FuncData} (D : Dm K "__init__" q st [.int (-1)] [] f fd) (hF : FnOk P w K mg base (L2N.CX P w) k f fd ["self", "at"] (spOX K x)) (m : mg x = some (.ref C)) (xc : XcK K C)
    (iC : PySem.W.findIn K (.ref C) "__init__" = some (some (.ref f))) (tI : PySem.W.typeIn K (.ref f) = some (.type "function"))
    (h1 : ∀ (T : Addr) (kV doc pm : Value) (an : Option Addr) (cdv ct : Value) (us its : List Value), us.length = 1 → its.length = 1 →
      ∃ k, bindArgs (PySem.W.fnOf "__init__" q (defArgs st) (defBody st) (defScope st) (.ref T) kV doc pm an cdv ct) ⟨us, []⟩ = seqItems? (.ref T) >>= k ∧ k (some its.toArray) = pure ((["self", "at"] : List Str).zip (us ++ its.drop 0)))
    (h2 : ∀ (T : Addr) (kV doc pm : Value) (an : Option Addr) (cdv ct : Value) (us its : List Value), us.length = 2 → its.length = 1 →
      ∃ k, bindArgs (PySem.W.fnOf "__init__" q (defArgs st) (defBody st) (defScope st) (.ref T) kV doc pm an cdv ct) ⟨us, []⟩ = seqItems? (.ref T) >>= k ∧ k (some its.toArray) = pure ((["self", "at"] : List Str).zip (us ++ its.drop 1))) : OkX P w K mg base k x := by
  obtain ⟨ds, v1, b1⟩ := D.F.binds1 (ps := ["self", "at"]) 1 0 (by simp) rfl h1
  obtain ⟨ds2, v2, b2⟩ := D.F.binds1 (ps := ["self", "at"]) 2 1 (by simp) rfl h2
  cases v2
  exact ⟨C, f, fd, ds, m, xc, iC, tI, hF, b2, b1, v1⟩
end J
namespace J
open PySem L2
open PyProof.Rows (envOfC)
/-! x = [a]; x.append(b): a list of two, as data -/
def sSetApp (i : Nat) (fa fb : EF) : SF := fun ρ h => (fa ρ h).st ρ fun v h1 => (fb (ρ.set i none) h1).st (ρ.set i none) fun w h2 => if (v.isObj || w.isObj) = true then .no else .nx (ρ.set i (some (.lst [v, w]))) h2
end J
namespace J
open PySem L2
variable {ρ : VSt} {h h' : VH}
theorem s_setApp {i fa fb} : sSetApp i fa fb ρ h = sbd (fa ρ h) ρ (fun v h1 => sbd (fb (ρ.set i none) h1) (ρ.set i none) (fun w h2 => if (v.isObj || w.isObj) = true then .no else .nx (ρ.set i (some (.lst [v, w]))) h2) (tg _)) (tg _) := nr rfl
theorem s_raise0 {x} : sRaise0 x ρ h = .exc x ["at", "word"] [.int (-1), .str x] ρ h := nr rfl
theorem trim_id {v : VV} : trim h.length v h = h := by unfold trim; rw [if_pos rfl]
theorem ref_exc {xs : List Str} {fb : EF} {x : Str} {n : Int} (e : fb ρ h = .exc x ["at", "word"] [.int n, .str x] h') (hx : x ∈ xs) : eRef xs fb ρ h = .ok (.tup [.str x, .int n]) (trim h.length .non h') := by
  unfold eRef
  rw [e]
  simp only
  simp [hx]
theorem ref_ok {xs : List Str} {fb : EF} {v : VV} (e : fb ρ h = .ok v h') : eRef xs fb ρ h = .ok (.tup [.str "let", .int (-1)]) (trim h.length .non h') := by
  unfold eRef
  rw [e]
end J
namespace J
open PySem L2
open PyProof.Rows (envOfC)
/-! == and != of instances, by the class's own __eq__ -/
section
variable {X : Cx} {W : WX} {k : Nat} {cn : Str} {Fm : FF}
def ownR (ne : Bool) (cn : Str) (F : FF) (v w : VV) (h2 : VH) : Res VV := match insOf h2 v, insOf h2 w with
  | some a, some b => if a.1 = cn ∧ b.1 = cn then (noX (F [v, w] h2)).bind fun r h3 => (match r with
    | .bl r => .ok (.bl (if ne = true then !r else r)) h3
    | _ => .no) else .no
  | _, _ => .no
def eOwn (ne : Bool) (cn : Str) (F : FF) (fa fb : EF) : EF := fun ρ h => (fa ρ h).bind fun v h1 => (fb ρ h1).bind fun w h2 => ownR ne cn F v w h2
end
end J
namespace J
open PySem PySem.Spec L2 PyProof.Rows
section
variable {P : Program} {w : World} {A : Around} {E : Value → Shared → Prop} {s : Shared} {a : Addr} {o : Obj} {es : Array (Int × Value)} {ep : Nat} {t : SetTable}
/-! set(xs) - set(ys) == set(): ints -/
theorem SetR.typeIs {S : Int → Bool} {n : Nat} (R : SetR w s.heap a S n) : s.TypeIs (.ref a) "set" := by
  obtain ⟨o, es, ep, t, ho, hex, r⟩ := R
  exact ⟨o, ho, hex.1⟩
end
end J
namespace J
open PySem PySem.Spec L2 PyProof.Rows
end J
namespace J
open PySem L2
/-! len(x) by the class's own __len__; isinstance(x, own class) -/
def lenR (cn : Str) (F : FF) (v : VV) (h1 : VH) : Res VV := match insOf h1 v with
  | some a => if a.1 = cn then (noX (F [v] h1)).bind fun r h2 => (match r with
    | .int n => if 0 ≤ n ∧ n < 1000000 then .ok (.int n) h2 else .no
    | _ => .no) else .no
  | none => .no
def eLenOwn (cn : Str) (F : FF) (fa : EF) : EF := fun ρ h => (fa ρ h).bind fun v h1 => lenR cn F v h1
/-- is a thing of this kind one of C? -/
def isiK (h : VH) (cn : Str) (cs : List Str) (v : VV) : Option Bool := match insOf h v with
  | some a => if a.1 = cn then some true else if a.1 ∈ cs then some false else none
  | none => match v with
    | .non => some false
    | .int _ => some false
    | .str _ => some false
    | .tup _ => some false
    | .lst _ => some false
    | .dK _ _ => some false
    | _ => none
def eIsiC (cn : Str) (cs : List Str) (fa : EF) : EF := fun ρ h => (fa ρ h).bind fun v h1 => lift ((isiK h1 cn cs v).map .bl) h1
end J
namespace J
open PySem L2
/-! == and != of dicts with ints as values -/
section
variable {X : Cx} {W : WX}
/-! for k, v in d.items() -/
def iItemsK (f : EF) : AF := fun ρ h => (f ρ h).bind fun v h1 => match v with
  | .dK ks vs => .ok ((ks.zip vs).map fun p => .tup [keyB p.1, p.2]) h1
  | _ => .no
end
end J
namespace J
open PySem L2
/-- what isinstance asks of a class, checked at once -/
def isB (K : PySem.W.Frag) (C : Addr) : Bool :=
  decide (PySem.W.findIn K (.ref C) "__class__" = some (some (.builtin "object.__class__"))) && (decide (PySem.W.specialIn K (.builtin "object.__class__") "__get__" = some (some (.builtin "getset_descriptor.__get__"))) && (decide (PySem.W.takesIn K (.builtin "object.__class__") = some true) && (decide (PySem.W.mroIn K C (.type "object") = some true) &&
  (decide (PySem.W.kitOne K (.ref C) (.ref C) = some true) && (["NoneType", "int", "str", "tuple", "list", "dict"] : List String).all fun n => decide (PySem.W.kitOne K (.type n) (.ref C) = some false)))))
/-! list(range(n)), as data -/
def eListRng (f : EF) : EF := fun ρ h => (f ρ h).bind fun v h1 => match v with
  | .int n => if 0 ≤ n ∧ n ≤ SZ then .ok (.lst (rngV 0 n.toNat)) h1 else .no
  | _ => .no
end J
namespace J
open PySem L2
variable {ρ : VSt} {h h' : VH}
theorem a_own {ne c F fa fb} : eOwn ne c F fa fb ρ h = bnd (fa ρ h) (fun v h1 => bnd (fb ρ h1) (fun w h2 => ownR ne c F v w h2) (tg _)) (tg _) := nr rfl
theorem a_lenOwn {c F fa} : eLenOwn c F fa ρ h = bnd (fa ρ h) (fun v h1 => lenR c F v h1) (tg _) := nr rfl
theorem a_isiC {c cs fa} : eIsiC c cs fa ρ h = bnd (fa ρ h) (fun v h1 => lift ((isiK h1 c cs v).map .bl) h1) (tg _) := nr rfl
theorem a_items {fa} : iItemsK fa ρ h = bnd (fa ρ h) (fun v h1 => match v with
  | .dK ks vs => .ok ((ks.zip vs).map fun p => VV.tup [keyB p.1, p.2]) h1
  | _ => .no) (tg _) := nr rfl
theorem a_methX {cn m n F dws fo fa} : eMethX cn m n F dws fo fa ρ h = bnd (fo ρ h) (fun v h1 => methC cn m (insOf h1 v) (bnd (fa ρ h1) (fun vs h2 => if (v :: (vs ++ dws)).length = n then F (v :: (vs ++ dws)) h2 else .no) (tg _))) (tg _) := by
  unfold eMethX
  show Res.bind _ _ = Res.bind _ _
  congr 1
theorem a_makeX {cn n F dws fa} : eMakeX cn n F dws fa ρ h = bnd (fa ρ h) (fun vs h1 => if (VV.obj h1.length :: (vs ++ dws)).length = n then mkX h1.length (F (.obj h1.length :: (vs ++ dws)) (h1 ++ [.ins cn [] []])) else .no) (tg _) := nr rfl
theorem fin_exc {x ns vs} {n : Nat} : (SR.exc x ns vs ρ h).fin n = .exc x ns vs h := nr rfl
/-- made or refused -/
theorem a_ref_ok {xs : List Str} {fb : EF} {v : VV} (e : fb ρ h = .ok v h) : eRef xs fb ρ h = .ok (.tup [.str "let", .int (-1)]) h := by
  rw [ref_ok e, trim_id]
theorem a_ref_exc {xs : List Str} {fb : EF} {x : Str} {n : Int} (e : fb ρ h = .exc x ["at", "word"] [.int n, .str x] h) (hx : x ∈ xs) : eRef xs fb ρ h = .ok (.tup [.str x, .int n]) h := by
  rw [ref_exc e hx, trim_id]
def lrD (v : VV) (h1 : VH) : Res VV := match v with
  | .int n => if 0 ≤ n ∧ n ≤ SZ then .ok (.lst (rngV 0 n.toNat)) h1 else .no
  | _ => .no
theorem a_listRng {f} : eListRng f ρ h = bnd (f ρ h) lrD (tg _) := nr rfl
theorem lrD_int {n : Int} : lrD (.int n) h = if 0 ≤ n ∧ n ≤ SZ then .ok (.lst (rngV 0 n.toNat)) h else .no := nr rfl
end J
namespace J
open PySem L2
/-! the head: one run in the kernel, what is leant on told by names -/
def obsL (as : List Addr) (fa : List He.Fa) (fn : List He.DefD) (ex : PySem.W.Frag → Bool) (g : Addr → Option Obj) : He.AlD × Bool := (He.obsD fa fn (He.frT g as), ex (He.frT g as))
/-- what is told of the written part -/
def SaysL (fa : List He.Fa) (fn : List He.DefD) (ex : PySem.W.Frag → Bool) (h : Heap) (K : PySem.W.Frag) : Prop := K.In h ∧ He.SaysD fa fn K ∧ ex K = true
def hookL (as : List Addr) (fa : List He.Fa) (fn : List He.DefD) (ex : PySem.W.Frag → Bool) : PySem.W.Hook where
  α := He.AlD × Bool
  obs s := obsL as fa fn ex s.heap.get?
  val _ := (He.valD fn, true)
  says _ h := ∃ K : PySem.W.Frag, SaysL fa fn ex h K
  of _ _ e := ⟨_, He.frT_in, congrArg (fun z : He.AlD × Bool => z.1) e, congrArg (fun z : He.AlD × Bool => z.2) e⟩
  keeps _ _ _ := fun ⟨K, a, b⟩ k => ⟨K, PySem.W.Frag.In.keeps a k, b⟩
theorem obsL_eq {as : List Addr} {fa : List He.Fa} {fn : List He.DefD} {ex : PySem.W.Frag → Bool} (s : PySem.W.SharedT) : obsL as fa fn ex (HandSHeadRun.getT s) = (hookL as fa fn ex).obs s.abs := by
  show obsL as fa fn ex (HandSHeadRun.getT s) = obsL as fa fn ex s.abs.heap.get?
  rw [show HandSHeadRun.getT s = s.abs.heap.get? from funext (HandSHeadRun.getT_eq s)]
section
variable {fa : List He.Fa} {fn : List He.DefD} {ex : PySem.W.Frag → Bool} {h : Heap} {K : PySem.W.Frag} {mg : Str → Option Value}
theorem SaysL.f (c : SaysL fa fn ex h K) {f : He.Fa} (i : Nat) (e : fa[i]? = some f) : f.ok K = true := c.2.1.fact i e
theorem SaysL.d (c : SaysL fa fn ex h K) {d : He.DefD} (i : Nat) (e : fn[i]? = some d) : ∃ fd, FunD K d.name d.qual d.params d.body d.scope (d.dvs K) (d.kws K) (He.fAd K d.at_) fd := c.2.1.def_ i e
/-- a global's def -/
theorem SaysL.dm (c : SaysL fa fn ex h K) {x : Str} {st : Stmt} {df : List He.Dv} {kw : List (Str × He.Dv)} (i : Nat) (e : fn[i]? = some ⟨(x, none), x, x, defArgs st, defBody st, defScope st, df, kw⟩) : ∃ fd, Dm K x x st (df.map (He.Dv.v K)) (kw.map fun q => (q.1, q.2.v K)) (He.ga K x) fd := by
  obtain ⟨fd, F⟩ := c.d i e
  exact ⟨fd, ⟨F⟩⟩
/-- a method -/
theorem SaysL.mm (c : SaysL fa fn ex h K) {x m q : Str} {st : Stmt} {df : List He.Dv} {kw : List (Str × He.Dv)} (i : Nat) (e : fn[i]? = some ⟨(x, some m), m, q, defArgs st, defBody st, defScope st, df, kw⟩) : ∃ fd, Dm K m q st (df.map (He.Dv.v K)) (kw.map fun q => (q.1, q.2.v K)) (He.ma K (He.ga K x) m) fd := by
  obtain ⟨fd, F⟩ := c.d i e
  exact ⟨fd, ⟨F⟩⟩
theorem SaysL.glo (c : SaysL fa fn ex h K) (G : h.Ns mainGlobals mg) {x : Str} (i : Nat) (e : fa[i]? = some (.glo x)) : mg x = some (.ref (He.ga K x)) := He.glo_ok c.1 G (c.f i e)
theorem SaysL.free (c : SaysL fa fn ex h K) (G : h.Ns mainGlobals mg) {x : Str} (i : Nat) (e : fa[i]? = some (.free x)) : mg x = none := He.free_ok c.1 G (c.f i e)
theorem SaysL.int (c : SaysL fa fn ex h K) (G : h.Ns mainGlobals mg) {x : Str} {z : Int} (i : Nat) (e : fa[i]? = some (.int x z)) : ∃ t, mg x = some (.int z t) := He.int_ok c.1 G (c.f i e)
theorem SaysL.str (c : SaysL fa fn ex h K) (G : h.Ns mainGlobals mg) {x z : Str} (i : Nat) (e : fa[i]? = some (.str x z)) : ∃ t, mg x = some (.str z t) := He.str_ok c.1 G (c.f i e)
theorem SaysL.cls (c : SaysL fa fn ex h K) (G : h.Ns mainGlobals mg) {x : Str} (i j : Nat) (e : fa[i]? = some (.glo x)) (e2 : fa[j]? = some (.cls x)) : ClsT K mg x (He.ga K x) := ⟨c.glo G i e, He.cls_ok (c.f j e2)⟩
end
/-- what is read of an own exception's class, checked at once -/
def xcB (K : PySem.W.Frag) (C : Addr) : Bool :=
  (match K.lookup C with
  | some ⟨.type t, _, .cls cd, sl⟩ => (match cd.mro, sl.toList with
    | .ref D :: bm, [_, _, _, _, some (.builtin n), _] => decide (t = "type") && (decide (D = C) && (decide (n = "ValueError.__new__") && (cd.hasDict && (!cd.hasDel && PySem.HandSPX.refsVE bm))))
    | _, _ => false)
  | _ => false) && (decide (PySem.W.findIn K (.ref C) "__setattr__" = some (some (.builtin "object.__setattr__"))) && (decide (PySem.W.subIn K (.ref C) (.type "BaseException") = some true) && (decide (PySem.W.typeIn K (.ref C) = some (.type "type")) &&
    (PySem.W.keepIn K (.ref C) && (decide (PySem.W.findIn K (.ref C) "word" = some none) && decide (PySem.W.findIn K (.ref C) "at" = some none))))))
theorem xcB_ok {K : PySem.W.Frag} {C : Addr} (b : xcB K C = true) : XcK K C := by
  obtain ⟨b0, b⟩ := Bool.and_eq_true_iff.mp b
  obtain ⟨b1, b⟩ := Bool.and_eq_true_iff.mp b
  obtain ⟨b2, b⟩ := Bool.and_eq_true_iff.mp b
  obtain ⟨b3, b⟩ := Bool.and_eq_true_iff.mp b
  obtain ⟨b4, b⟩ := Bool.and_eq_true_iff.mp b
  obtain ⟨b5, b6⟩ := Bool.and_eq_true_iff.mp b
  refine ⟨⟨?_, of_decide_eq_true b1, of_decide_eq_true b2, of_decide_eq_true b3, b4⟩, of_decide_eq_true b5, of_decide_eq_true b6⟩
  split at b0
  · rename_i t dd cd sl ho
    split at b0
    · rename_i D bm k0 k1 k2 k3 n k5 hm hs
      obtain ⟨c1, c⟩ := Bool.and_eq_true_iff.mp b0
      obtain ⟨c2, c⟩ := Bool.and_eq_true_iff.mp c
      obtain ⟨c3, c⟩ := Bool.and_eq_true_iff.mp c
      obtain ⟨c4, c⟩ := Bool.and_eq_true_iff.mp c
      obtain ⟨c5, c6⟩ := Bool.and_eq_true_iff.mp c
      have c1 := of_decide_eq_true c1
      have c2 := of_decide_eq_true c2
      have c3 := of_decide_eq_true c3
      subst c1 c2 c3
      obtain ⟨nm, bs, mro, ns, qn, hd, sn, sub, ab, col, del⟩ := cd
      have hm : mro = _ := hm
      have c4 : hd = true := c4
      have d5 : del = false := by simpa using c5
      obtain ⟨sl⟩ := sl
      have hs : sl = _ := hs
      subst hm c4 d5 hs
      exact ⟨nm, qn, ns, bs, bm, sn, sub, ab, col, dd, k0, k1, k2, k3, k5, ho, c6⟩
    · cases b0
  · cases b0
/-- a refusal's class and its __init__ -/
def xrB (K : PySem.W.Frag) (WE : Addr) (x : Str) (i : Nat) : Bool :=
  xcB K (He.ga K x) && (refB K WE x i (He.ga K x) && (decide (PySem.W.findIn K (.ref (He.ga K x)) "__init__" = some (some (.ref (He.ma K (He.ga K x) "__init__")))) && decide (PySem.W.typeIn K (.ref (He.ma K (He.ga K x) "__init__")) = some (.type "function"))))
theorem xrB_ok {K : PySem.W.Frag} {WE : Addr} {x : Str} {i : Nat} (b : xrB K WE x i = true) : XcK K (He.ga K x) ∧ refB K WE x i (He.ga K x) = true ∧ PySem.W.findIn K (.ref (He.ga K x)) "__init__" = some (some (.ref (He.ma K (He.ga K x) "__init__"))) ∧ PySem.W.typeIn K (.ref (He.ma K (He.ga K x) "__init__")) = some (.type "function") := by
  obtain ⟨b0, b⟩ := Bool.and_eq_true_iff.mp b
  obtain ⟨b1, b⟩ := Bool.and_eq_true_iff.mp b
  obtain ⟨b2, b3⟩ := Bool.and_eq_true_iff.mp b
  exact ⟨xcB_ok b0, b1, of_decide_eq_true b2, of_decide_eq_true b3⟩
/-- the base of the refusals -/
def weB (K : PySem.W.Frag) : Bool := PySem.W.readsIn K (He.ga K "WebError") (.type "type") && (decide (PySem.W.specialIn K (.ref (He.ga K "WebError")) "__getattribute__" = some (some (.builtin "type.__getattribute__"))) &&
  (match PySem.W.findCls K (.ref (He.ga K "WebError")) (.type "type") "__init__" with
  | some (.val (.ref f)) => decide (f = He.ma K (He.ga K "WebError") "__init__")
  | _ => false))
theorem weB_ok {K : PySem.W.Frag} (b : weB K = true) : PySem.W.readsIn K (He.ga K "WebError") (.type "type") = true ∧ PySem.W.specialIn K (.ref (He.ga K "WebError")) "__getattribute__" = some (some (.builtin "type.__getattribute__")) ∧ PySem.W.findCls K (.ref (He.ga K "WebError")) (.type "type") "__init__" = some (.val (.ref (He.ma K (He.ga K "WebError") "__init__"))) := by
  obtain ⟨b0, b⟩ := Bool.and_eq_true_iff.mp b
  obtain ⟨b1, b2⟩ := Bool.and_eq_true_iff.mp b
  refine ⟨b0, of_decide_eq_true b1, ?_⟩
  split at b2
  · rename_i f e
    rw [e, of_decide_eq_true b2]
  · cases b2
/-- the law's code object and its empty table -/
def tabB (K : PySem.W.Frag) : Bool := match PySem.W.tabIn K lamFn with
  | some (_, T) => (K.lookup T).isNone
  | none => false
theorem tabB_ok {K : PySem.W.Frag} (b : tabB K = true) : ∃ c T, PySem.W.tabIn K lamFn = some (c, T) ∧ K.lookup T = none := by
  unfold tabB at b
  split at b
  · rename_i c T e
    exact ⟨c, T, e, by simpa using b⟩
  · cases b
theorem walk_L {l : PySem.W.OpenLaw} {n k : Nat} {q : Program} {loose : List Str} {XP : (Str → Option Value) → Heap → Prop} {d : DefRec} {x : Str} {Fm : FF} {fs : List He.Fa} {fn : List He.DefD} {ex : PySem.W.Frag → Bool}
    (hn : l.most = some n) (hn2 : n ≤ sizeLine) (hdf : d.params.defaults = []) (hr : Room k PySem.callerA) (hrec : ((PyProof.Rows.recsOf q).find? fun e => e.name == lamFn).isSome = true) (hd : d.name = "law")
    (F : ∀ (w : World) (mg : Str → Option Value) (fa : Addr) (h : Heap) (K : PySem.W.Frag), SaysL fs fn ex h K → h.Ns mainGlobals mg → mg "law" = some (.ref fa) →
      ∃ (fd : FuncData) (cc P : Addr), PySem.W.tabIn K lamFn = some (cc, P) ∧ K.lookup P = none ∧ (∀ (s : Shared) (u : Value), BindsTo s fd ⟨[u], []⟩ [(x, u)]) ∧
        ∀ base : Heap, K.In base → base.Ns mainGlobals mg → LamX.TabB base mg cc P → FnOk l.prog w K mg base (L2N.CX l.prog w) k fa fd [x] (spF ⟨K, mg⟩ 1 Fm))
    (hF : ∀ ns : List Int, ns.length ≤ n → (∀ z ∈ ns, Builtin.Int.intBits z ≤ 1048576) → ∃ h', Fm [.scr (ns.map VV.int)] [] = .ok (.bl true) h') {as : List Addr} :
    PySem.W.WalkO q loose XP (hookL as fs fn ex).says l.row.toRowW d [] (fun f vs => PySem.call f vs) := by
  refine Att.attach_callB hn hdf fun w s₀ s₁ mg mb fa o pm cd doc a vs ns G Y ho hd1 hcd hmg hobj hints hlen hbits hg => ?_
  rw [hd] at hmg
  obtain ⟨K, Y⟩ : ∃ K, SaysL fs fn ex _ K := Y
  obtain ⟨fd, cc, P, hT, nT, hb, hF'⟩ := F w mg fa _ K Y G.T.g hmg
  obtain ⟨dL, hL⟩ := Option.isSome_iff_exists.mp hrec
  obtain ⟨C, hP⟩ := PySem.W.tab_of G.T Y.1 hL hT
  have one : ∀ p ∈ [(cc, P)], p = (cc, P) := fun p hp => by simpa using hp
  exact LamX.law_callTs (cs := [(cc, P)]) Y.1 G.T.g G.T.b G.T.builtins G.T.nolimit hg (fun p hp => (one p hp) ▸ hP) (fun p hp => (one p hp) ▸ nT) (fun p hp => (one p hp) ▸ C) G.T.bmain hobj hints (Nat.le_trans hlen hn2) hr
    (fun base KB GB TB => hF' base KB GB (TB (cc, P) (List.mem_singleton_self _))) hb (fun H hH hS => law_sp (fun c2 P2 e2 => by
      have e3 := hT.symm.trans e2
      cases e3
      exact LamX.TabS.nil (hH (cc, P) (List.mem_singleton_self _))) hS (hF ns hlen hbits)) fun H e s' => cx_no
end J
namespace J
open PySem L2
/-! {k: v, l: w} with tuples as keys -/
end J
namespace J
open PySem L2
end J
namespace J
open PySem L2
/-! dict(d), a new root -/
def dcp (v : VV) (h1 : VH) : Res VV := match v with
  | .dK ks vs => .ok (.obj h1.length) (h1 ++ [.dK ks vs])
  | _ => .no
def eDictD (f : EF) : EF := fun ρ h => (f ρ h).bind dcp
/-! sorted(set(t)), t a tuple of ints -/
variable {ρ : VSt} {h h' : VH}
theorem a_dictD {f} : eDictD f ρ h = bnd (f ρ h) dcp (tg _) := nr rfl
theorem dcp_dK {ks vs} : dcp (.dK ks vs) h = .ok (.obj h.length) (h ++ [.dK ks vs]) := nr rfl
end J
namespace J
open PySem L2
open PyProof.Rows (envOfC)
/-! {k: v for t in xs}, xs data or a root that nothing in it changes -/
def seqP (v : VV) (h : VH) : Option (List VV) := match v with
  | .lst xs => some xs
  | .obj n => match h[n]? with
    | some (.fl xs) => some xs
    | _ => none
  | _ => none
def eDcP (own : List Nat) (fo : EF) (b : VV → VSt → Option VSt) (fk fv : EF) : EF := fun ρ h => (fo ρ h).bind fun v h1 => match seqP v h1 with
  | none => .no
  | some xs => if xs.length > SZ then .no else match dcGo b fk fv (wp ρ own) xs h1 ([], []) with
    | .ok a h2 => .ok (.dK a.1 a.2) h2
    | _ => .no
section
variable {X : Cx} {W : WX}
/-! xs[::-1] -/
def eRev (f : EF) : EF := fun ρ h => (f ρ h).bind fun v h1 => match lstOf h1 v with
  | some xs => .ok (.lst xs.reverse) h1
  | none => .no
/-! x.clear() of a root -/
def eClr (o : EF) : EF := fun ρ h => (o ρ h).bind fun ov h1 => match ov with
  | .obj n => (match h1[n]? with
    | some (.fl _) => .ok .non (h1.set n (.fl []))
    | _ => .no)
  | _ => .no
/-! root != data -/
/-! dict(xs), xs a list of pairs with unlike keys -/
/-! == of an instance and a dict, by the class's own __eq__ -/
variable {k : Nat} {cn : Str} {Fm : FF}
def ownD (cn : Str) (F : FF) (v w : VV) (h2 : VH) : Res VV := match insOf h2 v, w with
  | some a, .dK ks vs => if a.1 = cn then (noX (F [v, .dK ks vs] h2)).bind fun r h3 => (match r with
    | .bl r => .ok (.bl r) h3
    | _ => .no) else .no
  | _, _ => .no
def eOwnD (cn : Str) (F : FF) (fa fb : EF) : EF := fun ρ h => (fa ρ h).bind fun v h1 => (fb ρ h1).bind fun w h2 => ownD cn F v w h2
end
end J
namespace J
open PySem L2 M
/-! evaluation of what J56 added -/
section
variable {ρ : VSt} {h : VH}
def dcS (o : Option (List VV)) (k : List VV → Res VV) : Res VV := match o with
  | none => .no
  | some xs => k xs
theorem dcS_some {xs : List VV} {k : List VV → Res VV} : dcS (some xs) k = k xs := nr rfl
theorem a_dcP {own fo b fk fv} : eDcP own fo b fk fv ρ h = bnd (fo ρ h) (fun v h1 => dcS (seqP v h1) fun xs => if xs.length > SZ then .no else afterK (dcGo b fk fv (wp ρ own) xs h1 ([], []))) (tg _) := nr rfl
theorem seqP_lst {xs : List VV} : seqP (.lst xs) h = some xs := nr rfl
def revR (o : Option (List VV)) (h1 : VH) : Res VV := match o with
  | some xs => .ok (.lst xs.reverse) h1
  | none => .no
theorem a_rev {f} : eRev f ρ h = bnd (f ρ h) (fun v h1 => revR (lstOf h1 v) h1) (tg _) := nr rfl
theorem revR_lst {xs : List VV} {h2 : VH} : revR (lstOf h2 (.lst xs)) h = .ok (.lst xs.reverse) h := nr rfl
def clrO (o : Option VO) (n : Nat) (h1 : VH) : Res VV := match o with
  | some (.fl _) => .ok .non (h1.set n (.fl []))
  | _ => .no
def clrR (v : VV) (h1 : VH) : Res VV := match v with
  | .obj n => clrO h1[n]? n h1
  | _ => .no
theorem a_clr {f} : eClr f ρ h = bnd (f ρ h) clrR (tg _) := by
  unfold eClr
  cases f ρ h with
  | no => rfl
  | exc => rfl
  | ok ov h1 =>
    cases ov <;> rfl
theorem clrR_obj {n : Nat} : clrR (.obj n) h = clrO h[n]? n h := nr rfl
theorem clrO_fl {xs : List VV} {n : Nat} : clrO (some (.fl xs)) n h = .ok .non (h.set n (.fl [])) := nr rfl
theorem a_ownD {cn F fa fb} : eOwnD cn F fa fb ρ h = bnd (fa ρ h) (fun v h1 => bnd (fb ρ h1) (fun w h2 => ownD cn F v w h2) (tg _)) (tg _) := nr rfl
end
end J
namespace J
open PySem L2
open PyProof.Rows (envOfC)
/-! for v in d.values(), d's keys tuples -/
/-! the same over the small heap -/
section
variable {X : Cx} {W : WX}
def iValsD (f : EF) : AF := fun ρ h => (f ρ h).bind fun v h1 => match v with
  | .dT ks vs => .ok vs h1
  | _ => .no
end
end J
namespace J
open PySem L2
/-! the roots that one turn of a loop made are forgotten at its end -/
end J
namespace J
open PySem L2
open PyProof.Rows (envOfC)
/-! dict(zip(t, xs)), t a tuple: the pairs are held, so zip makes each anew -/
end J
namespace J
open PySem L2
/-! dict(zip(t, xs)), t a tuple, the keys unlike -/
def dzMT (vs : List VV) : Option VV := match vs with
  | [.tup xs, .lst ys] => (keysA xs).bind fun ks => if ks.Nodup ∧ ks.length = ys.length ∧ ks.length ≤ 1000 then some (.dK ks ys) else none
  | _ => none
def eDictZipT (a : AF) : EF := fun ρ h => (a ρ h).bind fun vs h1 => lift (dzMT vs) h1
end J
namespace J
open PySem L2 M
/-! evaluation of what J57 added -/
section
variable {ρ : VSt} {h : VH}
def valsD (v : VV) (h1 : VH) : Res (List VV) := match v with
  | .dT _ vs => .ok vs h1
  | _ => .no
theorem a_valsD {f} : iValsD f ρ h = bnd (f ρ h) valsD (tg _) := nr rfl
theorem a_dictZipT {a : AF} : eDictZipT a ρ h = bnd (a ρ h) (fun vs h1 => lift (dzMT vs) h1) (tg _) := nr rfl
theorem valsD_dT {ks vs} : valsD (.dT ks vs) h = .ok vs h := nr rfl
end
end J
namespace J
open PySem L2
open PyProof.Rows (IntsAre)
/-! max(list of ints, default=int) -/
def maxZ : List Int → Int → Int
  | [], d => d
  | x :: xs, _ => xs.foldl max x
theorem foldl_maxZ : ∀ (xs : List Int) (a : Int), a ≤ xs.foldl max a ∧ (∀ y ∈ xs, y ≤ xs.foldl max a) ∧ (xs.foldl max a = a ∨ xs.foldl max a ∈ xs)
  | [], a => ⟨Int.le_refl _, fun y hy => (nomatch hy), .inl rfl⟩
  | x :: xs, a => by
    obtain ⟨h1, h2, h3⟩ := foldl_maxZ xs (max a x)
    refine ⟨Int.le_trans (Int.le_max_left a x) h1, fun y hy => ?_, ?_⟩
    · rcases List.mem_cons.mp hy with rfl | hy
      · exact Int.le_trans (Int.le_max_right a y) h1
      · exact h2 y hy
    · rcases h3 with h3 | h3
      · rw [List.foldl_cons, h3]
        rcases Int.le_total a x with c | c
        · right; rw [Int.max_eq_right c]; exact List.mem_cons_self
        · left; exact Int.max_eq_left c
      · exact .inr (List.mem_cons_of_mem _ h3)
theorem maxZ_eq {ns : List Int} {m : Int} (d : Int) (hm : m ∈ ns) (h : ∀ a, a ∈ ns → a ≤ m) : maxZ ns d = m := by
  cases ns with
  | nil => cases hm
  | cons x xs =>
    obtain ⟨h1, h2, h3⟩ := foldl_maxZ xs x
    refine Int.le_antisymm ?_ ?_
    · rcases h3 with h3 | h3
      · show xs.foldl max x ≤ m
        rw [h3]; exact h x List.mem_cons_self
      · exact h _ (List.mem_cons_of_mem _ h3)
    · rcases List.mem_cons.mp hm with e | hm
      · rw [e]; exact h1
      · exact h2 m hm
section
variable {prog : Program} {w : World} {A : Around} {E : Value → Shared → Prop} {s : Shared} {l : Addr} {its : List Value} {ns : List Int}
theorem max_rawD (hh : A.handled = none) (hl : s.heap.IsList l its.toArray) (hi : IntsAre its ns) {d : Value} {Q : Value → Shared → Prop}
    (h0 : ns = [] → ∀ h' tk, (∀ b o, s.heap.get? b = some o → h'.get? b = some o) → Q d { s with heap := h', toks := tk })
    (h : ∀ h' tk M t', (∀ b o, s.heap.get? b = some o → h'.get? b = some o) → M ∈ ns → (∀ a, a ∈ ns → a ≤ M) → Q (.int M t') { s with heap := h', toks := tk }) : wpAny (model prog w) A (call (.builtin "max") [.ref l] [(Str.ofString "default", d)]) Q E s := by
  obtain ⟨xs, e⟩ := hi.allInts.items
  have hn : numsOf (intItems xs).toList = ns := by rw [← e]; exact hi.numsOf
  rw [nums_intItems] at hn
  subst hn
  rw [e] at hl
  refine call_max_walkD (PySem.W.iter_listW (A := A.in1) hh hl fun s₂ e W st hfp hw hk => ?_)
  refine ⟨_, _, _, _, _, _, _, s.heap, (fun i j => decide (numAt xs i > numAt xs j)), rfl, W, st, hfp, hw, hk, fun hz s' m => ?_, fun hp => ⟨fun i j vi vj s' Q' E' _ hvi hvj hq => CmpOf.ints_gt (numAt xs) (fun _ _ => intItems_at) i j vi vj s' Q' E' hvi hvj hq, fun v s' hP m => ?_⟩⟩
  · obtain ⟨h', tk, rfl, hk'⟩ := PySem.W.moved_old e rfl m
    have hz' : xs.size = 0 := by simpa [intItems] using hz
    exact h0 (by rw [Array.size_eq_zero_iff.mp hz']; rfl) h' tk hk'
  · obtain ⟨h', tk, rfl, hk'⟩ := PySem.W.moved_old e rfl m
    have hsz : 0 < xs.size := by simpa [intItems] using hp
    have es : (intItems xs).size = xs.size := by simp [intItems]
    have hv : (intItems xs)[argBest (fun i j => decide (numAt xs i > numAt xs j)) (xs.size - 1)]? = some v := by rw [← es]; exact hP
    obtain ⟨t, rfl⟩ := intItems_at hv
    obtain ⟨h1, h2⟩ := argBest_gt (numAt xs) (xs.size - 1)
    refine h h' tk _ t hk' ?_ fun a ha => ?_
    · rw [numAt_eq]; exact PySem.getD_mem (by rw [List.length_map, Array.length_toList]; omega)
    · obtain ⟨j, hj, rfl⟩ := mem_getD ha
      rw [List.length_map, Array.length_toList] at hj
      rw [← numAt_eq]; exact h2 j (by omega)
end
def cMaxD (h : VH) (vs ws : List VV) : Option VV := match vs, ws with
  | [v], [.int d] => (lstOf h v).bind fun xs => (intsOf xs).map fun ns => .int (maxZ ns d)
  | _, _ => none
def eMaxD (a k : AF) : EF := fun ρ h => (a ρ h).bind fun vs h1 => (k ρ h1).bind fun ws h2 => lift (cMaxD h2 vs ws) h2
section
variable {X : Cx} {W : WX}
def rMaxD (K : PySem.W.Frag) : List V → List V → Hp → VK → Prop := fun vs zs H Q => ∃ (a : Addr) (ns : List Int) (d : Int), vs = [V.ref a] ∧ zs = [V.int d] ∧ SqL K H a (ns.map V.int) ∧ Q (.int (maxZ ns d)) H
theorem cr_maxD (hc : X.calm = true) : CallRK X (.builtin "max") ["default"] (rMaxD X.K) := by
  intro pins s σ H vs zs us ws Q I r rz h
  obtain ⟨a, ns, d, rfl, rfl, hs, q⟩ := h
  obtain ⟨its, rv, hl, _⟩ := I.list hs
  rw [Vals.ref1 r]
  cases rz with
  | cons rd rr =>
    cases rr
    obtain ⟨t, rfl⟩ := rd
    refine max_rawD (I.ok.hd hc) hl.isList rv.ints (fun e h' tk hk => ?_) fun h' tk m t' hk h1 h2 => ?_
    · subst e
      exact ⟨.int d, H, I.kept hk, ⟨_, rfl⟩, q⟩
    · rw [maxZ_eq d h1 h2] at q
      exact ⟨.int m, H, I.kept hk, ⟨_, rfl⟩, q⟩
theorem j_maxD {e o : Expr} {p kp pos : Pos} {fa fk : AF} (hc : X.calm = true) (hg : Gl X "max") (hm : X.mg "max" = none) (ha : PA X [e] (tA (ct X) W fa)) (hk : PK X [⟨some "default", o, kp⟩] (tA (ct X) W fk))
    (he : backTo pos (starEach [e] X.env) = (false, eval e X.env) :: backTo pos (starEach [] X.env) := by rfl) (hpl : (backTo pos (starEach [e] X.env)).any (·.1) = false := by rfl)
    (hall : (backToKw pos (keywordEach [⟨some "default", o, kp⟩] X.env)).all (·.1.isSome) = true := by rfl) (hnone : (backToKw pos (keywordEach [⟨some "default", o, kp⟩] X.env)).any (·.1.isNone) = false := by rfl) (hks : (backToKw pos (keywordEach [⟨some "default", o, kp⟩] X.env)).filterMap (·.1) = ([("default" : Str)]) := by rfl) :
    PE X (.Call (.Name "max" p) [e] [⟨some "default", o, kp⟩] pos) (tE (ct X) W (eMaxD fa fk)) := by
  refine PE.mono (pe_callBK (cr_maxD hc) hg hm PyProof.Rows.boot_max ha hk (by decide) (by decide) he hpl hall hnone hks) fun σ H Q h => ?_
  obtain ⟨g, ρ, h0, rh, rs, p⟩ := h
  unfold eMaxD at p
  refine ⟨g, ρ, h0, rh, rs, (Pst.bind (R := RTs (ct X)) p).imp fun u H1 ⟨g1, vs, h1, st, rh1, rts, p1⟩ => ?_⟩
  refine ⟨g1, ρ, h1, rh1, rs.stp st, (Pst.bind (R := RTs (ct X)) p1).imp fun u2 H2 ⟨g2, ws, h2, st2, rh2, rts2, p2⟩ => ?_⟩
  cases ez : cMaxD h2 vs ws with
  | none => rw [ez] at p2; exact p2.elim
  | some r =>
    rw [ez] at p2
    unfold cMaxD at ez
    split at ez
    · obtain ⟨ys, e1, e2⟩ := Option.bind_eq_some_iff.mp ez
      obtain ⟨ns, e3, e4⟩ := Option.map_eq_some_iff.mp e2
      cases e4
      have rts' := rts.stp st2
      obtain ⟨u1, q, rfl, a, rfl⟩ := rts'
      obtain ⟨u2', q2, rfl, a2, rfl⟩ := rts2
      obtain ⟨pp, us, ep, sp, rp⟩ := lstOf_get rh2 a e1
      refine ⟨pp, ns, _, by rw [ep], by rw [int_get a2], by rw [← intsOf_rv rp e3]; exact sp, p2 g2 H2 _ .refl rh2 rt_int⟩
    · cases ez
end
end J
namespace J
open PySem L2
open PySem.Spec
open PyProof.Rows hiding St
/-! list comprehensions of three clauses. One lemma (clause_loop) serves the loop of each clause, another (enter_block) the way into the block. -/
end J
namespace J
open PySem L2
/-! three clauses over the small heap -/
def lc3Go (b : VV → VSt → Option VSt) (t : TF) (it1 : AF) (b1 : VV → VSt → Option VSt) (vs1 : List Nat) (t1 : TF) (it2 : AF) (b2 : VV → VSt → Option VSt) (vs2 : List Nat) (t2 : TF) (e : EF) (ρ : VSt) : List VV → VH → List VV → Res (List VV)
  | [], h, acc => .ok acc h
  | x :: xs, h, acc => match b x ρ with
    | none => .no
    | some ρ' => (t ρ' h).bind fun k h1 => if k = true then (it1 ρ' h1).bind fun ys h2 => (lc2Go b1 t1 it2 b2 vs2 t2 e (wp ρ' vs1) ys h2 acc).bind fun vs h3 => lc3Go b t it1 b1 vs1 t1 it2 b2 vs2 t2 e ρ xs h3 vs else lc3Go b t it1 b1 vs1 t1 it2 b2 vs2 t2 e ρ xs h1 acc
def eLc3 (own : List Nat) (it : AF) (b : VV → VSt → Option VSt) (t : TF) (it1 : AF) (b1 : VV → VSt → Option VSt) (vs1 : List Nat) (t1 : TF) (it2 : AF) (b2 : VV → VSt → Option VSt) (vs2 : List Nat) (t2 : TF) (e : EF) : EF := fun ρ h => (it ρ h).bind fun xs h1 => match lc3Go b t it1 b1 vs1 t1 it2 b2 vs2 t2 e (wp ρ own) xs h1 [] with
  | .ok vs h2 => .ok (.lst vs) h2
  | _ => .no
end J
namespace J
open PySem L2
open PySem.Spec
open PyProof.Rows hiding St
/-! x = [e for .. in .. for .. in .. for .. in ..] -/
end J
namespace J
open PySem L2
/-! {k: v for t in xs}, the keys tuples -/
section
variable {X : Cx} {W : WX}
def eDc1T (own : List Nat) (it : AF) (b : VV → VSt → Option VSt) (fk fv : EF) : EF := fun ρ h => (it ρ h).bind fun xs h1 => (noX (accGo b (stDict fk fv) (wp ρ own) xs h1 ([], []))).bind fun a h2 => .ok (.dT a.1 a.2) h2
end
end J
namespace J
open PySem L2
/-! a, b = a list -/
end J
namespace J
open PySem L2
/-! len(set(t)), t a tuple of ints -/
end J
namespace J
open PySem L2
open PySem.Spec
open PyProof.Rows hiding St
/-! some statements taken together, so that the roots that they made may be forgotten behind them -/
end J
namespace J
open PySem L2
/-! max(xs), a list of ints that is not empty -/
end J
namespace J
open PySem L2
/-! sorted(xs) whose list is a root -/
end J
namespace J
open PySem L2
/-! for i, x in enumerate(xs), xs a root that may be read while the loop runs -/
end J
namespace J
open PySem L2
/-! a call that only looks at lists which are roots: for as long as it runs all roots are frozen, afterwards they are roots again -/
def noD : VO → Bool
  | .dT _ _ => false
  | .dK _ _ => false
  | _ => true
def Gh.still (g : Gh) : Gh := { io := [], fz := fun q => g.fz q ∨ q ∈ g.io, kp := g.kp }
theorem RH.still {c : Ct} {g : Gh} {h : VH} {H : Hp} (rh : RH c g h H) : RH c g.still [] H where
  len := rfl
  nd := List.nodup_nil
  at' := fun n o a h1 => by simp at h1
  fz := fun q z => z.elim (rh.fz q) rh.root
  kp := rh.kp
  kd := fun q z => ⟨fun y => y.elim (rh.kd q z).1 (rh.kd q z).2, fun y => by cases y⟩
  tb := rh.tb
  nt := fun q z ps => z.elim (fun y => y.elim (fun y => rh.nt q (.inl y) ps) fun y => rh.rootNt y ps) fun y => rh.nt q (.inr y) ps
theorem RVs.still {c : Ct} {g : Gh} {H : Hp} {vs : List VV} {us : List V} (h : RVs c g.fz H vs us) : RVs c g.still.fz H vs us := RVs.stp (fun _ z => .inl z) (fun _ _ => .refl) (fun _ _ e => e) _ _ h
theorem RV.still {c : Ct} {g : Gh} {H : Hp} {v : VV} {u : V} (h : RV c g.fz H v u) : RV c g.still.fz H v u := RV.stp (fun _ z => .inl z) (fun _ _ => .refl) (fun _ _ e => e) _ _ h
/-- behind the call -/
theorem RH.wake {c : Ct} {g g2 : Gh} {h h2 : VH} {H H2 : Hp} (rh : RH c g h H) (nd : h.all noD = true) (st : Stp g.still H g2 H2) (rh2 : RH c g2 h2 H2) : Stp g H g H2 ∧ RH c g h H2 := by
  have s : Stp g H g H2 := ⟨List.prefix_rfl, fun _ z => z, fun _ z => z, fun p z => st.fH p (.inl z), fun p z => st.kH p z, st.tp⟩
  refine ⟨s, rh.len, rh.nd, fun n o a h1 h2 => ?_, fun q z => (st.fH q (.inl z)).ex (rh.fz q z), fun q z => by rw [st.kH q z]; exact rh.kp q z, rh.kd, rh2.tb, fun q z ps => z.elim (fun z => rh2.nt q (.inl (st.fz q (.inl z))) ps) fun z => rh2.nt q (.inr (st.kp q z)) ps⟩
  have ro := rh.at' n o a h1 h2
  have ke := st.fH a (.inr (List.mem_of_getElem? h2))
  have no : noD o = true := List.all_eq_true.mp nd o (List.mem_of_getElem? h1)
  cases o with
  | fzn v => exact ⟨ro.1, s.rv ro.2⟩
  | fl xs =>
    obtain ⟨_, us, e, _⟩ := id ro
    exact RO.stp s (fun z => z) ((ke.at e (fun _ z => nomatch z)).trans e.symm) ro
  | lo xs =>
    obtain ⟨_, us, e, _⟩ := id ro
    exact RO.stp s (fun z => z) ((ke.at e (fun _ z => nomatch z)).trans e.symm) ro
  | dT ks vs => cases no
  | dK ks vs => cases no
  | ins x ns vs =>
    obtain ⟨_, C, dx, us, _, e, _⟩ := id ro
    exact RO.stp s (fun z => z) ((ke.at e (fun _ z => nomatch z)).trans e.symm) ro
end J
namespace J
open PySem L2
open AutoSeq1 (wpAny_loadPart')
/-! enumerate(a tuple) -/
end J
namespace J
open PySem L2
/-! xs * n as data -/
end J
namespace J
open PySem L2
/-! dict(a list of pairs), the keys ints or texts and unlike -/
end J
namespace J
open PySem PySem.Spec L2 PyProof.Rows
/-! min(t), t a tuple of ints that is not empty -/
end J
namespace J
open PySem L2
/-! texts: str(x), int(text), sep.join(..), text.split(sep), f'..', a sign in a text -/
end J
namespace J
open PySem L2
/-! one, *others = a tuple -/
end J
namespace J
open PySem L2
/-! lists of roots: written at a place, two places exchanged; o[i] -= e; a root gone through while it may be changed -/
theorem RTs.put {c : Ct} {g : Gh} {H : Hp} {v : VV} {u : V} (q : RT c g H v u) : ∀ {vs : List VV} {us : List V} {i : Nat}, RTs c g H vs us → RTs c g H (vs.set i v) (us.set i u)
  | [], us, i, h => by
    obtain rfl : us = [] := h
    simp only [List.set_nil]
    rfl
  | x :: xs, us, i, h => by
    obtain ⟨y, r, rfl, a, b⟩ := h
    cases i with
    | zero => exact ⟨u, r, rfl, q, b⟩
    | succ i => exact ⟨y, _, rfl, a, RTs.put q b⟩
def setX (h : VH) (o i v : VV) : Option VH := match o, i with
  | .obj n, .int k => match h[n]? with
    | some (.fl xs) => match ixN xs.length k with
      | some j => if v.isObj = true then none else some (h.set n (.fl (xs.set j v)))
      | none => none
    | some (.lo xs) => match ixN xs.length k with
      | some j => some (h.set n (.lo (xs.set j v)))
      | none => none
    | _ => none
  | _, _ => none
theorem setX_ok {c : Ct} {g : Gh} {h h' : VH} {H : Hp} {o i v : VV} {uo ui uv : V} (rh : RH c g h H) (ro : RT c g H o uo) (ri : RT c g H i ui) (rv : RT c g H v uv) (e : setX h o i v = some h') (Q : Hp → Prop) (k : ∀ H', Stp g H g H' → RH c g h' H' → Q H') : rSetL uo ui uv H Q := by
  unfold setX at e
  split at e
  · rename_i n kk
    split at e
    · rename_i xs en
      refine setI_ok rh ro ri rv (h' := h') ?_ Q k
      unfold setI
      simp only [en]
      exact e
    · rename_i xs en
      split at e
      · rename_i j ej
        cases e
        obtain ⟨a, ea, eo⟩ := ro
        obtain ⟨nz, us, hl, rts⟩ := rh.at' n _ a en ea
        have nk : ¬ g.kp a := fun z => (rh.kd a z).2 (List.mem_of_getElem? ea)
        have st : Stp g H g (upd H a (.lst (us.set j uv))) := Stp.wr (c := c) nz nk (fun ys z => by rw [hl] at z; cases z)
        refine ⟨a, us, kk, j, eo, int_get ri, hl, by rw [← rts.len]; exact ej, k _ st (rh.wr ea nz (fun ys z => by rw [hl] at z; cases z) ?_)⟩
        exact ⟨nz, _, upd_same, RTs.put (rv.stp st) (RTs.stp st rts)⟩
      · cases e
    · cases e
  · cases e
def sSetX (o i e : EF) : SF := fun ρ h => (e ρ h).st ρ fun v h1 => (o ρ h1).st ρ fun ov h2 => (i ρ h2).st ρ fun iv h3 => match setX h3 ov iv v with
  | some h4 => .nx ρ h4
  | none => .no
def sSwp (e1 e2 o1 i1 o2 i2 : EF) : SF := fun ρ h => (e1 ρ h).st ρ fun v1 h1 => (e2 ρ h1).st ρ fun v2 h2 => (o1 ρ h2).st ρ fun a1 h3 => (i1 ρ h3).st ρ fun k1 h4 => match setX h4 a1 k1 v1 with
  | some h5 => (o2 ρ h5).st ρ fun a2 h6 => (i2 ρ h6).st ρ fun k2 h7 => match setX h7 a2 k2 v2 with
    | some h8 => .nx ρ h8
    | none => .no
  | none => .no
/-- o[i] -= e, ints -/
def augVS (fe : EF) (ρ : VSt) (ov iv : VV) (h2 : VH) : SR := if ov.isObj = true then (match opIx h2 ov iv with
  | some (.int a) => (fe ρ h2).st ρ fun v h3 => match v with
    | .int b => match setI h3 ov iv (.int (a - b)) with
      | some h4 => .nx ρ h4
      | none => .no
    | _ => .no
  | _ => .no) else .no
def sAugIS (o i e : EF) : SF := fun ρ h => (o ρ h).st ρ fun ov h1 => (i ρ h1).st ρ fun iv h2 => augVS e ρ ov iv h2
def rootX (h : VH) (n : Nat) : Option (List VV) := match h[n]? with
  | some (.fl ys) => some ys
  | some (.lo ys) => some ys
  | _ => none
def iRoot (f : EF) : VSt → VH → Res Nat := fun ρ h => (f ρ h).bind fun v h1 => match v with
  | .obj n => (match rootX h1 n with
    | some _ => .ok n h1
    | none => .no)
  | _ => .no
/-- each turn reads the root anew -/
def lrGo (b : VV → VSt → Option VSt) (body : SF) (n : Nat) : Nat → Nat → VSt → VH → SR
  | 0, _, _, _ => .no
  | k + 1, i, ρ, h => match rootX h n with
    | some ys => (match ys[i]? with
      | none => .nx ρ h
      | some y => (match b y ρ with
        | none => .no
        | some ρ' => (match body ρ' h with
          | .nx ρ2 h2 => lrGo b body n k (i + 1) ρ2 h2
          | .cnt ρ2 h2 => lrGo b body n k (i + 1) ρ2 h2
          | .brk ρ2 h2 => .nx ρ2 h2
          | r => r)))
    | none => .no
def lenL (h : VH) (n : Nat) : Nat := match rootX h n with
  | some ys => ys.length
  | none => 0
def sForL (it : VSt → VH → Res Nat) (b : VV → VSt → Option VSt) (body : SF) : SF := fun ρ h => (it ρ h).st ρ fun n h1 => lrGo b body n (lenL h1 n + 1) 0 ρ h1
theorem rootX_get {c : Ct} {g : Gh} {h : VH} {H : Hp} {n : Nat} {a : Addr} {ys : List VV} (rh : RH c g h H) (ea : g.io[n]? = some a) (e : rootX h n = some ys) : ∃ us, SqL c.K H a us ∧ RTs c g H ys us := by
  unfold rootX at e
  split at e
  · rename_i zs en
    cases e
    obtain ⟨nz, us, hl, rws⟩ := rh.at' n _ a en ea
    exact ⟨us, SqL.of hl, RTs.of_rvs rws⟩
  · rename_i zs en
    cases e
    obtain ⟨nz, us, hl, rws⟩ := rh.at' n _ a en ea
    exact ⟨us, SqL.of hl, rws⟩
  · cases e
section
variable {X : Cx} {W : WX}
theorem js_setX {o i e : Expr} {fo fi fe : EF} {pos pos' : Pos} (he : PE X e (tE (ct X) W fe)) (ho : PE X o (tE (ct X) W fo)) (hi : PE X i (tE (ct X) W fi))
    (ha : ∀ v, assign (.Subscript o i pos') X.env v = (do
      let ov ← holding [v] (eval o X.env)
      let iv ← holding [v, ov] (eval i X.env)
      standAt pos'
      holding [v, ov, iv] (setItem ov iv v)
      release [v, ov, iv] []) := by intro _; rfl)
    (hs : swapsWithSole [.Subscript o i pos'] e pos.line X.env = pure false := by rfl) (hw : swappedStores [.Subscript o i pos'] e X.env = pure none := by rfl) (h1 : (assignEach [.Subscript o i pos'] X.env).map (·.2) = [assign (.Subscript o i pos') X.env] := by rfl) :
    PS X (.Assign [.Subscript o i pos'] e pos) (tS (ct X) W (sSetX fo fi fe)) :=
  PS.mono (ps_asg he (pg_sub ho hi set_list ha) hs hw h1) fun D σ H ⟨g, ρ, h, rh, rs, p⟩ => by
    refine ⟨g, ρ, h, rh, rs, (Pst.st (R := RT (ct X)) rs p).imp fun u H1 ⟨g1, v, h1, st, rh1, rs1, rv1, p1⟩ => ?_⟩
    refine ⟨g1, ρ, h1, rh1, rs1, (Pst.st (R := RT (ct X)) rs1 p1).imp fun u2 H2 ⟨g2, ov, h2, st2, rh2, rs2, rv2, p2⟩ => ?_⟩
    refine ⟨g2, ρ, h2, rh2, rs2, (Pst.st (R := RT (ct X)) rs2 p2).imp fun u3 H3 ⟨g3, iv, h3, st3, rh3, rs3, rv3, p3⟩ => ?_⟩
    cases e : setX h3 ov iv v with
    | none => rw [e] at p3; exact p3.elim
    | some h4 =>
      rw [e] at p3
      exact setX_ok rh3 (rv2.stp st3) rv3 ((rv1.stp st2).stp st3) e _ fun H' st' rh' => p3 g3 H' σ st' rh' (rs3.stp st')
theorem js_swp {e1 e2 o1 i1 o2 i2 : Expr} {f1 f2 fo1 fi1 fo2 fi2 : EF} {p1 p2 pt pt2 pos : Pos} {k k2 : Nat} (hc : X.calm = true) (he1 : PE X e1 (tE (ct X) W f1)) (he2 : PE X e2 (tE (ct X) W f2))
    (ho1 : PE X o1 (tE (ct X) W fo1)) (hi1 : PE X i1 (tE (ct X) W fi1)) (ho2 : PE X o2 (tE (ct X) W fo2)) (hi2 : PE X i2 (tE (ct X) W fi2))
    (ha1 : ∀ v, assign (.Subscript o1 i1 p1) X.env v = (do
      let ov ← holding [v] (eval o1 X.env)
      let iv ← holding [v, ov] (eval i1 X.env)
      standAt p1
      holding [v, ov, iv] (setItem ov iv v)
      release [v, ov, iv] []) := by intro _; rfl)
    (ha2 : ∀ v, assign (.Subscript o2 i2 p2) X.env v = (do
      let ov ← holding [v] (eval o2 X.env)
      let iv ← holding [v, ov] (eval i2 X.env)
      standAt p2
      holding [v, ov, iv] (setItem ov iv v)
      release [v, ov, iv] []) := by intro _; rfl)
    (hs1 : starEach [e1, e2] X.env = (false, eval e1 X.env) :: starEach [e2] X.env := by rfl) (hs2 : starEach [e2] X.env = (false, eval e2 X.env) :: starEach [] X.env := by rfl)
    (hs : swapsWithSole [.Tuple [.Subscript o1 i1 p1, .Subscript o2 i2 p2] k pt] (.Tuple [e1, e2] k2 pt2) pos.line X.env = pure false := by rfl) (hw : swappedStores [.Tuple [.Subscript o1 i1 p1, .Subscript o2 i2 p2] k pt] (.Tuple [e1, e2] k2 pt2) X.env = pure none := by rfl) :
    PS X (.Assign [.Tuple [.Subscript o1 i1 p1, .Subscript o2 i2 p2] k pt] (.Tuple [e1, e2] k2 pt2) pos) (tS (ct X) W (sSwp f1 f2 fo1 fi1 fo2 fi2)) :=
  PS.mono (ps_asg (pe_tup (pa_cons he1 (pa_cons he2 pa_nil hs2) hs1)) (pg_tup hc (pgs_cons (pg_sub ho1 hi1 set_list ha1) (pgs_cons (pg_sub ho2 hi2 set_list ha2) pgs_nil))) hs hw) fun D σ H ⟨g, ρ, h, rh, rs, p⟩ => by
    refine ⟨g, ρ, h, rh, rs, (Pst.st (R := RT (ct X)) rs p).imp fun u1 H1 ⟨g1, v1, h1, st1, rh1, rs1, rv1, q1⟩ => ?_⟩
    refine ⟨g1, ρ, h1, rh1, rs1, (Pst.st (R := RT (ct X)) rs1 q1).imp fun u2 H2 ⟨g2, v2, h2, st2, rh2, rs2, rv2, q2⟩ => ?_⟩
    refine ⟨by show 2 ≤ sizeLine; rw [PySem.sizeLine_eq]; decide, fun p0 hp0 => ?_⟩
    have stj : Stp g2 H2 g2 (upd H2 p0 (.tup [u1, u2])) := .junk rh2 hp0
    have rhj : RH (ct X) g2 h2 (upd H2 p0 (.tup [u1, u2])) := rh2.junk hp0
    have q2 := PS1.step stj q2
    have rv1 := (rv1.stp st2).stp stj
    have rv2 := rv2.stp stj
    have rs2 := rs2.stp stj
    refine ⟨p0, [u1, u2], rfl, .inl (.inl upd_same), rfl, u1, [u2], rfl, ?_⟩
    generalize upd H2 p0 (.tup [u1, u2]) = HJ at *
    refine ⟨g2, ρ, h2, rhj, rs2, (Pst.st (R := RT (ct X)) rs2 q2).imp fun u3 H3 ⟨g3, a1, h3, st3, rh3, rs3, rv3, q3⟩ => ?_⟩
    refine ⟨g3, ρ, h3, rh3, rs3, (Pst.st (R := RT (ct X)) rs3 q3).imp fun u4 H4 ⟨g4, k1, h4, st4, rh4, rs4, rv4, q4⟩ => ?_⟩
    cases e : setX h4 a1 k1 v1 with
    | none => rw [e] at q4; exact q4.elim
    | some h5 =>
      rw [e] at q4
      refine setX_ok rh4 (rv3.stp st4) rv4 ((rv1.stp st3).stp st4) e _ fun H5 st5 rh5 => ⟨u2, [], rfl, ?_⟩
      have q5 := PS1.step st5 q4
      have rs5 := rs4.stp st5
      refine ⟨g4, ρ, h5, rh5, rs5, (Pst.st (R := RT (ct X)) rs5 q5).imp fun u6 H6 ⟨g6, a2, h6, st6, rh6, rs6, rv6, q6⟩ => ?_⟩
      refine ⟨g6, ρ, h6, rh6, rs6, (Pst.st (R := RT (ct X)) rs6 q6).imp fun u7 H7 ⟨g7, k2, h7, st7, rh7, rs7, rv7, q7⟩ => ?_⟩
      cases e7 : setX h7 a2 k2 v2 with
      | none => rw [e7] at q7; exact q7.elim
      | some h8 =>
        rw [e7] at q7
        exact setX_ok rh7 (rv6.stp st7) rv7 (((((rv2.stp st3).stp st4).stp st5).stp st6).stp st7) e7 _ fun H8 st8 rh8 => ⟨rfl, q7 g7 H8 σ st8 rh8 (rs7.stp st8)⟩
theorem js_augIS {o i e : Expr} {fo fi fe : EF} {pos tpos : Pos} (ho : PE X o (tE (ct X) W fo)) (hi : PE X i (tE (ct X) W fi)) (he : PE X e (tE (ct X) W fe))
    (ha : ∀ ov iv new, augStore i ov iv new = (do holding [new, ov, iv] (setItem ov iv new); release [new, ov, iv] []; pure .next) := by intros; rfl) :
    PS X (.AugAssign (.Subscript o i tpos) .Sub e pos) (tS (ct X) W (sAugIS fo fi fe)) :=
  PS.mono (ps_augS ho hi get_list he ip_sub set_list ha) fun D σ H ⟨g, ρ, h, rh, rs, p⟩ => by
    refine ⟨g, ρ, h, rh, rs, (Pst.st (R := RT (ct X)) rs p).imp fun u H1 ⟨g1, ov, h1, st, rh1, rs1, rv1, p1⟩ => ?_⟩
    refine ⟨g1, ρ, h1, rh1, rs1, (Pst.st (R := RT (ct X)) rs1 p1).imp fun u2 H2 ⟨g2, iv, h2, st2, rh2, rs2, rv2, p2⟩ => ?_⟩
    unfold augVS at p2
    split at p2
    · rename_i co
      split at p2
      · rename_i a e1
        cases ov with
        | obj n =>
          obtain ⟨q, us, k, z, rfl, ek, sq, ea, ra⟩ := opIx_list (w := .non) rh2 (rv1.stp st2) rv2 e1
          refine ⟨q, us, k, z, rfl, ek, sq, ea, g2, ρ, h2, rh2, rs2, (Pst.st (R := RT (ct X)) rs2 p2).imp fun u3 H3 ⟨g3, v, h3, st3, rh3, rs3, rv3, p3⟩ => ?_⟩
          split at p3
          · rename_i b
            refine ⟨a, b, int_get ra, int_get rv3, ?_⟩
            cases e2 : setI h3 (.obj n) iv (.int (a - b)) with
            | none => rw [e2] at p3; exact p3.elim
            | some h4 =>
              rw [e2] at p3
              exact setI_ok rh3 ((rv1.stp st2).stp st3) (rv2.stp st3) rt_int e2 _ fun H' st' rh' => p3 g3 H' σ st' rh' (rs3.stp st')
          · exact p3.elim
        | _ => cases co
      · exact p2.elim
    · exact p2.elim
theorem ji_root {tg l : Expr} {f : EF} (hl : PE X l (tE (ct X) W f)) : PI X tg l (tG (ct X) W (fun g H n J => ∃ b, g.io[n]? = some b ∧ J = Itl X.K b) (iRoot f)) :=
  PI.mono (pi_list hl) fun σ H R h => by
    obtain ⟨g, ρ, h0, rh, rs, p⟩ := h
    unfold iRoot at p
    refine ⟨g, ρ, h0, rh, rs, ?_⟩
    cases e : f ρ h0 with
    | no => rw [e] at p; exact p.elim
    | exc x ns vs h' => rw [e] at p; exact p
    | ok v h1 =>
      rw [e] at p
      simp only [Res.bind] at p
      split at p
      · rename_i n
        split at p
        · rename_i ys en
          intro g' H' u st rh' rv
          obtain ⟨b, eb, eu⟩ := rv
          obtain ⟨us, sq, -⟩ := rootX_get rh' eb en
          exact ⟨b, eu, ⟨us, sq⟩, p g' H' _ st rh' ⟨b, eb, rfl⟩⟩
        · exact p.elim
      · exact p.elim
theorem js_forL {tg iter : Expr} {body : List Stmt} {it : VSt → VH → Res Nat} {g : TG} {b : VV → VSt → Option VSt} {own : List Nat} {fb : SF} {pos : Pos} (hp : PassesOwn (model X.prog X.w) X.A X.env X.xe) (hc : X.calm = true)
    (hi : PI X tg iter (tG (ct X) W (fun g H n J => ∃ b, g.io[n]? = some b ∧ J = Itl X.K b) it)) (hg : PG X tg g) (pat : PatOk X.K g b own) (hb : PSs X body (tS (ct X) W fb))
    (hs : ∀ x, foldedSetIterable iter X.env x = pure x := by intro _; rfl) : PS X (.For tg iter body [] pos) (tS (ct X) W (sForL it b fb)) :=
  PS.mono (ps_for hp hc hi hg hb hs) fun D σ H ⟨g, ρ, h, rh, rs, p⟩ => by
    refine ⟨g, ρ, h, rh, rs, (Pst.st (R := fun g H n J => ∃ b, g.io[n]? = some b ∧ J = Itl X.K b) rs p).imp fun J H1 ⟨g1, n, h1, st, rh1, rs1, dl, p1⟩ => ?_⟩
    obtain ⟨a, ea, rfl⟩ := dl
    let P : Nat → Nat → St → Hp → Prop := fun i m σ' H' => ∃ (gi : Gh) (ρi : VSt) (hi : VH), Stp g1 H1 gi H' ∧ RH (ct X) gi hi H' ∧ RS (ct X) gi H' ρi σ' ∧ PS1 (ct X) W gi H' D (lrGo b fb n m i ρi hi)
    refine ⟨P, ⟨lenL h1 n + 1, g1, ρ, h1, .refl, rh1, rs1, p1⟩, ?_⟩
    rintro i m σ' H' ⟨gi, ρi, hh, sti, rhi, rsi, pi⟩
    cases m with
    | zero => exact pi.elim
    | succ k =>
      unfold lrGo at pi
      have ea' : gi.io[n]? = some a := by
        obtain ⟨t, et⟩ := sti.io
        rw [← et, List.getElem?_append_left (List.getElem?_eq_some_iff.mp ea).1]
        exact ea
      split at pi
      · rename_i ys en
        obtain ⟨ws, hl, rws⟩ := rootX_get rhi ea' en
        split at pi
        · rename_i ey
          exact .inl ⟨⟨ws, hl, by rw [← rws.len]; exact List.getElem?_eq_none_iff.mp ey⟩, pi gi H' σ' .refl rhi rsi⟩
        · rename_i y ey
          obtain ⟨u1, e1, r1⟩ := rws.get ey
          refine .inr ⟨⟨ws, u1, hl, e1⟩, P (i + 1) k, fun σ2 H2 p2 => ⟨k, Nat.lt_succ_self _, p2⟩, fun x H2 yd => ?_⟩
          obtain ⟨eH, ha⟩ := yd
          have q := ha ws hl
          rw [e1] at q
          cases q
          subst eH
          split at pi
          · exact pi.elim
          · rename_i ρ' e
            refine pat.run (ct X) _ hh _ ρi σ' _ _ ρ' rfl rhi rsi r1 e _ fun σ3 rs3 _ _ => ⟨_, ρ', hh, rhi, rs3, ?_⟩
            cases eb : fb ρ' hh with
            | no => rw [eb] at pi; exact pi
            | nx ρ2 h2 => rw [eb] at pi; exact fun g' H' σ' st rh' rs' => ⟨g', ρ2, h2, sti.trans st, rh', rs', PS1.step st pi⟩
            | cnt ρ2 h2 => rw [eb] at pi; exact fun g' H' σ' st rh' rs' => ⟨g', ρ2, h2, sti.trans st, rh', rs', PS1.step st pi⟩
            | brk ρ2 h2 => rw [eb] at pi; exact pi
            | ret v h2 => rw [eb] at pi; exact pi
            | exc x ns vs ρ2 h2 => rw [eb] at pi; exact pi
      · exact pi.elim
end
end J
namespace J
open PySem L2
/-! an expression that only looks: for as long as it is evaluated all roots are frozen, afterwards they are roots again -/
mutual
def flatV : VV → Bool
  | .non => true
  | .bl _ => true
  | .int _ => true
  | .str _ => true
  | .tup xs => flatVs xs
  | _ => false
def flatVs : List VV → Bool
  | [] => true
  | x :: xs => flatV x && flatVs xs
end
mutual
theorem RV.flat {c : Ct} {z z' : Addr → Prop} {H : Hp} : ∀ (v : VV) (u : V), flatV v = true → RV c z H v u → RV c z' H v u
  | .non, u, _, h => by simpa only [RV] using h
  | .bl b, u, _, h => by simpa only [RV] using h
  | .int i, u, _, h => by simpa only [RV] using h
  | .str x, u, _, h => by simpa only [RV] using h
  | .tup xs, u, f, h => by
    rw [RV] at h ⊢
    rw [flatV] at f
    obtain ⟨p, us, e, r, q⟩ := h
    exact ⟨p, us, e, r, RVs.flat xs us f q⟩
  | .lst _, _, f, _ => by rw [flatV] at f <;> first | cases f | (intros; simp_all)
  | .scr _, _, f, _ => by rw [flatV] at f <;> first | cases f | (intros; simp_all)
  | .dT _ _, _, f, _ => by rw [flatV] at f <;> first | cases f | (intros; simp_all)
  | .dK _ _, _, f, _ => by rw [flatV] at f <;> first | cases f | (intros; simp_all)
  | .ins _ _ _, _, f, _ => by rw [flatV] at f <;> first | cases f | (intros; simp_all)
  | .obj _, _, f, _ => by rw [flatV] at f <;> first | cases f | (intros; simp_all)
  | .glb _, _, f, _ => by rw [flatV] at f <;> first | cases f | (intros; simp_all)
  | .ty _, _, f, _ => by rw [flatV] at f <;> first | cases f | (intros; simp_all)
  | .raw _, _, f, _ => by rw [flatV] at f <;> first | cases f | (intros; simp_all)
theorem RVs.flat {c : Ct} {z z' : Addr → Prop} {H : Hp} : ∀ (vs : List VV) (us : List V), flatVs vs = true → RVs c z H vs us → RVs c z' H vs us
  | [], us, _, h => by simpa only [RVs] using h
  | x :: xs, us, f, h => by
    rw [RVs] at h ⊢
    rw [flatVs, Bool.and_eq_true] at f
    obtain ⟨u, r, e, a, b⟩ := h
    exact ⟨u, r, e, RV.flat x u f.1 a, RVs.flat xs r f.2 b⟩
end
def viewS (h : VH) : Option VV → Option VV
  | some v => dzV h 0 8 v
  | none => none
theorem RS.view {c : Ct} {g : Gh} {h : VH} {H : Hp} {ρ : VSt} {σ : St} (rh : RH c g h H) (rs : RS c g H ρ σ) : RS c g.still H (ρ.map (viewS h)) σ := by
  refine ⟨by rw [List.length_map]; exact rs.len, fun i v e => ?_⟩
  rw [List.getElem?_map] at e
  obtain ⟨o, e1, e2⟩ := Option.map_eq_some_iff.mp e
  cases o with
  | none => cases e2
  | some w =>
    obtain ⟨u, e3, r⟩ := rs.get i w e1
    refine ⟨u, e3, RT.of_rv ?_⟩
    exact RV.stp (fun p z => z.elim .inl fun ⟨n, _, q⟩ => .inr (List.mem_of_getElem? q)) (fun _ _ => .refl) (fun _ _ q => q) _ _ (dz_ok rh 8 w u v r e2)
def viewR (h : VH) : Res VV → Res VV
  | .ok v h1 => if flatV v = true then .ok v h else (match v with
    | .obj n => (match h1[n]? with
      | some (.fl xs) => if flatVs xs = true then .ok (.obj h.length) (h ++ [.fl xs]) else .no
      | _ => .no)
    | _ => .no)
  | _ => .no
def eView (fe : EF) : EF := fun ρ h => if h.all noD = true then viewR h (fe (ρ.map (viewS h)) []) else .no
section
variable {X : Cx} {W : WX}
theorem j_view {e : Expr} {fe : EF} (he : PE X e (tE (ct X) W fe)) : PE X e (tE (ct X) W (eView fe)) :=
  PE.mono he fun σ H Q ⟨g, ρ, h, rh, rs, p⟩ => by
    unfold eView at p
    split at p
    · rename_i nd
      refine ⟨g.still, ρ.map (viewS h), [], rh.still, rs.view rh, ?_⟩
      cases e : fe (ρ.map (viewS h)) [] with
      | no => rw [e] at p; exact p.elim
      | exc x ns vs h' => rw [e] at p; exact p.elim
      | ok v h1 =>
        rw [e] at p
        unfold viewR at p
        simp only at p
        intro g2 H2 u st2 rh2 rt2
        obtain ⟨s1, r1⟩ := rh.wake nd st2 rh2
        split at p
        · rename_i fl
          refine p g H2 u s1 r1 (RT.of_rv (RV.flat v u fl (rt2.rv ?_)))
          cases v with
          | obj n => rw [flatV] at fl <;> first | cases fl | (intros; simp_all)
          | _ => rfl
        · split at p
          · rename_i n _
            split at p
            · rename_i xs en
              split at p
              · rename_i fl
                obtain ⟨a, ea, eu⟩ := rt2
                obtain ⟨nz, us, hl, rws⟩ := rh2.at' n _ a en ea
                have na : a ∉ g.io := fun z => nz (st2.fz a (.inr z))
                have nf : ¬ g.fz a := fun z => nz (st2.fz a (.inl z))
                have nk : ¬ g.kp a := fun z => (rh2.kd a (st2.kp a z)).2 (List.mem_of_getElem? ea)
                refine p (g.add a) H2 u (s1.trans .add) (r1.add na nk ⟨nf, us, hl, RVs.flat xs us fl rws⟩) ⟨a, ?_, eu⟩
                show (g.io ++ [a])[h.length]? = some a
                rw [← r1.len, List.getElem?_append_right (Nat.le_refl _), Nat.sub_self]
                rfl
              · exact p.elim
            · exact p.elim
          · exact p.elim
    · exact p.elim
/-- a + b of two lists, a new root -/
def eAddO (a b : EF) : EF := fun ρ h => (a ρ h).bind fun v h1 => (b ρ h1).bind fun w h2 => match lstOf' h2 v, lstOf' h2 w with
  | some xs, some ys => if xs.length + ys.length ≤ SZ then .ok (.obj h2.length) (h2 ++ [.fl (xs ++ ys)]) else .no
  | _, _ => .no
theorem j_addO {a b : Expr} {fa fb : EF} {pos : Pos} (ha : PE X a (tE (ct X) W fa)) (hb : PE X b (tE (ct X) W fb)) : PE X (.BinOp a .Add b pos) (tE (ct X) W (eAddO fa fb)) :=
  PE.mono (pe_op op_cat ha hb) fun σ H Q ⟨g, ρ, h, rh, rs, p⟩ => by
    refine ⟨g, ρ, h, rh, rs, (Pst.bind (R := RT (ct X)) p).imp fun u H1 ⟨g1, v, h1, st1, rh1, rv1, p1⟩ => ?_⟩
    refine ⟨g1, ρ, h1, rh1, rs.stp st1, (Pst.bind (R := RT (ct X)) p1).imp fun u2 H2 ⟨g2, w, h2, st2, rh2, rv2, p2⟩ => ?_⟩
    split at p2
    · rename_i xs ys e1 e2
      split at p2
      · rename_i hl
        obtain ⟨p, us, ep, sp, rp⟩ := lstOf'_get rh2 (rv1.stp st2) e1
        obtain ⟨q, ws, eq, sq, rq⟩ := lstOf'_get rh2 rv2 e2
        refine ⟨p, q, us, ws, ep, eq, sp, sq, by rw [← rp.len, ← rq.len]; exact SZ_le hl, fun z hz => ?_⟩
        obtain ⟨s1, s2, s3⟩ := root_new rh2 hz (RVs.app rp rq)
        exact p2 _ _ _ s1 s2 s3
      · exact p2.elim
    · exact p2.elim
end
end J
namespace J
open PySem L2
/-! one, two, *others = a tuple -/
theorem star_two {P : Program} {w : World} {A : Around} {E : Value → Shared → Prop} {s : Shared} {l : Addr} {items : Array Value} {x y : Value} {xs : List Value} {Q : List Value → Shared → Prop} (ht : PyProof.Rows.IsTup s.heap l items) (hh : A.handled = none) (hx : items.toList = x :: y :: xs) (hz : items.size ≤ 16384)
    (h : ∀ (h1 : Heap) (tk : Nat), (∀ b o, s.heap.get? b = some o → h1.get? b = some o) → Q [x, y, .ref h1.objs.size] { s with heap := h1.push { cls := .type "list", data := .seq xs.toArray }, toks := tk }) : wpAny (model P w) A (unpackItems (.ref l) 3 (some 2)) Q E s := by
  have nl : l ≠ s.heap.objs.size := by
    obtain ⟨o, e, _⟩ := ht
    exact Nat.ne_of_lt (Heap.lt_size e)
  have count : items.size = xs.length + 2 := by
    have := congrArg List.length hx
    rw [Array.length_toList, List.length_cons, List.length_cons] at this
    exact this
  unfold unpackItems notIterableAtAll
  refine wpAny_bind (wpAny_bind (wpAny_specialOf ht.typeIs PyProof.Rows.slot_tuple_iter.lookup (wpAny_pure ?_)))
  rw [if_neg Bool.false_ne_true]
  refine wpAny_bind (wpAny_holding (PyProof.Rows.iter_tuple ht ?_))
  refine wpAny_bind (wpAny_holding (PyProof.Rows.draw_tuple nl 2 0 _ _ ⟨_, Heap.get?_push_size _ rfl, rfl, rfl⟩ (ht.push _) (by omega) fun g1 i1 s1 => ?_))
  have front : (items.toList.drop 0).take 2 = [x, y] := by rw [hx]; rfl
  have back : items.toList.drop 2 = xs := by rw [hx]; rfl
  have t1 : PyProof.Rows.IsTup g1 l items := (ht.push _).extBut s1.extBut nl
  rw [front]
  show wpAny _ _ (if ([x, y] : List Value).length < 2 then _ else _) _ _ _
  rw [if_neg (by simp)]
  have i1c := i1
  have t1c := t1
  obtain ⟨oi, hoi, _⟩ := i1c
  obtain ⟨ol, hol, _⟩ := t1c
  have walk := Walks.tuple (A := A.in1) (prog := P) (w := w) hh s.heap.objs.size l nl items
  refine wpAny_bind (wpAny_holding (PySem.W.kun_collect (s := { s with heap := g1 }) (T := "tuple_iterator") (k := 2) (.inr (.inr (.inr rfl))) walk (fun j u z => z.1.typeIs) (by omega) ⟨i1, t1⟩ (Heap.lt_size hoi) (Heap.lt_size hol) (fun g2 tk k2 => ?_) (by rw [sizeLine_eq]; omega)))
  rw [back]
  show wpAny _ _ (if xs.length < 3 - 2 - 1 then _ else _) _ _ _
  rw [if_neg (by omega)]
  show wpAny _ _ (newList (xs.take (xs.length - 0)) >>= fun d => pure ([x, y] ++ [d] ++ xs.drop (xs.length - 0))) _ _ _
  rw [Nat.sub_zero, List.take_length, List.drop_length]
  refine wpAny_bind (wpAny_newList (wpAny_pure (h g2 tk fun b o e => ?_)) (by rw [sizeLine_eq]; omega))
  have nb : b ≠ s.heap.objs.size := Nat.ne_of_lt (Heap.lt_size e)
  exact k2 b o nb (s1.extBut b o nb (Heap.get?_push_of_some _ e))
section
variable {X : Cx} {W : WX}
def gStar2 (K : PySem.W.Frag) (t : TGs) : TG := fun v σ H Q => ∃ a x y xs, v = .ref a ∧ SqT K H a (x :: y :: xs) ∧ xs.length ≤ 1000 ∧ ∀ l, H l = none → t [x, y, .ref l] σ (upd H l (.lst xs)) Q
theorem pg_star2 {e1 e2 e3 : Expr} {p pos : Pos} {k : Nat} {t : TGs} (hc : X.calm = true) (h : PGs X [e1, e2, e3] t) (hn : (assignEach [e1, e2, .Starred e3 p] X.env).length = 3 := by rfl) (hst : (assignEach [e1, e2, .Starred e3 p] X.env).findIdx? (·.1) = some 2 := by rfl)
    (hm : (assignEach [e1, e2, .Starred e3 p] X.env).map (·.2) = (assignEach [e1, e2, e3] X.env).map (·.2) := by rfl) : PG X (.Tuple [e1, e2, .Starred e3 p] k pos) (gStar2 X.K t) := by
  refine ⟨fun pins s σ H v u Q I r hw => ?_⟩
  obtain ⟨a, x, y, xs, ev, hq, hl, hw⟩ := hw
  subst ev
  cases r
  obtain ⟨its, rv, ht, hz⟩ := I.tuple hq
  cases rv with
  | @cons _ u1 _ us1 rx rxs =>
    cases rxs with
    | @cons _ u2 _ us2 ry rys =>
      have hlen := rys.length
      rw [PyProof.Rows.assign_Tuple]
      refine wpAny_bind (wpAny_standAt ?_)
      unfold unpack
      rw [hn, hst, hm]
      refine wpAny_bind (wpAny_holding (star_two ht (I.ok.hd hc) (x := u1) (y := u2) (xs := us2) (by simp) (by simp; omega) fun h1 tk kp => ?_))
      have I1 : Inv X pins σ H { s with heap := h1, toks := tk } := I.kept kp
      have fr := I1.hok.fresh (Nat.le_refl _)
      have I2 := I1.laid (a := h1.objs.size) (o := .lst xs) (h' := h1.push { cls := .type "list", data := .seq us2.toArray }) (t' := tk) (fun b o q => Heap.get?_push_of_some _ q) (Nat.le_refl _) ⟨by rw [sizeLine_eq]; omega, us2, _, rys, Heap.get?_push_size _ rfl⟩
      exact h.run pins _ σ _ [x, y, .ref h1.objs.size] _ Q I2 (.cons rx (.cons ry (.cons rfl .nil))) (hw _ fr)
def sStar2 (i j l : Nat) (f : EF) : SF := fun ρ h => (f ρ h).st ρ fun v h1 => match v with
  | .tup (x :: y :: xs) => if xs.length ≤ 1000 then .nx (((ρ.set i (some x)).set j (some y)).set l (some (.lst xs))) h1 else .no
  | _ => .no
theorem js_star2 {x1 x2 x3 : Str} {p1 p2 p3 : Pos} {e : Expr} {f : EF} {i j l : Nat} {k : Nat} {p pos' pos : Pos} (hc : X.calm = true) (he : PE X e (tE (ct X) W f)) (h1 : PG X (.Name x1 p1) (gName i)) (h2 : PG X (.Name x2 p2) (gName j)) (h3 : PG X (.Name x3 p3) (gName l))
    (hn : (assignEach [.Name x1 p1, .Name x2 p2, .Starred (.Name x3 p3) p] X.env).length = 3 := by rfl) (hst : (assignEach [.Name x1 p1, .Name x2 p2, .Starred (.Name x3 p3) p] X.env).findIdx? (·.1) = some 2 := by rfl) (hm : (assignEach [.Name x1 p1, .Name x2 p2, .Starred (.Name x3 p3) p] X.env).map (·.2) = (assignEach [.Name x1 p1, .Name x2 p2, .Name x3 p3] X.env).map (·.2) := by rfl)
    (hs : swapsWithSole [.Tuple [.Name x1 p1, .Name x2 p2, .Starred (.Name x3 p3) p] k pos'] e pos.line X.env = pure false := by rfl) (hw : swappedStores [.Tuple [.Name x1 p1, .Name x2 p2, .Starred (.Name x3 p3) p] k pos'] e X.env = pure none := by rfl) (ha : (assignEach [.Tuple [.Name x1 p1, .Name x2 p2, .Starred (.Name x3 p3) p] k pos'] X.env).map (·.2) = [assign (.Tuple [.Name x1 p1, .Name x2 p2, .Starred (.Name x3 p3) p] k pos') X.env] := by rfl) :
    PS X (.Assign [.Tuple [.Name x1 p1, .Name x2 p2, .Starred (.Name x3 p3) p] k pos'] e pos) (tS (ct X) W (sStar2 i j l f)) :=
  PS.mono (ps_asg he (pg_star2 (t := gCons (gName i) (gCons (gName j) (gCons (gName l) gNil))) hc (pgs_cons h1 (pgs_cons h2 (pgs_cons h3 pgs_nil))) hn hst hm) hs hw ha) fun D σ H ⟨g, ρ, h, rh, rs, q⟩ => by
    refine ⟨g, ρ, h, rh, rs, (Pst.st (R := RT (ct X)) rs q).imp fun u H1 ⟨g1, v, h1, st, rh1, rs1, rv1, q1⟩ => ?_⟩
    split at q1
    · rename_i x y xs
      split at q1
      · obtain ⟨a, us, rfl, hq, rvs⟩ := tup_get rv1
        rw [RVs] at rvs
        obtain ⟨w, ws, e0, r0, rr⟩ := rvs
        subst e0
        rw [RVs] at rr
        obtain ⟨w2, ws2, e0, r02, rr⟩ := rr
        subst e0
        refine ⟨a, w, w2, ws2, rfl, hq.sq, by have := rr.len; omega, fun z hz => ?_⟩
        obtain ⟨s1, s2, s3⟩ := new_lst rh1 hz rr
        have pat := pats_cons (pat_nm (K := X.K) i) (pats_cons (pat_nm (K := X.K) j) (pats_cons (pat_nm (K := X.K) l) pats_nil))
        refine pat.run (ct X) _ h1 _ ρ σ [x, y, .lst xs] [w, w2, .ref z] _ rfl s2 (rs1.stp s1) ⟨w, [w2, .ref z], rfl, (RT.of_rv r0).stp s1, w2, [.ref z], rfl, (RT.of_rv r02).stp s1, .ref z, [], rfl, s3, rfl⟩ rfl _ fun σ' rs' _ _ => ?_
        exact q1 _ _ σ' s1 s2 rs'
      · exact q1.elim
    · exact q1.elim
end
end J
namespace J
open PySem L2 M
/-! evaluation of what J61, J63 added -/
section
variable {ρ : VSt} {h : VH}
def maxR (v w : VV) (h : VH) : Res VV := lift (cMaxD h [v] [w]) h
theorem a_maxD {a k : EF} : eMaxD (aCons a aNil) (aCons k aNil) ρ h = bnd (a ρ h) (fun v h1 => bnd (k ρ h1) (fun w h2 => maxR v w h2) (tg _)) (tg _) := by
  unfold eMaxD aCons aNil
  show _ = (a ρ h).bind fun v h1 => (k ρ h1).bind fun w h2 => maxR v w h2
  cases a ρ h with
  | no => rfl
  | exc => rfl
  | ok v h1 =>
    simp only [Res.bind]
    cases k ρ h1 <;> rfl
theorem a_lc3 {own it b t it1 b1 vs1 t1 it2 b2 vs2 t2 e} : eLc3 own it b t it1 b1 vs1 t1 it2 b2 vs2 t2 e ρ h = bnd (it ρ h) (fun xs h1 => afterL (lc3Go b t it1 b1 vs1 t1 it2 b2 vs2 t2 e (wp ρ own) xs h1 [])) (tg _) := nr rfl
theorem a_dc1T {own it b fk fv} : eDc1T own it b fk fv ρ h = bnd (it ρ h) (fun xs h1 => bnd (noX (accGo b (stDict fk fv) (wp ρ own) xs h1 ([], []))) (fun a h2 => .ok (.dT a.1 a.2) h2) (tg _)) (tg _) := nr rfl
end
end J
namespace L
open PySem L2 J
def top (i : Nat) : Stmt := PySem.Challenge.pw_cupweb_k07_rests_refused.main.body.getD i (.Pass ⟨0, 0, 0, 0⟩)
abbrev s_law_box : Stmt := top 41
abbrev s_law_mixed : Stmt := top 42
abbrev s_law_take : Stmt := top 43
abbrev s_look_rests : Stmt := top 29
abbrev s_unit : Stmt := top 1
abbrev s_Form_least_place : Stmt := inClass (top 3) 2
abbrev s_Form_to_corner : Stmt := inClass (top 3) 3
abbrev s_lessened : Stmt := top 2
abbrev s_Form_lower_row : Stmt := inClass (top 3) 4
abbrev s_Form_lower_column : Stmt := inClass (top 3) 5
abbrev s_Form_clear_corner : Stmt := inClass (top 3) 6
abbrev s_Form_spread : Stmt := inClass (top 3) 1
abbrev s_Form_init : Stmt := inClass (top 3) 0
abbrev s_paired : Stmt := top 33
abbrev s_timed : Stmt := top 34
abbrev s_Form_step : Stmt := inClass (top 3) 7
abbrev s_share : Stmt := top 32
abbrev s_rest : Stmt := top 30
abbrev s_rested : Stmt := top 31
abbrev s_barring : Stmt := top 36
abbrev s_solved : Stmt := top 37
abbrev s_bars : Stmt := top 38
abbrev s_judged : Stmt := top 39
abbrev s_law : Stmt := top 46
abbrev s_WebError_init : Stmt := inClass (top 5) 0
abbrev s_BadRests_init : Stmt := inClass (top 10) 0
abbrev s_law_refusal : Stmt := top 45
abbrev s_law_kinds : Stmt := top 44
def fs_0 : List He.Fa := [.glo "Form", .cls "Form", .mkr "Form", .free "ValueError", .free "abs", .free "any", .free "enumerate", .free "int", .free "isinstance", .free "len", .free "list", .free "max", .free "range", .free "sum", .free "zip", .int "RESTS_MOST" 60, .int "WHOLE" 0, .noat "Form" "left", .noat "Form" "level", .noat "Form" "right"]
def fs_1 : List He.Fa := [.noat "Form" "steps", .noat "Form" "unleft", .noat "Form" "unright", .noat "Form" "wide", .glo "_law_box", .glo "_law_mixed", .glo "_law_take", .glo "look_rests", .glo "unit", .glo "lessened", .glo "paired", .glo "timed", .glo "share", .glo "rest", .glo "rested", .glo "barring", .glo "solved", .glo "bars", .glo "judged", .glo "law"]
def fs_2 : List He.Fa := [.glo "_law_refusal", .glo "_law_kinds", .glo "WebError", .glo "BadRests", .meth "Form" "least_place", .meth "Form" "to_corner", .meth "Form" "lower_row", .meth "Form" "lower_column", .meth "Form" "clear_corner", .meth "Form" "spread", .meth "Form" "step"]
def fs : List He.Fa := fs_0 ++ fs_1 ++ fs_2
def fn_0 : List He.DefD := [⟨("_law_box", none), "_law_box", "_law_box", defArgs s_law_box, defBody s_law_box, defScope s_law_box, [], []⟩, ⟨("_law_mixed", none), "_law_mixed", "_law_mixed", defArgs s_law_mixed, defBody s_law_mixed, defScope s_law_mixed, [], []⟩, ⟨("_law_take", none), "_law_take", "_law_take", defArgs s_law_take, defBody s_law_take, defScope s_law_take, [], []⟩, ⟨("look_rests", none), "look_rests", "look_rests", defArgs s_look_rests, defBody s_look_rests, defScope s_look_rests, [], []⟩, ⟨("unit", none), "unit", "unit", defArgs s_unit, defBody s_unit, defScope s_unit, [], []⟩, ⟨("Form", some "least_place"), "least_place", "Form.least_place", defArgs s_Form_least_place, defBody s_Form_least_place, defScope s_Form_least_place, [], []⟩, ⟨("Form", some "to_corner"), "to_corner", "Form.to_corner", defArgs s_Form_to_corner, defBody s_Form_to_corner, defScope s_Form_to_corner, [], []⟩, ⟨("lessened", none), "lessened", "lessened", defArgs s_lessened, defBody s_lessened, defScope s_lessened, [], []⟩, ⟨("Form", some "lower_row"), "lower_row", "Form.lower_row", defArgs s_Form_lower_row, defBody s_Form_lower_row, defScope s_Form_lower_row, [], []⟩, ⟨("Form", some "lower_column"), "lower_column", "Form.lower_column", defArgs s_Form_lower_column, defBody s_Form_lower_column, defScope s_Form_lower_column, [], []⟩, ⟨("Form", some "clear_corner"), "clear_corner", "Form.clear_corner", defArgs s_Form_clear_corner, defBody s_Form_clear_corner, defScope s_Form_clear_corner, [], []⟩, ⟨("Form", some "spread"), "spread", "Form.spread", defArgs s_Form_spread, defBody s_Form_spread, defScope s_Form_spread, [], []⟩, ⟨("Form", some "__init__"), "__init__", "Form.__init__", defArgs s_Form_init, defBody s_Form_init, defScope s_Form_init, [], []⟩, ⟨("paired", none), "paired", "paired", defArgs s_paired, defBody s_paired, defScope s_paired, [], []⟩, ⟨("timed", none), "timed", "timed", defArgs s_timed, defBody s_timed, defScope s_timed, [], []⟩, ⟨("Form", some "step"), "step", "Form.step", defArgs s_Form_step, defBody s_Form_step, defScope s_Form_step, [], []⟩, ⟨("share", none), "share", "share", defArgs s_share, defBody s_share, defScope s_share, [], []⟩, ⟨("rest", none), "rest", "rest", defArgs s_rest, defBody s_rest, defScope s_rest, [.int 0], []⟩, ⟨("rested", none), "rested", "rested", defArgs s_rested, defBody s_rested, defScope s_rested, [.int 0], []⟩, ⟨("barring", none), "barring", "barring", defArgs s_barring, defBody s_barring, defScope s_barring, [], []⟩]
def fn_1 : List He.DefD := [⟨("solved", none), "solved", "solved", defArgs s_solved, defBody s_solved, defScope s_solved, [], [("rests", .int 0)]⟩, ⟨("bars", none), "bars", "bars", defArgs s_bars, defBody s_bars, defScope s_bars, [], []⟩, ⟨("judged", none), "judged", "judged", defArgs s_judged, defBody s_judged, defScope s_judged, [], [("rests", .int 0)]⟩, ⟨("law", none), "law", "law", defArgs s_law, defBody s_law, defScope s_law, [], []⟩, ⟨("WebError", some "__init__"), "__init__", "WebError.__init__", defArgs s_WebError_init, defBody s_WebError_init, defScope s_WebError_init, [.str "WebError", .int (-1)], []⟩, ⟨("BadRests", some "__init__"), "__init__", "BadRests.__init__", defArgs s_BadRests_init, defBody s_BadRests_init, defScope s_BadRests_init, [.int (-1)], []⟩, ⟨("_law_refusal", none), "_law_refusal", "_law_refusal", defArgs s_law_refusal, defBody s_law_refusal, defScope s_law_refusal, [], []⟩, ⟨("_law_kinds", none), "_law_kinds", "_law_kinds", defArgs s_law_kinds, defBody s_law_kinds, defScope s_law_kinds, [], []⟩]
def fn : List He.DefD := fn_0 ++ fn_1
def exs (K : PySem.W.Frag) : List Bool := [tabB K, weB K, xrB K (He.ga K "WebError") "BadRests" 4]
def ex (K : PySem.W.Frag) : Bool := (exs K).all id
def loose_0 : List PySem.Str := ["unit", "lessened", "Form", "WebError", "BadFace", "Full", "BadSize", "BadRow", "BadRests", "NotShut", "BadMap", "NotFace", "NotNear", "NoFace", "NotFree", "BadName", "Taken", "NoWeb", "NoRow", "BadKind"]
def loose_1 : List PySem.Str := ["Unlike", "Had", "NothingLeft", "BadText", "WHOLE", "RESTS_MOST", "look_rests", "rest", "rested", "share", "paired", "timed", "barring", "solved", "bars", "judged", "_law_box", "_law_mixed", "_law_take", "_law_kinds"]
def loose_2 : List PySem.Str := ["_law_refusal"]
def loose : List PySem.Str := loose_0 ++ loose_1 ++ loose_2
end L
namespace L
open PySem PySem.W PySem.Calls PyProof.Rows
abbrev hR : OpenRow := OpenLaw.row PySem.Challenge.rw_cupweb_k07_rests_refused
abbrev hq : Program := view hR.prog [46]
def has : List Addr := List.range 1000
abbrev hk : Hook := J.hookL has fs fn ex
def hob (s : SharedT) : He.AlD × Bool := J.obsL has fs fn ex (HandSHeadRun.getT s)
theorem hrun (w : World) : HandSHeadRun.RunEq hR hq hk hob 30000 loose w := by
  intro os
  kernel_rfl
end L
namespace L
open PySem L2 J
abbrev lb_law_box_1 : SF :=
    (sSet 1 (eBin opMod (eBin opAdd (eBin opAdd (eBin opMul (eVar 1) (eC (.int 31))) (eVar 2)) (eC (.int 17))) (eC (.int 2147483647))))
def B_law_box : SF :=
    (sSeq (sSet 1 (eC (.int 0)))
    (sSeq (sFor (iSeq (eSl opSl (eVar 0) oNone (oSome (eC (.int 63))))) (bNm 2) lb_law_box_1)
    (sRet (eLstO (aCons (eCall cList (aCons (eSl opSl (eVar 0) oNone (oSome (eC (.int 63)))) aNil)) (aCons (eC (.int 0)) (aCons (eC (.int 0)) (aCons (eC (.int 0)) (aCons (eVar 1) aNil)))))))))
def F_law_box : FF := fnF 3 B_law_box
def B_law_mixed : SF :=
    (sSeq (sSet 2 (eBin opMod (eBin opAdd (eBin opAdd (eBin opMul (eVar 0) (eC (.int 48271))) (eBin opMul (eVar 1) (eC (.int 69621)))) (eC (.int 12345))) (eC (.int 2147483647))))
    (sSeq (sSet 3 (eBin opMod (eBin opAdd (eBin opAdd (eBin opMul (eVar 2) (eBin opAdd (eBin opMod (eVar 2) (eC (.int 65521))) (eC (.int 7)))) (eBin opMul (eVar 1) (eC (.int 40692)))) (eBin opMod (eVar 0) (eC (.int 104729)))) (eC (.int 998244353))))
    (sRet (eBin opFdiv (eVar 3) (eC (.int 7))))))
def F_law_mixed : FF := fnF 4 B_law_mixed
def B_law_take : SF :=
    (sSeq (sSetI (eVar 0) (eC (.int 3)) (eBin opAdd (eBin opIx (eVar 0) (eC (.int 3))) (eC (.int 1))))
    (sSeq (sIf (tVal (eBin opGt (eBin opIx (eVar 0) (eC (.int 2))) (eC (.int 0)))) (sSeq (sSet 3 (eBin opIx (eVar 0) (eC (.int 2))))
    (sSeq (sSetI (eVar 0) (eC (.int 2)) (eBin opFdiv (eVar 3) (eVar 1)))
    (sRet (eBin opMod (eVar 3) (eVar 1))))) sSkip)
    (sSeq (sIf (tVal (eBin opGe (eBin opIx (eVar 0) (eC (.int 1))) (eCall cLen (aCons (eBin opIx (eVar 0) (eC (.int 0))) aNil)))) (sRet (eBin opMod (eFn 2 F_law_mixed [] (aCons (eBin opIx (eVar 0) (eC (.int 4))) (aCons (eBin opIx (eVar 0) (eC (.int 3))) aNil))) (eVar 1))) sSkip)
    (sSeq (sSet 2 (eBin opIx (eBin opIx (eVar 0) (eC (.int 0))) (eBin opIx (eVar 0) (eC (.int 1)))))
    (sSeq (sSetI (eVar 0) (eC (.int 1)) (eBin opAdd (eBin opIx (eVar 0) (eC (.int 1))) (eC (.int 1))))
    (sSeq (sIf (tVal (eBin opLt (eVar 2) (eBin opPow (eC (.int 10)) (eC (.int 18))))) (sRet (eBin opMod (eFn 2 F_law_mixed [] (aCons (eVar 2) (aCons (eBin opIx (eVar 0) (eC (.int 3))) aNil))) (eVar 1))) sSkip)
    (sSeq (sSetI (eVar 0) (eC (.int 2)) (eBin opFdiv (eVar 2) (eVar 1)))
    (sRet (eBin opMod (eVar 2) (eVar 1))))))))))
def F_law_take : FF := fnF 4 B_law_take
def B_look_rests : SF :=
    (sIf (tAnd (tVal (eBin opNe (eVar 0) (eC (.int 0)))) (tNot (tVal (eChain opLe opLe (eC (.int 2)) (eVar 0) (eC (.int 60)))))) (sRaise0 "BadRests") sSkip)
def F_look_rests : FF := fnF 1 B_look_rests
abbrev le_unit_1 : EF :=
    (eCall cInt (aCons (eBin opEq (eVar 1) (eVar 2)) aNil))
abbrev le_unit_2 : EF :=
    (eLcO [2] (iRange1 (eVar 0)) (bNm 2) tTrue le_unit_1)
def B_unit : SF :=
    (sRet (eLcR [1] (iRange1 (eVar 0)) (bNm 1) tTrue le_unit_2))
def F_unit : FF := fnF 3 B_unit
abbrev lb_Form_least_place_1 : SF :=
    (sSeq (sSet 6 (eCall cAbs (aCons (eBin opIx (eBin opIx (eFld "Form" "level" (eVar 0)) (eVar 4)) (eVar 5)) aNil)))
    (sSeq (sIf (tVal (eBin opEq (eVar 6) (eC (.int 1)))) (sRet (eTup (aCons (eVar 4) (aCons (eVar 5) aNil)))) sSkip)
    (sIf (tAnd (tVal (eBin opGt (eVar 6) (eC (.int 0)))) (tOr (tVal (eBin opIsN (eVar 1) (eC .non))) (tVal (eBin opLt (eVar 6) (eVar 2))))) (sSeq (sSet 1 (eTup (aCons (eVar 4) (aCons (eVar 5) aNil))))
    (sSet 2 (eVar 6))) sSkip)))
abbrev lb_Form_least_place_2 : SF :=
    (sFor (iRange2 (aCons (eVar 3) (aCons (eFld "Form" "wide" (eVar 0)) aNil))) (bNm 5) lb_Form_least_place_1)
def B_Form_least_place : SF :=
    (sSeq (sSet 1 (eC .non))
    (sSeq (sSet 2 (eC (.int 0)))
    (sSeq (sSet 3 (eCall cLen (aCons (eFld "Form" "steps" (eVar 0)) aNil)))
    (sSeq (sFor (iRange2 (aCons (eVar 3) (aCons (eCall cLen (aCons (eFld "Form" "level" (eVar 0)) aNil)) aNil))) (bNm 4) lb_Form_least_place_2)
    (sRet (eVar 1))))))
def F_Form_least_place : FF := fnF 7 B_Form_least_place
abbrev lb_Form_to_corner_1 : SF :=
    (sSwp (eBin opIx (eVar 4) (eVar 1)) (eBin opIx (eVar 4) (eVar 3)) (eVar 4) (eVar 3) (eVar 4) (eVar 1))
abbrev lb_Form_to_corner_2 : SF :=
    (sSwp (eBin opIx (eVar 4) (eVar 2)) (eBin opIx (eVar 4) (eVar 3)) (eVar 4) (eVar 3) (eVar 4) (eVar 2))
abbrev lb_Form_to_corner_3 : SF :=
    (sSwp (eBin opIx (eVar 4) (eVar 2)) (eBin opIx (eVar 4) (eVar 3)) (eVar 4) (eVar 3) (eVar 4) (eVar 2))
abbrev le_Form_to_corner_1 : EF :=
    (eUn opNeg (eVar 5))
abbrev le_Form_to_corner_2 : EF :=
    (eUn opNeg (eVar 5))
abbrev lb_Form_to_corner_4 : SF :=
    (sSetI (eVar 4) (eVar 3) (eUn opNeg (eBin opIx (eVar 4) (eVar 3))))
def B_Form_to_corner : SF :=
    (sSeq (sSet 3 (eCall cLen (aCons (eFld "Form" "steps" (eVar 0)) aNil)))
    (sSeq (sSwp (eBin opIx (eFld "Form" "level" (eVar 0)) (eVar 1)) (eBin opIx (eFld "Form" "level" (eVar 0)) (eVar 3)) (eFld "Form" "level" (eVar 0)) (eVar 3) (eFld "Form" "level" (eVar 0)) (eVar 1))
    (sSeq (sSwp (eBin opIx (eFld "Form" "left" (eVar 0)) (eVar 1)) (eBin opIx (eFld "Form" "left" (eVar 0)) (eVar 3)) (eFld "Form" "left" (eVar 0)) (eVar 3) (eFld "Form" "left" (eVar 0)) (eVar 1))
    (sSeq (sForL (iRoot (eFld "Form" "unleft" (eVar 0))) (bNm 4) lb_Form_to_corner_1)
    (sSeq (sForL (iRoot (eFld "Form" "level" (eVar 0))) (bNm 4) lb_Form_to_corner_2)
    (sSeq (sForL (iRoot (eFld "Form" "right" (eVar 0))) (bNm 4) lb_Form_to_corner_3)
    (sSeq (sSwp (eBin opIx (eFld "Form" "unright" (eVar 0)) (eVar 2)) (eBin opIx (eFld "Form" "unright" (eVar 0)) (eVar 3)) (eFld "Form" "unright" (eVar 0)) (eVar 3) (eFld "Form" "unright" (eVar 0)) (eVar 2))
    (sIf (tVal (eBin opLt (eBin opIx (eBin opIx (eFld "Form" "level" (eVar 0)) (eVar 3)) (eVar 3)) (eC (.int 0)))) (sSeq (sSetX (eFld "Form" "level" (eVar 0)) (eVar 3) (eView (eLcO [5] (iSeq (eBin opIx (eFld "Form" "level" (eVar 0)) (eVar 3))) (bNm 5) tTrue le_Form_to_corner_1)))
    (sSeq (sSetX (eFld "Form" "left" (eVar 0)) (eVar 3) (eView (eLcO [5] (iSeq (eBin opIx (eFld "Form" "left" (eVar 0)) (eVar 3))) (bNm 5) tTrue le_Form_to_corner_2)))
    (sForL (iRoot (eFld "Form" "unleft" (eVar 0))) (bNm 4) lb_Form_to_corner_4))) sSkip))))))))
def F_Form_to_corner : FF := fnF 6 B_Form_to_corner
abbrev le_lessened_1 : EF :=
    (eBin opSub (eVar 3) (eBin opMul (eVar 2) (eVar 4)))
def B_lessened : SF :=
    (sRet (eLcO [3, 4] (iZip (aCons (eVar 0) (aCons (eVar 1) aNil))) (bTup 2 (bCons (bNm 3) (bCons (bNm 4) bNil))) tTrue le_lessened_1))
def F_lessened : FF := fnF 5 B_lessened
abbrev lb_Form_lower_row_1 : SF :=
    (sAugI (eVar 4) (eVar 2) (eBin opMul (eVar 3) (eBin opIx (eVar 4) (eVar 1))))
def B_Form_lower_row : SF :=
    (sSeq (sSetX (eFld "Form" "level" (eVar 0)) (eVar 1) (eView (eFn 3 F_lessened [] (aCons (eBin opIx (eFld "Form" "level" (eVar 0)) (eVar 1)) (aCons (eBin opIx (eFld "Form" "level" (eVar 0)) (eVar 2)) (aCons (eVar 3) aNil))))))
    (sSeq (sSetX (eFld "Form" "left" (eVar 0)) (eVar 1) (eView (eFn 3 F_lessened [] (aCons (eBin opIx (eFld "Form" "left" (eVar 0)) (eVar 1)) (aCons (eBin opIx (eFld "Form" "left" (eVar 0)) (eVar 2)) (aCons (eVar 3) aNil))))))
    (sForL (iRoot (eFld "Form" "unleft" (eVar 0))) (bNm 4) lb_Form_lower_row_1)))
def F_Form_lower_row : FF := fnF 5 B_Form_lower_row
abbrev lb_Form_lower_column_1 : SF :=
    (sAugIS (eVar 4) (eVar 1) (eBin opMul (eVar 3) (eBin opIx (eVar 4) (eVar 2))))
abbrev lb_Form_lower_column_2 : SF :=
    (sAugIS (eVar 4) (eVar 1) (eBin opMul (eVar 3) (eBin opIx (eVar 4) (eVar 2))))
def B_Form_lower_column : SF :=
    (sSeq (sForL (iRoot (eFld "Form" "level" (eVar 0))) (bNm 4) lb_Form_lower_column_1)
    (sSeq (sForL (iRoot (eFld "Form" "right" (eVar 0))) (bNm 4) lb_Form_lower_column_2)
    (sSetX (eFld "Form" "unright" (eVar 0)) (eVar 2) (eView (eFn 3 F_lessened [] (aCons (eBin opIx (eFld "Form" "unright" (eVar 0)) (eVar 2)) (aCons (eBin opIx (eFld "Form" "unright" (eVar 0)) (eVar 1)) (aCons (eUn opNeg (eVar 3)) aNil))))))))
def F_Form_lower_column : FF := fnF 5 B_Form_lower_column
abbrev lb_Form_clear_corner_1 : SF :=
    (sIf (tVal (eBin opNe (eBin opIx (eBin opIx (eFld "Form" "level" (eVar 0)) (eVar 3)) (eVar 1)) (eC (.int 0)))) (sExpr (eMeth "Form" "lower_row" 4 F_Form_lower_row [] (eVar 0) (aCons (eVar 3) (aCons (eVar 1) (aCons (eBin opFdiv (eBin opIx (eBin opIx (eFld "Form" "level" (eVar 0)) (eVar 3)) (eVar 1)) (eVar 2)) aNil))))) sSkip)
abbrev lb_Form_clear_corner_2 : SF :=
    (sIf (tVal (eBin opNe (eBin opIx (eBin opIx (eFld "Form" "level" (eVar 0)) (eVar 1)) (eVar 4)) (eC (.int 0)))) (sExpr (eMeth "Form" "lower_column" 4 F_Form_lower_column [] (eVar 0) (aCons (eVar 4) (aCons (eVar 1) (aCons (eBin opFdiv (eBin opIx (eBin opIx (eFld "Form" "level" (eVar 0)) (eVar 1)) (eVar 4)) (eVar 2)) aNil))))) sSkip)
abbrev le_Form_clear_corner_1 : EF :=
    (eBin opIx (eVar 6) (eVar 1))
abbrev le_Form_clear_corner_2 : EF :=
    (eBin opNe (eBin opMod (eVar 7) (eVar 2)) (eC (.int 0)))
abbrev lb_Form_clear_corner_3 : SF :=
    (sIf (tVal (eView (eCall cAny (aCons (eLc [7] (iSeq (eSl opSl (eBin opIx (eFld "Form" "level" (eVar 0)) (eVar 3)) (oSome (eBin opAdd (eVar 1) (eC (.int 1)))) oNone)) (bNm 7) tTrue le_Form_clear_corner_2) aNil)))) (sSeq (sExpr (eMeth "Form" "lower_row" 4 F_Form_lower_row [] (eVar 0) (aCons (eVar 1) (aCons (eVar 3) (aCons (eUn opNeg (eC (.int 1))) aNil)))))
    (sRet (eC (.bl false)))) sSkip)
def B_Form_clear_corner : SF :=
    (sSeq (sSet 1 (eCall cLen (aCons (eFld "Form" "steps" (eVar 0)) aNil)))
    (sSeq (sSet 2 (eBin opIx (eBin opIx (eFld "Form" "level" (eVar 0)) (eVar 1)) (eVar 1)))
    (sSeq (sFor (iRange2 (aCons (eBin opAdd (eVar 1) (eC (.int 1))) (aCons (eCall cLen (aCons (eFld "Form" "level" (eVar 0)) aNil)) aNil))) (bNm 3) lb_Form_clear_corner_1)
    (sSeq (sFor (iRange2 (aCons (eBin opAdd (eVar 1) (eC (.int 1))) (aCons (eFld "Form" "wide" (eVar 0)) aNil))) (bNm 4) lb_Form_clear_corner_2)
    (sSeq (sSet 5 (eView (eAddO (eLc [6] (iSeq (eSl opSl (eFld "Form" "level" (eVar 0)) (oSome (eBin opAdd (eVar 1) (eC (.int 1)))) oNone)) (bNm 6) tTrue le_Form_clear_corner_1) (eSl opSl (eBin opIx (eFld "Form" "level" (eVar 0)) (eVar 1)) (oSome (eBin opAdd (eVar 1) (eC (.int 1)))) oNone))))
    (sSeq (sIf (tVal (eBin opGt (eView (eMaxD (aCons (eVar 5) aNil) (aCons (eC (.int 0)) aNil))) (eC (.int 0)))) (sRet (eC (.bl false))) sSkip)
    (sSeq (sFor (iRange2 (aCons (eBin opAdd (eVar 1) (eC (.int 1))) (aCons (eCall cLen (aCons (eFld "Form" "level" (eVar 0)) aNil)) aNil))) (bNm 3) lb_Form_clear_corner_3)
    (sRet (eC (.bl true))))))))))
def F_Form_clear_corner : FF := fnF 8 B_Form_clear_corner
abbrev lc_Form_spread_1 : TF :=
    (tVal (eBin opNotN (eVar 1) (eC .non)))
abbrev lb_Form_spread_1 : SF :=
    (sSeq (sExpr (eMeth "Form" "to_corner" 3 F_Form_to_corner [] (eVar 0) (aCons (eBin opIx (eVar 1) (eC (.int 0))) (aCons (eBin opIx (eVar 1) (eC (.int 1))) aNil))))
    (sSeq (sIf (tVal (eMeth "Form" "clear_corner" 1 F_Form_clear_corner [] (eVar 0) aNil)) (sSeq (sSet 2 (eCall cLen (aCons (eFld "Form" "steps" (eVar 0)) aNil)))
    (sExpr (eApp (eFld "Form" "steps" (eVar 0)) (eBin opIx (eBin opIx (eFld "Form" "level" (eVar 0)) (eVar 2)) (eVar 2))))) sSkip)
    (sSet 1 (eView (eMeth "Form" "least_place" 1 F_Form_least_place [] (eVar 0) aNil)))))
def B_Form_spread : SF :=
    (sSeq (sSet 1 (eView (eMeth "Form" "least_place" 1 F_Form_least_place [] (eVar 0) aNil)))
    (whGo lc_Form_spread_1 lb_Form_spread_1 1000))
def F_Form_spread : FF := fnF 3 B_Form_spread
abbrev le_Form_init_1 : EF :=
    (eNewO lList (aCons (eVar 3) aNil))
def B_Form_init : SF :=
    (sSeq (sFldS "Form" "level" (eVar 0) (eLcR [3] (iSeq (eVar 1)) (bNm 3) tTrue le_Form_init_1))
    (sSeq (sFldS "Form" "wide" (eVar 0) (eVar 2))
    (sSeq (sFldS "Form" "left" (eVar 0) (eFn 1 F_unit [] (aCons (eCall cLen (aCons (eVar 1) aNil)) aNil)))
    (sSeq (sFldS "Form" "unleft" (eVar 0) (eFn 1 F_unit [] (aCons (eCall cLen (aCons (eVar 1) aNil)) aNil)))
    (sSeq (sFldS "Form" "right" (eVar 0) (eFn 1 F_unit [] (aCons (eVar 2) aNil)))
    (sSeq (sFldS "Form" "unright" (eVar 0) (eFn 1 F_unit [] (aCons (eVar 2) aNil)))
    (sSeq (sFldS "Form" "steps" (eVar 0) (eLstO aNil))
    (sExpr (eMeth "Form" "spread" 1 F_Form_spread [] (eVar 0) aNil)))))))))
def F_Form_init : FF := fnF 4 B_Form_init
abbrev le_paired_1 : EF :=
    (eBin opMul (eVar 2) (eVar 3))
def B_paired : SF :=
    (sRet (eCall cSum (aCons (eLc [2, 3] (iZip (aCons (eVar 0) (aCons (eVar 1) aNil))) (bTup 2 (bCons (bNm 2) (bCons (bNm 3) bNil))) tTrue le_paired_1) aNil)))
def F_paired : FF := fnF 4 B_paired
abbrev le_timed_1 : EF :=
    (eFn 2 F_paired [] (aCons (eVar 2) (aCons (eVar 1) aNil)))
def B_timed : SF :=
    (sRet (eLc [2] (iSeq (eVar 0)) (bNm 2) tTrue le_timed_1))
def F_timed : FF := fnF 3 B_timed
def B_Form_step : SF :=
    (sRet (eIf (tVal (eBin opLt (eVar 1) (eCall cLen (aCons (eFld "Form" "steps" (eVar 0)) aNil)))) (eBin opIx (eFld "Form" "steps" (eVar 0)) (eVar 1)) (eC (.int 0))))
def F_Form_step : FF := fnF 2 B_Form_step
abbrev lc_share_1 : TF :=
    (tVal (eBin opNe (eVar 5) (eC (.int 0))))
abbrev lb_share_1 : SF :=
    (sSeq (sSet 8 (eBin opFdiv (eVar 2) (eVar 5)))
    (sSeq (sPar 2 5 (aCons (eVar 5) (aCons (eBin opSub (eVar 2) (eBin opMul (eVar 8) (eVar 5))) aNil)))
    (sSeq (sPar 3 6 (aCons (eVar 6) (aCons (eBin opSub (eVar 3) (eBin opMul (eVar 8) (eVar 6))) aNil)))
    (sPar 4 7 (aCons (eVar 7) (aCons (eBin opSub (eVar 4) (eBin opMul (eVar 8) (eVar 7))) aNil))))))
def B_share : SF :=
    (sSeq (sPar3 2 3 4 (aCons (eVar 0) (aCons (eC (.int 1)) (aCons (eC (.int 0)) aNil))))
    (sSeq (sPar3 5 6 7 (aCons (eVar 1) (aCons (eC (.int 0)) (aCons (eC (.int 1)) aNil))))
    (sSeq (whGo lc_share_1 lb_share_1 1000)
    (sSeq (sIf (tVal (eBin opLt (eVar 2) (eC (.int 0)))) (sPar3 2 3 4 (aCons (eUn opNeg (eVar 2)) (aCons (eUn opNeg (eVar 3)) (aCons (eUn opNeg (eVar 4)) aNil)))) sSkip)
    (sRet (eTup (aCons (eVar 2) (aCons (eVar 3) (aCons (eVar 4) aNil)))))))))
def F_share : FF := fnF 9 B_share
def B_rest : SF :=
    (sRet (eIf (tVal (eBin opEq (eVar 1) (eC (.int 0)))) (eVar 0) (eBin opMod (eVar 0) (eVar 1))))
def F_rest : FF := fnF 2 B_rest
abbrev le_rested_1 : EF :=
    (eFn 2 F_rest [] (aCons (eVar 2) (aCons (eVar 1) aNil)))
def B_rested : SF :=
    (sRet (eLc [2] (iSeq (eVar 0)) (bNm 2) tTrue le_rested_1))
def F_rested : FF := fnF 3 B_rested
abbrev le_barring_1 : EF :=
    (eBin opMul (eBin opFdiv (eVar 2) (eVar 3)) (eVar 4))
def B_barring : SF :=
    (sSeq (sIf (tVal (eBin opEq (eVar 2) (eC (.int 0)))) (sRet (eTup (aCons (eC (.str "barred")) (aCons (eCall cList (aCons (eBin opIx (eFld "Form" "left" (eVar 0)) (eVar 1)) aNil)) (aCons (eMeth "Form" "step" 2 F_Form_step [] (eVar 0) (aCons (eVar 1) aNil)) aNil))))) sSkip)
    (sSeq (sSet 3 (eBin opIx (eFn 2 F_share [] (aCons (eMeth "Form" "step" 2 F_Form_step [] (eVar 0) (aCons (eVar 1) aNil)) (aCons (eVar 2) aNil))) (eC (.int 0))))
    (sRet (eTup (aCons (eC (.str "barred")) (aCons (eFn 2 F_rested [] (aCons (eLc [4] (iSeq (eBin opIx (eFld "Form" "left" (eVar 0)) (eVar 1))) (bNm 4) tTrue le_barring_1) (aCons (eVar 2) aNil))) (aCons (eVar 2) aNil)))))))
def F_barring : FF := fnF 5 B_barring
abbrev lb_solved_1 : SF :=
    (sSeq (sAsg (eFn 2 F_share [] (aCons (eMeth "Form" "step" 2 F_Form_step [] (eVar 4) (aCons (eVar 6) aNil)) (aCons (eVar 3) aNil))) (bTup 3 (bCons (bNm 8) (bCons (bNm 9) (bCons (bNm 10) bNil)))))
    (sSeq (sIf (tOr (tAnd (tVal (eBin opEq (eVar 8) (eC (.int 0)))) (tVal (eBin opNe (eVar 7) (eC (.int 0))))) (tAnd (tVal (eBin opGt (eVar 8) (eC (.int 0)))) (tVal (eBin opNe (eBin opMod (eVar 7) (eVar 8)) (eC (.int 0)))))) (sRet (eFn 3 F_barring [] (aCons (eVar 4) (aCons (eVar 6) (aCons (eVar 3) aNil))))) sSkip)
    (sIf (tAnd (tVal (eBin opLt (eVar 6) (eVar 1))) (tVal (eBin opGt (eVar 8) (eC (.int 0))))) (sSetI (eVar 5) (eVar 6) (eBin opMul (eVar 9) (eBin opFdiv (eVar 7) (eVar 8)))) sSkip)))
def B_solved : SF :=
    (sSeq (sExpr (eFn 1 F_look_rests [] (aCons (eVar 3) aNil)))
    (sSeq (sSet 4 (eMakeZ "Form" 3 F_Form_init [] (aCons (eVar 0) (aCons (eVar 1) aNil))))
    (sSeq (sSet 5 (eRepO (eLst (aCons (eC (.int 0)) aNil)) (eVar 1)))
    (sSeq (sFor (iEnum (aCons (eFn 2 F_timed [] (aCons (eFld "Form" "left" (eVar 4)) (aCons (eVar 2) aNil))) aNil)) (bTup 2 (bCons (bNm 6) (bCons (bNm 7) bNil))) lb_solved_1)
    (sRet (eTup (aCons (eC (.str "found")) (aCons (eFn 2 F_rested [] (aCons (eFn 2 F_timed [] (aCons (eFld "Form" "right" (eVar 4)) (aCons (eFrzD (eVar 5)) aNil))) (aCons (eVar 3) aNil))) aNil))))))))
def F_solved : FF := fnF 11 B_solved
abbrev le_bars_1 : EF :=
    (eBin opIx (eVar 7) (eVar 6))
abbrev lb_bars_1 : SF :=
    (sIf (tVal (eBin opNe (eFn 2 F_rest [] (aCons (eFn 2 F_paired [] (aCons (eVar 3) (aCons (eLc [7] (iSeq (eVar 0)) (bNm 7) tTrue le_bars_1) aNil))) (aCons (eVar 4) aNil))) (eC (.int 0)))) (sRet (eC (.bl false))) sSkip)
def B_bars : SF :=
    (sSeq (sIf (tOr (tVal (eBin opLt (eVar 4) (eC (.int 0)))) (tOr (tVal (eBin opEq (eVar 4) (eC (.int 1)))) (tOr (tAnd (tVal (eBin opNe (eVar 5) (eC (.int 0)))) (tVal (eBin opNe (eVar 4) (eVar 5)))) (tVal (eBin opNe (eCall cLen (aCons (eVar 3) aNil)) (eCall cLen (aCons (eVar 0) aNil))))))) (sRet (eC (.bl false))) sSkip)
    (sSeq (sFor (iRange1 (eVar 1)) (bNm 6) lb_bars_1)
    (sRet (eBin opNe (eFn 2 F_rest [] (aCons (eFn 2 F_paired [] (aCons (eVar 3) (aCons (eVar 2) aNil))) (aCons (eVar 4) aNil))) (eC (.int 0))))))
def F_bars : FF := fnF 8 B_bars
def B_judged : SF :=
    (sSeq (sExpr (eFn 1 F_look_rests [] (aCons (eVar 4) aNil)))
    (sSeq (sStar2 5 6 7 (eVar 3))
    (sSeq (sIf (tAnd (tVal (eBin opEq (eVar 5) (eC (.str "found")))) (tVal (eBin opEq (eVar 7) (eLst aNil)))) (sRet (eAnd (eBin opEq (eCall cLen (aCons (eVar 6) aNil)) (eVar 1)) (eBin opEq (eFn 2 F_rested [] (aCons (eFn 2 F_timed [] (aCons (eVar 0) (aCons (eVar 6) aNil))) (aCons (eVar 4) aNil))) (eFn 2 F_rested [] (aCons (eVar 2) (aCons (eVar 4) aNil)))))) sSkip)
    (sRet (eAnd (eBin opEq (eVar 5) (eC (.str "barred"))) (eAnd (eBin opEq (eCall cLen (aCons (eVar 7) aNil)) (eC (.int 1))) (eFn 6 F_bars [] (aCons (eVar 0) (aCons (eVar 1) (aCons (eVar 2) (aCons (eVar 6) (aCons (eBin opIx (eVar 7) (eC (.int 0))) (aCons (eVar 4) aNil)))))))))))))
def F_judged : FF := fnF 8 B_judged
abbrev lm_law_1 : EF :=
    (eFn 4 F_solved [] (aApp 3 1 (aCons (eLst (aCons (eLst (aCons (eC (.int 2)) (aCons (eC (.int 1)) aNil))) aNil)) (aCons (eC (.int 2)) (aCons (eLst (aCons (eC (.int 3)) aNil)) aNil))) (aCons (eVar 4) aNil)))
abbrev lm_law_2 : EF :=
    (eFn 5 F_judged [] (aApp 4 1 (aCons (eLst (aCons (eLst (aCons (eC (.int 2)) (aCons (eC (.int 1)) aNil))) aNil)) (aCons (eC (.int 2)) (aCons (eLst (aCons (eC (.int 3)) aNil)) (aCons (eTup (aCons (eC (.str "found")) (aCons (eLst (aCons (eC (.int 1)) (aCons (eC (.int 1)) aNil))) aNil))) aNil)))) (aCons (eVar 4) aNil)))
abbrev lb_law_1 : SF :=
    (sSeq (sSet 3 (eLst (aCons (eC (.int 0)) (aCons (eC (.int 1)) (aCons (eC (.int 2)) (aCons (eC (.int 60)) (aCons (eC (.int 61)) (aCons (eUn opNeg (eC (.int 1))) (aCons (eBin opSub (eUn opNeg (eC (.int 2))) (eFn 2 F_law_take [] (aCons (eVar 1) (aCons (eC (.int 100)) aNil)))) (aCons (eBin opAdd (eC (.int 62)) (eFn 2 F_law_take [] (aCons (eVar 1) (aCons (eBin opPow (eC (.int 10)) (eC (.int 20))) aNil)))) (aCons (eBin opAdd (eC (.int 2)) (eFn 2 F_law_take [] (aCons (eVar 1) (aCons (eC (.int 59)) aNil)))) aNil)))))))))))
    (sSeq (sSet 4 (eBin opIx (eVar 3) (eFn 2 F_law_take [] (aCons (eVar 1) (aCons (eC (.int 9)) aNil)))))
    (sSeq (sSet 5 (eIf (tOr (tVal (eBin opEq (eVar 4) (eC (.int 0)))) (tVal (eChain opLe opLe (eC (.int 2)) (eVar 4) (eC (.int 60))))) (eTup (aCons (eC (.str "let")) (aCons (eUn opNeg (eC (.int 1))) aNil))) (eTup (aCons (eC (.str "BadRests")) (aCons (eUn opNeg (eC (.int 1))) aNil)))))
    (sSeq (sIf (tVal (eBin opNe (eRef ["BadRests"] lm_law_1) (eVar 5))) (sRet (eC (.bl false))) sSkip)
    (sIf (tVal (eBin opNe (eRef ["BadRests"] lm_law_2) (eVar 5))) (sRet (eC (.bl false))) sSkip)))))
def B_law : SF :=
    (sSeq (sSet 1 (eFn 1 F_law_box [] (aCons (eVar 0) aNil)))
    (sSeq (sFor (iRange1 (eC (.int 6))) (bNm 2) lb_law_1)
    (sRet (eC (.bl true)))))
def F_law : FF := fnF 6 B_law
end L
namespace L
open PySem L2 J M
local macro_rules | `(tactic| walk_at "ev") => `(tactic| try simp only [fn_ap, List.map_cons, List.map_nil, List.length_cons, List.length_nil, List.cons_append, List.nil_append, List.append_nil, Nat.reduceAdd, Nat.reduceSub, Nat.zero_add, List.replicate_succ, List.replicate_zero, s_seq, s_set, s_asg, s_if, s_ret, s_expr, s_for, s_skip, s_par, s_par3, s_setI, thn_nx, thn_ret, thn_no, thn_brk, thn_cnt, thn_exc, a_var, a_c, a_bin, a_un, a_call, a_nil, a_cons, a_tup, a_lst, a_lstO, a_val, a_tand, a_tor, a_tnot, a_if, a_and, a_or, a_not, a_chain, a_fn, a_lc', a_seq, a_range1, a_zip, a_sl, a_onone, a_osome, bnd_ok, bnd_no, bnd_exc, sbd_ok, sbd_no, sbd_exc, getV_some, toB_bl, toO_int, lift_some, lift_none, seqI_lst, seqI_scr, seqI_tup, seqI_str, rng1_int, zip_lst, zip_tup, onx_some, onh_some, List.getElem?_cons_zero, List.getElem?_cons_succ, List.set_cons_zero, List.set_cons_succ, o_sub, o_add, o_lt, o_le, o_gt, o_ge, o_neg, o_eqI, o_neI, o_eqB, o_neB, o_eqS, if_true, if_false, ite_true, ite_false, decide_true, decide_false, Bool.false_eq_true, Bool.true_eq_false, reduceIte, Bool.not_true, Bool.not_false, a_frzD, frzR_obj, frzO_fl, frzO_fzn, frzR_lst, frzR_tup, frzR_int, a_newO, newO_some, lList_lst, lList_tup, a_listRngO, lrO_int, a_repO, repO_lst, chkL_some, lstOf_obj, lstO_fl, lstO_fzn, lstR_obj, lstRO_fl, lstRO_lo, lstRO_fzn, a_pop, popR_obj, a_app, appV_obj, enumI_lst, a_enum, s_augI, augV_obj, augO_int, s_setD, a_dnew, a_fld, insOf_obj, insO_ins, insOf_ins, a_meth, noX_ok, a_make, s_fldS, setF_obj, a_aApp, afterR_ok, a_lcR, a_lenSc, a_dc2, bNm_ap, obd_some, trn_nx, a_knew, s_setK, a_keysK, keysI_dK, a_dc1, a_sortSc, a_ins, a_lc2, frzO_dK, frzR_dK, a_lcP, lcP_some, rootL_obj, rootO_fl, a_dictZip, s_setApp, s_raise0, a_own, a_lenOwn, a_isiC, a_items, a_methX, a_makeX, fin_exc, a_listRng, lrD_int, a_dictD, dcp_dK, a_valsD, valsD_dT, a_dictZipT, a_valsD, valsD_dT, a_maxD, a_lc3, a_dc1T])
local macro_rules | `(tactic| walk_at "evd") => `(tactic| try simp (disch := first | decide | omega) only [o_mod, o_fdiv, o_pow, o_mul_r, o_mul_l, fn_ap, List.map_cons, List.map_nil, List.length_cons, List.length_nil, List.cons_append, List.nil_append, List.append_nil, Nat.reduceAdd, Nat.reduceSub, Nat.zero_add, List.replicate_succ, List.replicate_zero, s_seq, s_set, s_asg, s_if, s_ret, s_expr, s_for, s_skip, s_par, s_par3, s_setI, thn_nx, thn_ret, thn_no, thn_brk, thn_cnt, thn_exc, a_var, a_c, a_bin, a_un, a_call, a_nil, a_cons, a_tup, a_lst, a_lstO, a_val, a_tand, a_tor, a_tnot, a_if, a_and, a_or, a_not, a_chain, a_fn, a_lc', a_seq, a_range1, a_zip, a_sl, a_onone, a_osome, bnd_ok, bnd_no, bnd_exc, sbd_ok, sbd_no, sbd_exc, getV_some, toB_bl, toO_int, lift_some, lift_none, seqI_lst, seqI_scr, seqI_tup, seqI_str, rng1_int, zip_lst, zip_tup, onx_some, onh_some, List.getElem?_cons_zero, List.getElem?_cons_succ, List.set_cons_zero, List.set_cons_succ, o_sub, o_add, o_lt, o_le, o_gt, o_ge, o_neg, o_eqI, o_neI, o_eqB, o_neB, o_eqS, if_true, if_false, ite_true, ite_false, decide_true, decide_false, Bool.false_eq_true, Bool.true_eq_false, reduceIte, Bool.not_true, Bool.not_false, a_frzD, frzR_obj, frzO_fl, frzO_fzn, frzR_lst, frzR_tup, frzR_int, a_newO, newO_some, lList_lst, lList_tup, a_listRngO, lrO_int, a_repO, repO_lst, chkL_some, lstOf_obj, lstO_fl, lstO_fzn, lstR_obj, lstRO_fl, lstRO_lo, lstRO_fzn, a_pop, popR_obj, a_app, appV_obj, enumI_lst, a_enum, s_augI, augV_obj, augO_int, s_setD, a_dnew, a_fld, insOf_obj, insO_ins, insOf_ins, a_meth, noX_ok, a_make, s_fldS, setF_obj, a_aApp, afterR_ok, a_lcR, a_lenSc, a_dc2, bNm_ap, obd_some, trn_nx, a_knew, s_setK, a_keysK, keysI_dK, a_dc1, a_sortSc, a_ins, a_lc2, frzO_dK, frzR_dK, a_lcP, lcP_some, rootL_obj, rootO_fl, a_dictZip, s_setApp, s_raise0, a_own, a_lenOwn, a_isiC, a_items, a_methX, a_makeX, fin_exc, a_listRng, lrD_int, a_dictD, dcp_dK, a_valsD, valsD_dT, a_dictZipT, a_valsD, valsD_dT, a_maxD, a_lc3, a_dc1T])
local macro_rules | `(tactic| walk_at "eva") => `(tactic| try simp only [fn_ap, List.map_cons, List.map_nil, List.length_cons, List.length_nil, List.cons_append, List.nil_append, List.append_nil, Nat.reduceAdd, Nat.reduceSub, Nat.zero_add, List.replicate_succ, List.replicate_zero, s_seq, s_set, s_asg, s_if, s_ret, s_expr, s_for, s_skip, s_par, s_par3, s_setI, thn_nx, thn_ret, thn_no, thn_brk, thn_cnt, thn_exc, a_var, a_c, a_bin, a_un, a_call, a_nil, a_cons, a_tup, a_lst, a_lstO, a_val, a_tand, a_tor, a_tnot, a_if, a_and, a_or, a_not, a_chain, a_fn, a_lc', a_seq, a_range1, a_zip, a_sl, a_onone, a_osome, bnd_ok, bnd_no, bnd_exc, sbd_ok, sbd_no, sbd_exc, getV_some, toB_bl, toO_int, lift_some, lift_none, seqI_lst, seqI_scr, seqI_tup, seqI_str, rng1_int, zip_lst, zip_tup, onx_some, onh_some, List.getElem?_cons_zero, List.getElem?_cons_succ, List.set_cons_zero, List.set_cons_succ, o_sub, o_add, o_lt, o_le, o_gt, o_ge, o_neg, o_eqI, o_neI, o_eqB, o_neB, o_eqS, if_true, if_false, ite_true, ite_false, decide_true, decide_false, Bool.false_eq_true, Bool.true_eq_false, reduceIte, Bool.not_true, Bool.not_false, a_frzD, frzR_obj, frzO_fl, frzO_fzn, frzR_lst, frzR_tup, frzR_int, a_newO, newO_some, lList_lst, lList_tup, a_listRngO, lrO_int, a_repO, repO_lst, chkL_some, lstOf_obj, lstO_fl, lstO_fzn, lstR_obj, lstRO_fl, lstRO_lo, lstRO_fzn, a_pop, popR_obj, a_app, appV_obj, enumI_lst, a_enum, s_augI, augV_obj, augO_int, s_setD, a_dnew, a_fld, insOf_obj, insO_ins, insOf_ins, a_meth, noX_ok, a_make, s_fldS, setF_obj, a_aApp, afterR_ok, a_lcR, a_lenSc, a_dc2, bNm_ap, obd_some, trn_nx, a_knew, s_setK, a_keysK, keysI_dK, a_dc1, a_sortSc, a_ins, a_lc2, frzO_dK, frzR_dK, a_lcP, lcP_some, rootL_obj, rootO_fl, a_dictZip, s_setApp, s_raise0, a_own, a_lenOwn, a_isiC, a_items, a_methX, a_makeX, fin_exc, a_listRng, lrD_int, a_dictD, dcp_dK, a_valsD, valsD_dT, a_dictZipT, a_valsD, valsD_dT, a_maxD, a_lc3, a_dc1T, a_dcP, dcS_some, seqP_lst, a_rev, revR_lst, a_clr, clrR_obj, clrO_fl, a_ownD, isi_NoneType_list, isi_NoneType_tuple, isi_NoneType_bool, isi_NoneType_int, isi_NoneType_str, isi_bool_list, isi_bool_tuple, isi_bool_bool, isi_bool_int, isi_bool_str, isi_int_list, isi_int_tuple, isi_int_bool, isi_int_int, isi_int_str, isi_str_list, isi_str_tuple, isi_str_bool, isi_str_int, isi_str_str, isi_tuple_list, isi_tuple_tuple, isi_tuple_bool, isi_tuple_int, isi_tuple_str, isi_list_list, isi_list_tuple, isi_list_bool, isi_list_int, isi_list_str, opIsN, opNotN, VV.isObj, len_lst, len_tup, list_lst, list_tup, tuple_lst, x_lst, x_tup])
local macro_rules | `(tactic| walk_at "evad") => `(tactic| try simp (disch := first | decide | omega) only [o_mod, o_fdiv, o_pow, o_mul_r, o_mul_l, fn_ap, List.map_cons, List.map_nil, List.length_cons, List.length_nil, List.cons_append, List.nil_append, List.append_nil, Nat.reduceAdd, Nat.reduceSub, Nat.zero_add, List.replicate_succ, List.replicate_zero, s_seq, s_set, s_asg, s_if, s_ret, s_expr, s_for, s_skip, s_par, s_par3, s_setI, thn_nx, thn_ret, thn_no, thn_brk, thn_cnt, thn_exc, a_var, a_c, a_bin, a_un, a_call, a_nil, a_cons, a_tup, a_lst, a_lstO, a_val, a_tand, a_tor, a_tnot, a_if, a_and, a_or, a_not, a_chain, a_fn, a_lc', a_seq, a_range1, a_zip, a_sl, a_onone, a_osome, bnd_ok, bnd_no, bnd_exc, sbd_ok, sbd_no, sbd_exc, getV_some, toB_bl, toO_int, lift_some, lift_none, seqI_lst, seqI_scr, seqI_tup, seqI_str, rng1_int, zip_lst, zip_tup, onx_some, onh_some, List.getElem?_cons_zero, List.getElem?_cons_succ, List.set_cons_zero, List.set_cons_succ, o_sub, o_add, o_lt, o_le, o_gt, o_ge, o_neg, o_eqI, o_neI, o_eqB, o_neB, o_eqS, if_true, if_false, ite_true, ite_false, decide_true, decide_false, Bool.false_eq_true, Bool.true_eq_false, reduceIte, Bool.not_true, Bool.not_false, a_frzD, frzR_obj, frzO_fl, frzO_fzn, frzR_lst, frzR_tup, frzR_int, a_newO, newO_some, lList_lst, lList_tup, a_listRngO, lrO_int, a_repO, repO_lst, chkL_some, lstOf_obj, lstO_fl, lstO_fzn, lstR_obj, lstRO_fl, lstRO_lo, lstRO_fzn, a_pop, popR_obj, a_app, appV_obj, enumI_lst, a_enum, s_augI, augV_obj, augO_int, s_setD, a_dnew, a_fld, insOf_obj, insO_ins, insOf_ins, a_meth, noX_ok, a_make, s_fldS, setF_obj, a_aApp, afterR_ok, a_lcR, a_lenSc, a_dc2, bNm_ap, obd_some, trn_nx, a_knew, s_setK, a_keysK, keysI_dK, a_dc1, a_sortSc, a_ins, a_lc2, frzO_dK, frzR_dK, a_lcP, lcP_some, rootL_obj, rootO_fl, a_dictZip, s_setApp, s_raise0, a_own, a_lenOwn, a_isiC, a_items, a_methX, a_makeX, fin_exc, a_listRng, lrD_int, a_dictD, dcp_dK, a_valsD, valsD_dT, a_dictZipT, a_valsD, valsD_dT, a_maxD, a_lc3, a_dc1T, a_dcP, dcS_some, seqP_lst, a_rev, revR_lst, a_clr, clrR_obj, clrO_fl, a_ownD, isi_NoneType_list, isi_NoneType_tuple, isi_NoneType_bool, isi_NoneType_int, isi_NoneType_str, isi_bool_list, isi_bool_tuple, isi_bool_bool, isi_bool_int, isi_bool_str, isi_int_list, isi_int_tuple, isi_int_bool, isi_int_int, isi_int_str, isi_str_list, isi_str_tuple, isi_str_bool, isi_str_int, isi_str_str, isi_tuple_list, isi_tuple_tuple, isi_tuple_bool, isi_tuple_int, isi_tuple_str, isi_list_list, isi_list_tuple, isi_list_bool, isi_list_int, isi_list_str, opIsN, opNotN, VV.isObj, len_lst, len_tup, list_lst, list_tup, tuple_lst, x_lst, x_tup])
/-! the drawing box -/
structure Bx where
  xs : List Int
  pos : Nat
  left : Int
  cnt : Int
  seed : Int
def Bx.v (b : Bx) : VO := .fl [.lst (b.xs.map VV.int), .int b.pos, .int b.left, .int b.cnt, .int b.seed]
theorem fmod_rng (a : Int) {m : Int} (h : 0 < m) : 0 ≤ a.fmod m ∧ a.fmod m < m := by
  rw [Int.fmod_eq_emod_of_nonneg _ (by omega)]
  exact ⟨Int.emod_nonneg _ (by omega), Int.emod_lt_of_pos _ h⟩
theorem mixed_eq (a t : Int) (h : VH) : ∃ r, F_law_mixed [.int a, .int t] h = .ok (.int r) h ∧ 0 ≤ r := by
  unfold F_law_mixed B_law_mixed
  have h1 := fmod_rng (a * 48271 + t * 69621 + 12345) (m := 2147483647) (by decide)
  walk_at "evd"
  rw [fin_ret rfl]
  refine ⟨_, rfl, ?_⟩
  rw [Int.fdiv_eq_ediv_of_nonneg _ (by decide)]
  exact Int.ediv_nonneg (fmod_rng _ (by decide)).1 (by decide)
theorem take_eq {n : Nat} {h : VH} {b : Bx} {m : Int} (hb : h[n]? = some b.v) (hm : 0 < m) (hl : m.natAbs.log2 < 9000) : ∃ r b', F_law_take [.obj n, .int m] h = .ok (.int r) (h.set n (Bx.v b')) ∧ 0 ≤ r ∧ r < m := by
  obtain ⟨xs, pos, left, cnt, seed⟩ := b
  have hn : n < h.length := lt_of_get hb
  unfold Bx.v at hb
  simp only at hb
  unfold F_law_take B_law_take
  -- count
  have hb1 : (h.set n (.fl [.lst (xs.map VV.int), .int pos, .int left, .int (cnt + 1), .int seed]))[n]? = some (.fl [.lst (xs.map VV.int), .int pos, .int left, .int (cnt + 1), .int seed]) := get_set hn
  have s1 : setI h (.obj n) (.int 3) (.int (cnt + 1)) = some (h.set n (.fl [.lst (xs.map VV.int), .int pos, .int left, .int (cnt + 1), .int seed])) := set_root (j := 3) hb rfl rfl
  walk_at "ev"
  simp only [ix_root hb, at5_3]
  walk_at "ev"
  simp only [s1]
  walk_at "ev"
  simp only [ix_root hb1, at5_2]
  walk_at "ev"
  generalize eh1 : h.set n (.fl [.lst (xs.map VV.int), .int pos, .int left, .int (cnt + 1), .int seed]) = h1 at hb1
  have hn1 : n < h1.length := by rw [← eh1, List.length_set]; exact hn
  have hl1 : h1.length = h.length := by rw [← eh1, List.length_set]
  by_cases c1 : 0 < left
  · simp only [decide_eq_true c1, reduceIte]
    walk_at "ev"
    simp only [ix_root hb1, at5_2]
    walk_at "ev"
    simp (disch := omega) only [o_fdiv (j := m) (by omega) hl, o_mod (j := m) (by omega)]
    walk_at "ev"
    have s2 : setI h1 (.obj n) (.int 2) (.int (left.fdiv m)) = some (h1.set n (.fl [.lst (xs.map VV.int), .int pos, .int (left.fdiv m), .int (cnt + 1), .int seed])) := set_root (j := 2) hb1 rfl rfl
    simp only [s2]
    walk_at "ev"
    simp (disch := omega) only [o_mod (j := m) (by omega)]
    walk_at "ev"
    rw [fin_ret (by rw [List.length_set]; exact hl1)]
    refine ⟨_, ⟨xs, pos, left.fdiv m, cnt + 1, seed⟩, ?_, fmod_rng left hm⟩
    rw [← eh1, List.set_set]; rfl
  · simp only [decide_eq_false c1, Bool.false_eq_true, reduceIte]
    walk_at "ev"
    simp only [ix_root hb1, at5_1, at5_0]
    walk_at "ev"
    simp only [ix_root hb1, at5_1, at5_0]
    walk_at "ev"
    simp only [len_lst, List.length_map]
    walk_at "ev"
    by_cases c2 : (xs.length : Int) ≤ pos
    · simp only [decide_eq_true c2, reduceIte]
      walk_at "ev"
      simp only [ix_root hb1, at5_4, at5_3]
      walk_at "ev"
      simp only [ix_root hb1, at5_4, at5_3]
      walk_at "ev"
      obtain ⟨r, er, hr⟩ := mixed_eq seed (cnt + 1) h1
      simp only [er]
      walk_at "ev"
      simp (disch := omega) only [o_mod (j := m) (by omega)]
      walk_at "ev"
      rw [fin_ret hl1]
      refine ⟨_, ⟨xs, pos, left, cnt + 1, seed⟩, ?_, fmod_rng r hm⟩
      rw [← eh1]; rfl
    · simp only [decide_eq_false c2, Bool.false_eq_true, reduceIte]
      have hp : pos < xs.length := by omega
      walk_at "ev"
      simp only [ix_root hb1, at5_1, at5_0]
      walk_at "ev"
      simp only [ix_root hb1, at5_1, at5_0]
      walk_at "ev"
      have ex : atI (xs.map VV.int) (pos : Int) = some (.int xs[pos]) := atI_in (by rw [List.getElem?_map, List.getElem?_eq_getElem hp]; rfl)
      simp only [x_lst, ex]
      walk_at "ev"
      simp only [ix_root hb1, at5_1, at5_0]
      walk_at "ev"
      have s3 : setI h1 (.obj n) (.int 1) (.int ((pos : Int) + 1)) = some (h1.set n (.fl [.lst (xs.map VV.int), .int ((pos : Int) + 1), .int left, .int (cnt + 1), .int seed])) := set_root (j := 1) hb1 rfl rfl
      simp only [s3]
      walk_at "ev"
      have hb2 : (h1.set n (.fl [.lst (xs.map VV.int), .int ((pos : Int) + 1), .int left, .int (cnt + 1), .int seed]))[n]? = some (.fl [.lst (xs.map VV.int), .int ((pos : Int) + 1), .int left, .int (cnt + 1), .int seed]) := get_set hn1
      generalize eh2 : h1.set n (.fl [.lst (xs.map VV.int), .int ((pos : Int) + 1), .int left, .int (cnt + 1), .int seed]) = h2 at hb2
      have hl2 : h2.length = h.length := by rw [← eh2, List.length_set]; exact hl1
      walk_at "evd"
      by_cases c3 : xs[pos] < 10 ^ Int.toNat 18
      · simp only [decide_eq_true c3, reduceIte]
        walk_at "ev"
        simp only [ix_root hb2, at5_3]
        walk_at "ev"
        obtain ⟨r, er, hr⟩ := mixed_eq xs[pos] (cnt + 1) h2
        simp only [er]
        walk_at "ev"
        simp (disch := omega) only [o_mod (j := m) (by omega)]
        walk_at "ev"
        rw [fin_ret hl2]
        refine ⟨_, ⟨xs, pos + 1, left, cnt + 1, seed⟩, ?_, fmod_rng r hm⟩
        rw [← eh2, ← eh1, List.set_set]; rfl
      · simp only [decide_eq_false c3, Bool.false_eq_true, reduceIte]
        walk_at "ev"
        simp (disch := omega) only [o_fdiv (j := m) (by omega) hl, o_mod (j := m) (by omega)]
        walk_at "ev"
        have s4 : setI h2 (.obj n) (.int 2) (.int (xs[pos].fdiv m)) = some (h2.set n (.fl [.lst (xs.map VV.int), .int ((pos : Int) + 1), .int (xs[pos].fdiv m), .int (cnt + 1), .int seed])) := set_root (j := 2) hb2 rfl rfl
        simp only [s4]
        walk_at "ev"
        simp (disch := omega) only [o_mod (j := m) (by omega)]
        walk_at "ev"
        rw [fin_ret (by rw [List.length_set]; exact hl2)]
        refine ⟨_, ⟨xs, pos + 1, xs[pos].fdiv m, cnt + 1, seed⟩, ?_, fmod_rng xs[pos] hm⟩
        rw [← eh2, ← eh1, List.set_set, List.set_set]; rfl
theorem cut_ints (ns : List Int) (lo hi : Option Int) : ∃ ms : List Int, cut (ns.map VV.int) lo hi = ms.map VV.int ∧ ms.length ≤ ns.length := by
  refine ⟨(ns.drop (HT.sIx ns.length 0 lo)).take (HT.sIx ns.length ns.length hi - HT.sIx ns.length 0 lo), ?_, ?_⟩
  · unfold cut
    rw [List.length_map, List.map_take, List.map_drop]
  · rw [List.length_take, List.length_drop]; omega
theorem sl_scr {h : VH} {xs : List VV} {lo hi : Option Int} : opSl h (.scr xs) lo hi = some (.lst (cut xs lo hi)) := rfl
theorem box_eq (ns : List Int) : ∃ b : Bx, F_law_box [.scr (ns.map VV.int)] [] = .ok (.obj 0) [b.v] := by
  obtain ⟨ms, em, hl⟩ := cut_ints ns none (some 63)
  unfold F_law_box B_law_box
  walk_at "ev"
  simp only [sl_scr, em]
  walk_at "ev"
  have lp := for_inv (b := bNm 2) (body := sSet 1 (eBin opMod (eBin opAdd (eBin opAdd (eBin opMul (eVar 1) (eC (.int 31))) (eVar 2)) (eC (.int 17))) (eC (.int 2147483647)))) (fun ρ h => h = [] ∧ ∃ s o, ρ = [some (.scr (ns.map VV.int)), some (.int s), o]) (xs := ms.map VV.int) (ρ := [some (.scr (ns.map VV.int)), some (.int 0), none]) (h := []) ⟨rfl, 0, none, rfl⟩ (by
    rintro x hx ρ h ⟨rfl, s, o, rfl⟩
    obtain ⟨c, _, rfl⟩ := List.mem_map.mp hx
    refine ⟨_, _, _, rfl, ?_, rfl, (s * 31 + c + 17).fmod 2147483647, some (.int c), rfl⟩
    walk_at "evd")
  obtain ⟨ρ2, h2, e2, rfl, s, o, rfl⟩ := lp
  simp only [e2]
  walk_at "ev"
  simp only [sl_scr, em]
  walk_at "eva"
  simp only [List.any_cons, List.any_nil, VV.isObj, Bool.or_false, Bool.false_eq_true, false_or, List.length_cons, List.length_nil]
  rw [if_neg (by decide)]
  walk_at "ev"
  exact ⟨⟨ms, 0, 0, 0, s⟩, rfl⟩
theorem take1 (b : Bx) {m : Int} (hm : 0 < m) (hl : m < 2 ^ 200) : ∃ r b', F_law_take [.obj 0, .int m] [b.v] = .ok (.int r) [Bx.v b'] ∧ 0 ≤ r ∧ r < m := by
  have := take_eq (n := 0) (h := [b.v]) (b := b) (m := m) rfl hm (by
    have h1 : m.natAbs < 2 ^ 200 := by omega
    have := Nat.log2_lt (n := m.natAbs) (by omega) |>.mpr h1
    omega)
  exact this
/-! the one table of this law, by each rests -/
abbrev tbl07 : VV := .lst [.lst [.int 2, .int 1]]
theorem solved_bad {r : Int} {h : VH} (h0 : r ≠ 0) (hr : ¬ (2 ≤ r ∧ r ≤ 60)) : F_solved [tbl07, .int 2, .lst [.int 3], .int r] h = .exc "BadRests" ["at", "word"] [.int (-1), .str "BadRests"] h := by
  have e : F_look_rests [.int r] h = .exc "BadRests" ["at", "word"] [.int (-1), .str "BadRests"] h := by
    unfold F_look_rests B_look_rests
    walk_at "ev"
    simp only [decide_eq_false h0]
    walk_at "ev"
    by_cases c : 2 ≤ r
    · simp only [decide_eq_true c]
      walk_at "ev"
      simp only [decide_eq_false (show ¬ r ≤ 60 by omega)]
      walk_at "ev"
    · simp only [decide_eq_false c]
      walk_at "ev"
  unfold F_solved B_solved
  walk_at "ev"
  simp only [e]
  walk_at "ev"
theorem judged_bad {r : Int} {h : VH} (h0 : r ≠ 0) (hr : ¬ (2 ≤ r ∧ r ≤ 60)) : F_judged [tbl07, .int 2, .lst [.int 3], .tup [.str "found", .lst [.int 1, .int 1]], .int r] h = .exc "BadRests" ["at", "word"] [.int (-1), .str "BadRests"] h := by
  have e : F_look_rests [.int r] h = .exc "BadRests" ["at", "word"] [.int (-1), .str "BadRests"] h := by
    unfold F_look_rests B_look_rests
    walk_at "ev"
    simp only [decide_eq_false h0]
    walk_at "ev"
    by_cases c : 2 ≤ r
    · simp only [decide_eq_true c]
      walk_at "ev"
      simp only [decide_eq_false (show ¬ r ≤ 60 by omega)]
      walk_at "ev"
    · simp only [decide_eq_false c]
      walk_at "ev"
  unfold F_judged B_judged
  walk_at "ev"
  simp only [e]
  walk_at "ev"
theorem good_list {r : Int} (hr : r = 0 ∨ (2 ≤ r ∧ r ≤ 60)) : r ∈ (([0] ++ (List.range 59).map fun i : Nat => ((i : Int) + 2)) : List Int) := by
  rcases hr with rfl | ⟨h1, h2⟩
  · simp
  · refine List.mem_append_right _ (List.mem_map.mpr ⟨(r - 2).toNat, List.mem_range.mpr (by omega), by omega⟩)
theorem solved_each (o : List VV) : ∀ r ∈ (([0] ++ (List.range 59).map fun i : Nat => ((i : Int) + 2)) : List Int), F_solved [tbl07, .int 2, .lst [.int 3], .int r] [.fl o] = .ok (.tup [.str "found", .lst [.int 0, .int (if r = 0 then 3 else r.emod 1 + 3 % r)]]) [.fl o] := by
  intro r hr
  simp only [List.range, List.range.loop, List.map_cons, List.map_nil, List.cons_append, List.nil_append, List.mem_cons, List.not_mem_nil, or_false] at hr
  rcases hr with rfl | rfl | rfl | rfl | rfl | rfl | rfl | rfl | rfl | rfl | rfl | rfl | rfl | rfl | rfl | rfl | rfl | rfl | rfl | rfl | rfl | rfl | rfl | rfl | rfl | rfl | rfl | rfl | rfl | rfl | rfl | rfl | rfl | rfl | rfl | rfl | rfl | rfl | rfl | rfl | rfl | rfl | rfl | rfl | rfl | rfl | rfl | rfl | rfl | rfl | rfl | rfl | rfl | rfl | rfl | rfl | rfl | rfl | rfl | rfl <;> kernel_rfl
theorem judged_each (o : List VV) : ∀ r ∈ (([0] ++ (List.range 59).map fun i : Nat => ((i : Int) + 2)) : List Int), F_judged [tbl07, .int 2, .lst [.int 3], .tup [.str "found", .lst [.int 1, .int 1]], .int r] [.fl o] = .ok (.bl true) [.fl o] := by
  intro r hr
  simp only [List.range, List.range.loop, List.map_cons, List.map_nil, List.cons_append, List.nil_append, List.mem_cons, List.not_mem_nil, or_false] at hr
  rcases hr with rfl | rfl | rfl | rfl | rfl | rfl | rfl | rfl | rfl | rfl | rfl | rfl | rfl | rfl | rfl | rfl | rfl | rfl | rfl | rfl | rfl | rfl | rfl | rfl | rfl | rfl | rfl | rfl | rfl | rfl | rfl | rfl | rfl | rfl | rfl | rfl | rfl | rfl | rfl | rfl | rfl | rfl | rfl | rfl | rfl | rfl | rfl | rfl | rfl | rfl | rfl | rfl | rfl | rfl | rfl | rfl | rfl | rfl | rfl | rfl <;> kernel_rfl
theorem seqN {A B : SF} {ρ ρ1 : VSt} {h h1 : VH} (e : A ρ h = .nx ρ1 h1) : sSeq A B ρ h = B ρ1 h1 := by rw [s_seq, e, thn_nx]
theorem seqE {A B : SF} {ρ ρ1 : VSt} {h h1 : VH} {P : SR → Prop} (e : A ρ h = .nx ρ1 h1) (k : P (B ρ1 h1)) : P (sSeq A B ρ h) := by rw [seqN e]; exact k
theorem ne_let {h : VH} : opNe h (.tup [.str "let", .int (-1)]) (.tup [.str "let", .int (-1)]) = some (.bl false) := by kernel_rfl
theorem ne_bad {h : VH} : opNe h (.tup [.str "BadRests", .int (-1)]) (.tup [.str "BadRests", .int (-1)]) = some (.bl false) := by kernel_rfl
def Nx07 (x0 : Option VV) (r : SR) : Prop := ∃ (b' : Bx) (p2 p3 p4 p5 : Option VV), r = .nx [x0, some (.obj 0), p2, p3, p4, p5] [b'.v]
theorem pick9 (l : List Int) (hl : l.length = 9) {r : Int} (h0 : 0 ≤ r) (h1 : r < 9) : ∃ f, f ∈ l ∧ ∀ h : VH, opIx h (.lst (l.map VV.int)) (.int r) = some (.int f) := by
  obtain ⟨n, rfl⟩ := Int.eq_ofNat_of_zero_le h0
  have hn : n < l.length := by omega
  refine ⟨l[n], List.getElem_mem hn, fun h => ?_⟩
  rw [x_lst]
  exact atI_in (by rw [List.getElem?_map, List.getElem?_eq_getElem hn]; rfl)
theorem turn07 (b : Bx) {x0 o2 o3 o4 o5 : Option VV} : Nx07 x0 (lb_law_1 [x0, some (.obj 0), o2, o3, o4, o5] [b.v]) := by
  obtain ⟨a1, b1, e1, a10, a11⟩ := take1 b (m := 100) (by decide) (by decide)
  obtain ⟨a2, b2, e2, a20, a21⟩ := take1 b1 (m := 10 ^ Int.toNat 20) (by decide) (by decide)
  obtain ⟨a3, b3, e3, a30, a31⟩ := take1 b2 (m := 59) (by decide) (by decide)
  obtain ⟨a4, b4, e4, a40, a41⟩ := take1 b3 (m := 9) (by decide) (by decide)
  obtain ⟨f, hf, ex⟩ := pick9 [0, 1, 2, 60, 61, -1, -2 - a1, 62 + a2, 2 + a3] rfl a40 a41
  simp only [List.map_cons, List.map_nil] at ex
  have n9 : ∀ a b c : Int, ¬ (([VV.int 0, VV.int 1, VV.int 2, VV.int 60, VV.int 61, VV.int (-1), VV.int a, VV.int b, VV.int c] : List VV).any VV.isObj = true ∨ 9 > SZ) := fun a b c => by
    simp only [List.any_cons, List.any_nil, VV.isObj, Bool.or_false, Bool.false_eq_true, false_or]; decide
  have n2 : ∀ (s : Str) (x : Int), ¬ (([VV.str s, VV.int x] : List VV).any VV.isObj = true ∨ 2 > SZ) := fun s x => by
    simp only [List.any_cons, List.any_nil, VV.isObj, Bool.or_false, Bool.false_eq_true, false_or]; decide
  unfold lb_law_1
  apply seqE (ρ1 := [x0, some (.obj 0), o2, some (.lst ([0, 1, 2, 60, 61, -1, -2 - a1, 62 + a2, 2 + a3].map VV.int)), o4, o5]) (h1 := [b3.v])
  · walk_at "ev"
    simp only [e1]
    walk_at "evd"
    simp only [e2]
    walk_at "evd"
    simp only [e3]
    walk_at "evd"
    first | done | (rw [if_neg (n9 _ _ _)]; walk_at "ev")
  apply seqE (ρ1 := [x0, some (.obj 0), o2, some (.lst ([0, 1, 2, 60, 61, -1, -2 - a1, 62 + a2, 2 + a3].map VV.int)), some (.int f), o5]) (h1 := [b4.v])
  · walk_at "ev"
    simp only [e4]
    walk_at "ev"
    simp only [ex]
    walk_at "ev"
  by_cases g : f = 0 ∨ (2 ≤ f ∧ f ≤ 60)
  · have gl := good_list g
    have s := solved_each [.int 0] f gl
    apply seqE (ρ1 := [x0, some (.obj 0), o2, some (.lst ([0, 1, 2, 60, 61, -1, -2 - a1, 62 + a2, 2 + a3].map VV.int)), some (.int f), some (.tup [.str "let", .int (-1)])]) (h1 := [b4.v])
    · walk_at "ev"
      by_cases c0 : f = 0
      · simp only [decide_eq_true c0]
        walk_at "ev"
        first | done | (rw [if_neg (n2 _ _)]; walk_at "ev")
      · have c1 : 2 ≤ f := by omega
        have c2 : f ≤ 60 := by omega
        simp only [decide_eq_false c0]
        walk_at "ev"
        simp only [decide_eq_true c1]
        walk_at "ev"
        simp only [decide_eq_true c2]
        walk_at "ev"
        first | done | (rw [if_neg (n2 _ _)]; walk_at "ev")
    have er1 : ∀ o3 : Option VV, eRef ["BadRests"] lm_law_1 [x0, some (.obj 0), o2, o3, some (.int f), some (.tup [.str "let", .int (-1)])] [b4.v] = .ok (.tup [.str "let", .int (-1)]) [b4.v] := fun o3 => by
      refine a_ref_ok (v := .tup [.str "found", .lst [.int 0, .int (if f = 0 then 3 else f.emod 1 + 3 % f)]]) ?_
      walk_at "ev"
      exact solved_each _ f gl
    have er2 : ∀ o3 : Option VV, eRef ["BadRests"] lm_law_2 [x0, some (.obj 0), o2, o3, some (.int f), some (.tup [.str "let", .int (-1)])] [b4.v] = .ok (.tup [.str "let", .int (-1)]) [b4.v] := fun o3 => by
      refine a_ref_ok (v := .bl true) ?_
      walk_at "ev"
      exact judged_each _ f gl
    refine ⟨b4, o2, some (.lst ([0, 1, 2, 60, 61, -1, -2 - a1, 62 + a2, 2 + a3].map VV.int)), some (.int f), some (.tup [.str "let", .int (-1)]), ?_⟩
    · walk_at "ev"
      simp only [er1]
      walk_at "ev"
      simp only [ne_let]
      walk_at "ev"
      simp only [er2]
      walk_at "ev"
      simp only [ne_let]
      walk_at "ev"
  · have c0 : f ≠ 0 := fun z => g (.inl z)
    have cb : ¬ (2 ≤ f ∧ f ≤ 60) := fun z => g (.inr z)
    apply seqE (ρ1 := [x0, some (.obj 0), o2, some (.lst ([0, 1, 2, 60, 61, -1, -2 - a1, 62 + a2, 2 + a3].map VV.int)), some (.int f), some (.tup [.str "BadRests", .int (-1)])]) (h1 := [b4.v])
    · walk_at "ev"
      simp only [decide_eq_false c0]
      walk_at "ev"
      by_cases c1 : 2 ≤ f
      · simp only [decide_eq_true c1]
        walk_at "ev"
        simp only [decide_eq_false (show ¬ f ≤ 60 by omega)]
        walk_at "ev"
        first | done | (rw [if_neg (n2 _ _)]; walk_at "ev")
      · simp only [decide_eq_false c1]
        walk_at "ev"
        first | done | (rw [if_neg (n2 _ _)]; walk_at "ev")
    have er1 : ∀ o3 : Option VV, eRef ["BadRests"] lm_law_1 [x0, some (.obj 0), o2, o3, some (.int f), some (.tup [.str "BadRests", .int (-1)])] [b4.v] = .ok (.tup [.str "BadRests", .int (-1)]) [b4.v] := fun o3 => by
      refine a_ref_exc ?_ (by simp)
      walk_at "ev"
      exact solved_bad c0 cb
    have er2 : ∀ o3 : Option VV, eRef ["BadRests"] lm_law_2 [x0, some (.obj 0), o2, o3, some (.int f), some (.tup [.str "BadRests", .int (-1)])] [b4.v] = .ok (.tup [.str "BadRests", .int (-1)]) [b4.v] := fun o3 => by
      refine a_ref_exc ?_ (by simp)
      walk_at "ev"
      exact judged_bad c0 cb
    refine ⟨b4, o2, some (.lst ([0, 1, 2, 60, 61, -1, -2 - a1, 62 + a2, 2 + a3].map VV.int)), some (.int f), some (.tup [.str "BadRests", .int (-1)]), ?_⟩
    · walk_at "ev"
      simp only [er1]
      walk_at "ev"
      simp only [ne_bad]
      walk_at "ev"
      simp only [er2]
      walk_at "ev"
      simp only [ne_bad]
      walk_at "ev"
theorem law_true : ∀ ns : List Int, ns.length ≤ 63 → (∀ z ∈ ns, Builtin.Int.intBits z ≤ 1048576) → ∃ h', F_law [.scr (ns.map VV.int)] [] = .ok (.bl true) h' := by
  intro ns _ _
  obtain ⟨b0, e0⟩ := box_eq ns
  have key : ∃ h', B_law [some (.scr (ns.map VV.int)), none, none, none, none, none] [] = .ret (.bl true) h' := by
    unfold B_law
    apply seqE (P := fun r => ∃ h', r = .ret (.bl true) h')
    · walk_at "ev"
      simp only [e0]
      walk_at "ev"
      first | done | rfl
    have it : ∀ (ρ : VSt) (h : VH), iRange1 (eC (.int 6)) ρ h = .ok (([0, 1, 2, 3, 4, 5] : List Int).map VV.int) h := fun _ _ => rfl
    obtain ⟨ρ2, h2, e8, b8, p2, p3, p4, p5, rfl, rfl⟩ := for_pre (b := bNm 2) (body := lb_law_1) VV.int
      (fun pre ρ h => ∃ (b : Bx) (p2 p3 p4 p5 : Option VV), ρ = [some (.scr (ns.map VV.int)), some (.obj 0), p2, p3, p4, p5] ∧ h = [b.v])
      ([0, 1, 2, 3, 4, 5] : List Int) (ρ := [some (.scr (ns.map VV.int)), some (.obj 0), none, none, none, none]) (h := [b0.v]) ⟨b0, none, none, none, none, rfl, rfl⟩ (by
        rintro pre s post ey ρ h ⟨b, p2, p3, p4, p5, rfl, rfl⟩
        obtain ⟨b', q2, q3, q4, q5, e⟩ := turn07 b (x0 := some (.scr (ns.map VV.int))) (o2 := some (.int s)) (o3 := p3) (o4 := p4) (o5 := p5)
        exact ⟨_, _, _, rfl, e, b', _, _, _, _, rfl, rfl⟩)
    apply seqE (P := fun r => ∃ h', r = .ret (.bl true) h')
    · rw [s_for, it, sbd_ok]
      exact e8
    walk_at "ev"
    exact ⟨_, rfl⟩
  obtain ⟨h', e⟩ := key
  unfold F_law
  simp only [fn_ap, List.map_cons, List.map_nil, List.length_cons, List.length_nil, List.cons_append, List.nil_append, Nat.reduceAdd, Nat.reduceSub, List.replicate_succ, List.replicate_zero]
  rw [e]
  exact ⟨_, rfl⟩
end L
namespace L
open PySem L2 J
structure Blt (K : PySem.W.Frag) (mg : Str → Option Value) : Prop where
  n_ValueError : mg "ValueError" = none
  n_abs : mg "abs" = none
  n_any : mg "any" = none
  n_enumerate : mg "enumerate" = none
  n_int : mg "int" = none
  n_isinstance : mg "isinstance" = none
  n_len : mg "len" = none
  n_list : mg "list" = none
  n_max : mg "max" = none
  n_range : mg "range" = none
  n_sum : mg "sum" = none
  n_zip : mg "zip" = none
  g_RESTS_MOST : ∃ t, mg "RESTS_MOST" = some (.int 60 t)
  g_WHOLE : ∃ t, mg "WHOLE" = some (.int 0 t)
  f_Form_left : ∀ C, mg "Form" = some (.ref C) → Cls K C ∧ NoAttr K C "left"
  f_Form_level : ∀ C, mg "Form" = some (.ref C) → Cls K C ∧ NoAttr K C "level"
  f_Form_right : ∀ C, mg "Form" = some (.ref C) → Cls K C ∧ NoAttr K C "right"
  f_Form_steps : ∀ C, mg "Form" = some (.ref C) → Cls K C ∧ NoAttr K C "steps"
  f_Form_unleft : ∀ C, mg "Form" = some (.ref C) → Cls K C ∧ NoAttr K C "unleft"
  f_Form_unright : ∀ C, mg "Form" = some (.ref C) → Cls K C ∧ NoAttr K C "unright"
  f_Form_wide : ∀ C, mg "Form" = some (.ref C) → Cls K C ∧ NoAttr K C "wide"
section
variable {P : Program} {w : World} {K : PySem.W.Frag} {mg : Str → Option Value} {base : Heap}
theorem sc_WebError_init : FnScope ["self", "word", "at"] ["self", "word", "at"] (defScope s_WebError_init) := ⟨rfl, rfl, rfl, by decide +kernel, rfl, by decide +kernel, by decide +kernel⟩
theorem we_L {f : Addr} {fd : FuncData} {dvs : List V} {kws : List (Str × V)} (D : Dm K "__init__" "WebError.__init__" s_WebError_init dvs kws f fd) : FnOk P w K mg base (L2N.CX P w) 1 f fd ["self", "word", "at"] (spWE K) := we_fn D.F sc_WebError_init rfl (.inl rfl) (.inl rfl) (.inl rfl)
theorem sc_BadRests_init : FnScope ["self", "at"] ["self", "at"] (defScope s_BadRests_init) := ⟨rfl, rfl, rfl, by decide +kernel, rfl, by decide +kernel, by decide +kernel⟩
theorem ox_BadRests {f fB B : Addr} {fd fdB : FuncData} (D : Dm K "__init__" "BadRests.__init__" s_BadRests_init [.int (-1)] [] f fd) (mW : mg "WebError" = some (.ref B)) (rd : ClX.CRead K B (.type "type")) (cv : PySem.W.findCls K (.ref B) (.type "type") "__init__" = some (.val (.ref fB))) (kB : PySem.W.keepIn K (.ref fB) = true) (FB : FnOk P w K mg base (L2N.CX P w) 1 fB fdB ["self", "word", "at"] (spWE K)) (hbB : Binds K fdB ["self", "word", "at"] []) : FnOk P w K mg base (L2N.CX P w) 2 f fd ["self", "at"] (spOX K "BadRests") :=
  ox_fn D.F sc_BadRests_init rfl (.inl rfl) (.inl rfl) rfl mW rd cv kB FB hbB (fun env => ⟨_, rfl⟩)
theorem sc_law_kinds : FnScope ["_law_e", "_law_h", "_law_w", "_law_at"] ["_law_e"] (defScope s_law_kinds) := ⟨rfl, rfl, rfl, by decide +kernel, rfl, by decide +kernel, by decide +kernel⟩
theorem sc_law_refusal : FnScope ["_law_ask", "_law_found", "_law_kinds_here", "_law_e"] ["_law_ask"] (defScope s_law_refusal) := ⟨rfl, rfl, rfl, by decide +kernel, rfl, by decide +kernel, by decide +kernel⟩
theorem kinds_L (B : Blt K mg) {WE f : Addr} {k : Nat} : KindsOk P w K mg base WE k (defBody s_law_kinds) (defScope s_law_kinds) f := by
  intro cdv A outer s H a C dd oe x i R hz hf hd hot hr
  obtain ⟨C0, m0, k0⟩ := R.ks 0 (by decide)
  replace m0 : mg "BadFace" = some (.ref C0) := m0
  obtain ⟨C1, m1, k1⟩ := R.ks 1 (by decide)
  replace m1 : mg "Full" = some (.ref C1) := m1
  obtain ⟨C2, m2, k2⟩ := R.ks 2 (by decide)
  replace m2 : mg "BadSize" = some (.ref C2) := m2
  obtain ⟨C3, m3, k3⟩ := R.ks 3 (by decide)
  replace m3 : mg "BadRow" = some (.ref C3) := m3
  obtain ⟨C4, m4, k4⟩ := R.ks 4 (by decide)
  replace m4 : mg "BadRests" = some (.ref C4) := m4
  obtain ⟨C5, m5, k5⟩ := R.ks 5 (by decide)
  replace m5 : mg "NotShut" = some (.ref C5) := m5
  obtain ⟨C6, m6, k6⟩ := R.ks 6 (by decide)
  replace m6 : mg "BadMap" = some (.ref C6) := m6
  obtain ⟨C7, m7, k7⟩ := R.ks 7 (by decide)
  replace m7 : mg "NotFace" = some (.ref C7) := m7
  obtain ⟨C8, m8, k8⟩ := R.ks 8 (by decide)
  replace m8 : mg "NotNear" = some (.ref C8) := m8
  obtain ⟨C9, m9, k9⟩ := R.ks 9 (by decide)
  replace m9 : mg "NoFace" = some (.ref C9) := m9
  obtain ⟨C10, m10, k10⟩ := R.ks 10 (by decide)
  replace m10 : mg "NotFree" = some (.ref C10) := m10
  obtain ⟨C11, m11, k11⟩ := R.ks 11 (by decide)
  replace m11 : mg "BadName" = some (.ref C11) := m11
  obtain ⟨C12, m12, k12⟩ := R.ks 12 (by decide)
  replace m12 : mg "Taken" = some (.ref C12) := m12
  obtain ⟨C13, m13, k13⟩ := R.ks 13 (by decide)
  replace m13 : mg "NoWeb" = some (.ref C13) := m13
  obtain ⟨C14, m14, k14⟩ := R.ks 14 (by decide)
  replace m14 : mg "NoRow" = some (.ref C14) := m14
  obtain ⟨C15, m15, k15⟩ := R.ks 15 (by decide)
  replace m15 : mg "BadKind" = some (.ref C15) := m15
  obtain ⟨C16, m16, k16⟩ := R.ks 16 (by decide)
  replace m16 : mg "Unlike" = some (.ref C16) := m16
  obtain ⟨C17, m17, k17⟩ := R.ks 17 (by decide)
  replace m17 : mg "Had" = some (.ref C17) := m17
  obtain ⟨C18, m18, k18⟩ := R.ks 18 (by decide)
  replace m18 : mg "NothingLeft" = some (.ref C18) := m18
  obtain ⟨C19, m19, k19⟩ := R.ks 19 (by decide)
  replace m19 : mg "BadText" = some (.ref C19) := m19
  exact (js_cons (js_set (i := 1) sc_law_kinds.nd rfl (by first | exact Or.inl rfl | exact Or.inr rfl) (j_lst (ja_cons (j_isE (i := 0) (List.mem_cons_self ..) R.ec hz hf hd (by intro z; cases z) (by rfl) B.n_isinstance rfl (.inl rfl) (by rfl) m0 k0) (ja_cons (j_isE (i := 0) (List.mem_cons_self ..) R.ec hz hf hd (by intro z; cases z) (by rfl) B.n_isinstance rfl (.inl rfl) (by rfl) m1 k1) (ja_cons (j_isE (i := 0) (List.mem_cons_self ..) R.ec hz hf hd (by intro z; cases z) (by rfl) B.n_isinstance rfl (.inl rfl) (by rfl) m2 k2) (ja_cons (j_isE (i := 0) (List.mem_cons_self ..) R.ec hz hf hd (by intro z; cases z) (by rfl) B.n_isinstance rfl (.inl rfl) (by rfl) m3 k3) ja_nil))))))
      (js_cons (js_set (i := 1) sc_law_kinds.nd rfl (by first | exact Or.inl rfl | exact Or.inr rfl) (j_bin or_add (j_var 1 (pv 1)) (j_lst (ja_cons (j_isE (i := 0) (List.mem_cons_self ..) R.ec hz hf hd (by intro z; cases z) (by rfl) B.n_isinstance rfl (.inl rfl) (by rfl) m4 k4) (ja_cons (j_isE (i := 0) (List.mem_cons_self ..) R.ec hz hf hd (by intro z; cases z) (by rfl) B.n_isinstance rfl (.inl rfl) (by rfl) m5 k5) (ja_cons (j_isE (i := 0) (List.mem_cons_self ..) R.ec hz hf hd (by intro z; cases z) (by rfl) B.n_isinstance rfl (.inl rfl) (by rfl) m6 k6) (ja_cons (j_isE (i := 0) (List.mem_cons_self ..) R.ec hz hf hd (by intro z; cases z) (by rfl) B.n_isinstance rfl (.inl rfl) (by rfl) m7 k7) ja_nil)))))))
      (js_cons (js_set (i := 1) sc_law_kinds.nd rfl (by first | exact Or.inl rfl | exact Or.inr rfl) (j_bin or_add (j_var 1 (pv 1)) (j_lst (ja_cons (j_isE (i := 0) (List.mem_cons_self ..) R.ec hz hf hd (by intro z; cases z) (by rfl) B.n_isinstance rfl (.inl rfl) (by rfl) m8 k8) (ja_cons (j_isE (i := 0) (List.mem_cons_self ..) R.ec hz hf hd (by intro z; cases z) (by rfl) B.n_isinstance rfl (.inl rfl) (by rfl) m9 k9) (ja_cons (j_isE (i := 0) (List.mem_cons_self ..) R.ec hz hf hd (by intro z; cases z) (by rfl) B.n_isinstance rfl (.inl rfl) (by rfl) m10 k10) (ja_cons (j_isE (i := 0) (List.mem_cons_self ..) R.ec hz hf hd (by intro z; cases z) (by rfl) B.n_isinstance rfl (.inl rfl) (by rfl) m11 k11) ja_nil)))))))
      (js_cons (js_set (i := 1) sc_law_kinds.nd rfl (by first | exact Or.inl rfl | exact Or.inr rfl) (j_bin or_add (j_var 1 (pv 1)) (j_lst (ja_cons (j_isE (i := 0) (List.mem_cons_self ..) R.ec hz hf hd (by intro z; cases z) (by rfl) B.n_isinstance rfl (.inl rfl) (by rfl) m12 k12) (ja_cons (j_isE (i := 0) (List.mem_cons_self ..) R.ec hz hf hd (by intro z; cases z) (by rfl) B.n_isinstance rfl (.inl rfl) (by rfl) m13 k13) (ja_cons (j_isE (i := 0) (List.mem_cons_self ..) R.ec hz hf hd (by intro z; cases z) (by rfl) B.n_isinstance rfl (.inl rfl) (by rfl) m14 k14) (ja_cons (j_isE (i := 0) (List.mem_cons_self ..) R.ec hz hf hd (by intro z; cases z) (by rfl) B.n_isinstance rfl (.inl rfl) (by rfl) m15 k15) ja_nil)))))))
      (js_cons (js_set (i := 1) sc_law_kinds.nd rfl (by first | exact Or.inl rfl | exact Or.inr rfl) (j_bin or_add (j_var 1 (pv 1)) (j_lst (ja_cons (j_isE (i := 0) (List.mem_cons_self ..) R.ec hz hf hd (by intro z; cases z) (by rfl) B.n_isinstance rfl (.inl rfl) (by rfl) m16 k16) (ja_cons (j_isE (i := 0) (List.mem_cons_self ..) R.ec hz hf hd (by intro z; cases z) (by rfl) B.n_isinstance rfl (.inl rfl) (by rfl) m17 k17) (ja_cons (j_isE (i := 0) (List.mem_cons_self ..) R.ec hz hf hd (by intro z; cases z) (by rfl) B.n_isinstance rfl (.inl rfl) (by rfl) m18 k18) (ja_cons (j_isE (i := 0) (List.mem_cons_self ..) R.ec hz hf hd (by intro z; cases z) (by rfl) B.n_isinstance rfl (.inl rfl) (by rfl) m19 k19) ja_nil)))))))
      (js_cons (js_set (i := 2) sc_law_kinds.nd rfl (by first | exact Or.inl rfl | exact Or.inr rfl) j_str)
      (js_cons (js_set (i := 2) sc_law_kinds.nd rfl (by first | exact Or.inl rfl | exact Or.inr rfl) (j_split (j_bin or_add (j_var 2 (pv 2)) j_str) j_str))
      (js_one (js_ret (j_lcH ⟨_, hot, List.mem_cons_self ..⟩ sc_law_kinds.nd (ji_range1H (by rfl) B.n_range j_int) (blkOk_by (own := [("_law_at", 3)]) (by kernel_rfl)) (fun _ _ _ _ _ => (pg_name (i := 3) sc_law_kinds.nd rfl (by first | exact Or.inl rfl | exact Or.inr rfl))) (pat_nm 3) (fun _ _ _ _ _ => (jts_one (jt_val (j_ix ir_ix (j_var 1 (pv 1)) (j_var 3 (pv 3)) (fun _ _ => rfl))))) (fun _ _ _ _ _ => (j_ix ir_ix (j_var 2 (pv 2)) (j_var 3 (pv 3)) (fun _ _ => rfl)))))))))))))
theorem okR_L (B : Blt K mg) {WE g0 fk : Addr} {fdg fdk : FuncData} (mw : mg "WebError" = some (.ref WE)) (Dr : Dm K "_law_refusal" "_law_refusal" s_law_refusal [] [] g0 fdg) (hmr : mg "_law_refusal" = some (.ref g0)) (Dk : Dm K "_law_kinds" "_law_kinds" s_law_kinds [] [] fk fdk) (hmk : mg "_law_kinds" = some (.ref fk)) (RX : ∀ x ∈ (["BadRests"] : List Str), ∃ i C, RefC K mg WE x i C) : OkR P w K mg base ["BadRests"] 0 :=
  ⟨g0, hmr, Dr.F.kp, fun X hP hw hK hm hb => by
    subst hP hw hK hm hb
    exact fun W fb k params body scope hr hk L hbind hbody pins s1 σ H1 Q g ρ h0 f c' pm2 ctv I1 hf hfn hfr hco rh1 rs pp => ref_run hmr Dr.F sc_law_refusal (Dr.F.bindsN (fun _ _ _ _ _ _ us hl => match us, hl with | [_], _ => rfl)) rfl rfl rfl rfl rfl rfl rfl rfl rfl B.n_isinstance B.n_ValueError mw Dk.F sc_law_kinds hmk (Dk.F.bindsN (fun _ _ _ _ _ _ us hl => match us, hl with | [_], _ => rfl)) (kinds_L B) RX hr hk L hbind hbody I1 hf hfn hfr hco rh1 rs pp⟩
theorem sc_law_box : FnScope ["_law_script", "_law_seed", "_law_cell"] ["_law_script"] (defScope s_law_box) := ⟨rfl, rfl, rfl, by decide +kernel, rfl, by decide +kernel, by decide +kernel⟩
theorem fn_law_box (B : Blt K mg) {f : Addr} {fd : FuncData} (D : Dm K "_law_box" "_law_box" s_law_box [] [] f fd) : FnOk P w K mg base (L2N.CX P w) 1 f fd ["_law_script"] (spF ⟨K, mg⟩ 1 F_law_box) :=
  fnokM_of (k := 0) (N := ["_law_script", "_law_seed", "_law_cell"]) (n := 3) D sc_law_box rfl (by decide) rfl fun cdv A outer s H E hr =>
      (js_cons (js_set (i := 1) sc_law_box.nd rfl (by first | exact Or.inl rfl | exact Or.inr rfl) j_int)
      (js_cons (js_for (passes_of rfl) rfl (ji_seq (j_sl (j_var 0 (pv 0)) jo_none (jo_some j_int))) (pg_name (i := 2) sc_law_box.nd rfl (by first | exact Or.inl rfl | exact Or.inr rfl)) (pat_nm 2) (js_one (js_set (i := 1) sc_law_box.nd rfl (by first | exact Or.inl rfl | exact Or.inr rfl) (j_bin or_mod (j_bin or_add (j_bin or_add (j_bin or_mul (j_var 1 (pv 1)) j_int) (j_var 2 (pv 2))) j_int) j_int))))
      (js_one (js_ret (j_lstO (ja_cons (j_callTy cr_listJ (by rfl) B.n_list (by decide +kernel) (ja_cons (j_sl (j_var 0 (pv 0)) jo_none (jo_some j_int)) ja_nil)) (ja_cons j_int (ja_cons j_int (ja_cons j_int (ja_cons (j_var 1 (pv 1)) ja_nil))))))))))
theorem ok_law_box_L0 (B : Blt K mg) {f : Addr} {fd : FuncData} (D : Dm K "_law_box" "_law_box" s_law_box [] [] f fd) (hm : mg "_law_box" = some (.ref f)) : Ok1 P w K mg base 1 "_law_box" 1 [] F_law_box := ok_of ⟨D.F, hm⟩ (fn_law_box B D) (fun _ _ _ _ _ _ us hl => match us, hl with | [_], _ => rfl)
theorem sc_law_mixed : FnScope ["_law_number", "_law_turn", "_law_one", "_law_two"] ["_law_number", "_law_turn"] (defScope s_law_mixed) := ⟨rfl, rfl, rfl, by decide +kernel, rfl, by decide +kernel, by decide +kernel⟩
theorem fn_law_mixed (B : Blt K mg) {f : Addr} {fd : FuncData} (D : Dm K "_law_mixed" "_law_mixed" s_law_mixed [] [] f fd) : FnOk P w K mg base (L2N.CX P w) 1 f fd ["_law_number", "_law_turn"] (spF ⟨K, mg⟩ 2 F_law_mixed) :=
  fnokM_of (k := 0) (N := ["_law_number", "_law_turn", "_law_one", "_law_two"]) (n := 4) D sc_law_mixed rfl (by decide) rfl fun cdv A outer s H E hr =>
      (js_cons (js_set (i := 2) sc_law_mixed.nd rfl (by first | exact Or.inl rfl | exact Or.inr rfl) (j_bin or_mod (j_bin or_add (j_bin or_add (j_bin or_mul (j_var 0 (pv 0)) j_int) (j_bin or_mul (j_var 1 (pv 1)) j_int)) j_int) j_int))
      (js_cons (js_set (i := 3) sc_law_mixed.nd rfl (by first | exact Or.inl rfl | exact Or.inr rfl) (j_bin or_mod (j_bin or_add (j_bin or_add (j_bin or_mul (j_var 2 (pv 2)) (j_bin or_add (j_bin or_mod (j_var 2 (pv 2)) j_int) j_int)) (j_bin or_mul (j_var 1 (pv 1)) j_int)) (j_bin or_mod (j_var 0 (pv 0)) j_int)) j_int))
      (js_one (js_ret (j_bin or_fdiv (j_var 3 (pv 3)) j_int)))))
theorem ok_law_mixed_L0 (B : Blt K mg) {f : Addr} {fd : FuncData} (D : Dm K "_law_mixed" "_law_mixed" s_law_mixed [] [] f fd) (hm : mg "_law_mixed" = some (.ref f)) : Ok1 P w K mg base 1 "_law_mixed" 2 [] F_law_mixed := ok_of ⟨D.F, hm⟩ (fn_law_mixed B D) (fun _ _ _ _ _ _ us hl => match us, hl with | [_, _], _ => rfl)
theorem sc_law_take : FnScope ["_law_box_here", "_law_many", "_law_cell", "_law_left"] ["_law_box_here", "_law_many"] (defScope s_law_take) := ⟨rfl, rfl, rfl, by decide +kernel, rfl, by decide +kernel, by decide +kernel⟩
theorem fn_law_take (B : Blt K mg) {f : Addr} {fd : FuncData} (D : Dm K "_law_take" "_law_take" s_law_take [] [] f fd) (O_law_mixed_L0 : Ok1 P w K mg base 1 "_law_mixed" 2 [] F_law_mixed) : FnOk P w K mg base (L2N.CX P w) 2 f fd ["_law_box_here", "_law_many"] (spF ⟨K, mg⟩ 2 F_law_take) :=
  fnokM_of (k := 1) (N := ["_law_box_here", "_law_many", "_law_cell", "_law_left"]) (n := 4) D sc_law_take rfl (by decide) rfl fun cdv A outer s H E hr =>
      (js_cons (js_setI (j_bin or_add (j_ix ir_ix (j_var 0 (pv 0)) j_int (fun _ _ => rfl)) j_int) (j_var 0 (pv 0)) j_int)
      (js_cons (js_if (jt_cmp or_gt (j_ix ir_ix (j_var 0 (pv 0)) j_int (fun _ _ => rfl)) j_int (nomark _)) (js_cons (js_set (i := 3) sc_law_take.nd rfl (by first | exact Or.inl rfl | exact Or.inr rfl) (j_ix ir_ix (j_var 0 (pv 0)) j_int (fun _ _ => rfl)))
      (js_cons (js_setI (j_bin or_fdiv (j_var 3 (pv 3)) (j_var 1 (pv 1))) (j_var 0 (pv 0)) j_int)
      (js_one (js_ret (j_bin or_mod (j_var 3 (pv 3)) (j_var 1 (pv 1))))))) js_nil)
      (js_cons (js_if (jt_cmp or_ge (j_ix ir_ix (j_var 0 (pv 0)) j_int (fun _ _ => rfl)) (j_callB cr_len (by rfl) B.n_len (by decide +kernel) (ja_cons (j_ix ir_ix (j_var 0 (pv 0)) j_int (fun _ _ => rfl)) ja_nil)) (nomark _)) (js_one (js_ret (j_bin or_mod (j_callO O_law_mixed_L0 (hr.mono (by decide)) (by rfl) (L2N.takes_of rfl rfl rfl rfl) (ja_cons (j_ix ir_ix (j_var 0 (pv 0)) j_int (fun _ _ => rfl)) (ja_cons (j_ix ir_ix (j_var 0 (pv 0)) j_int (fun _ _ => rfl)) ja_nil))) (j_var 1 (pv 1))))) js_nil)
      (js_cons (js_set (i := 2) sc_law_take.nd rfl (by first | exact Or.inl rfl | exact Or.inr rfl) (j_ix ir_ix (j_ix ir_ix (j_var 0 (pv 0)) j_int (fun _ _ => rfl)) (j_ix ir_ix (j_var 0 (pv 0)) j_int (fun _ _ => rfl)) (fun _ _ => rfl)))
      (js_cons (js_setI (j_bin or_add (j_ix ir_ix (j_var 0 (pv 0)) j_int (fun _ _ => rfl)) j_int) (j_var 0 (pv 0)) j_int)
      (js_cons (js_if (jt_cmp or_lt (j_var 2 (pv 2)) (j_bin or_pow j_int j_int) (nomark _)) (js_one (js_ret (j_bin or_mod (j_callO O_law_mixed_L0 (hr.mono (by decide)) (by rfl) (L2N.takes_of rfl rfl rfl rfl) (ja_cons (j_var 2 (pv 2)) (ja_cons (j_ix ir_ix (j_var 0 (pv 0)) j_int (fun _ _ => rfl)) ja_nil))) (j_var 1 (pv 1))))) js_nil)
      (js_cons (js_setI (j_bin or_fdiv (j_var 2 (pv 2)) (j_var 1 (pv 1))) (j_var 0 (pv 0)) j_int)
      (js_one (js_ret (j_bin or_mod (j_var 2 (pv 2)) (j_var 1 (pv 1))))))))))))
theorem ok_law_take_L0 (B : Blt K mg) {f : Addr} {fd : FuncData} (D : Dm K "_law_take" "_law_take" s_law_take [] [] f fd) (O_law_mixed_L0 : Ok1 P w K mg base 1 "_law_mixed" 2 [] F_law_mixed) (hm : mg "_law_take" = some (.ref f)) : Ok1 P w K mg base 2 "_law_take" 2 [] F_law_take := ok_of ⟨D.F, hm⟩ (fn_law_take B D O_law_mixed_L0) (fun _ _ _ _ _ _ us hl => match us, hl with | [_, _], _ => rfl)
theorem sc_look_rests : FnScope ["rests"] ["rests"] (defScope s_look_rests) := ⟨rfl, rfl, rfl, by decide +kernel, rfl, by decide +kernel, by decide +kernel⟩
theorem fn_look_rests (B : Blt K mg) {f : Addr} {fd : FuncData} (D : Dm K "look_rests" "look_rests" s_look_rests [] [] f fd) (O_X_BadRests : OkX P w K mg base 2 "BadRests") : FnOk P w K mg base (L2N.CX P w) 4 f fd ["rests"] (spF ⟨K, mg⟩ 1 F_look_rests) :=
  fnokM_of (k := 3) (N := ["rests"]) (n := 1) D sc_look_rests rfl (by decide) rfl fun cdv A outer s H E hr =>
      (js_one (js_if (PW.pt (jw_and (jt_cmp (or_ne hr) (j_var 0 (pv 0)) (j_globI (by rfl) B.g_WHOLE) (nomark _)) (jw_and1 (jt_not (jt_chain or_le or_le j_int (j_var 0 (pv 0)) (j_globI (by rfl) B.g_RESTS_MOST)))))) (js_one (js_raise0 O_X_BadRests (hr.mono (by decide)) rfl (by rfl) (L2N.takes_of rfl rfl rfl rfl))) js_nil))
theorem ok_look_rests_L0 (B : Blt K mg) {f : Addr} {fd : FuncData} (D : Dm K "look_rests" "look_rests" s_look_rests [] [] f fd) (O_X_BadRests : OkX P w K mg base 2 "BadRests") (hm : mg "look_rests" = some (.ref f)) : Ok1 P w K mg base 4 "look_rests" 1 [] F_look_rests := ok_of ⟨D.F, hm⟩ (fn_look_rests B D O_X_BadRests) (fun _ _ _ _ _ _ us hl => match us, hl with | [_], _ => rfl)
theorem sc_unit : FnScope ["many", "row", "column"] ["many"] (defScope s_unit) := ⟨rfl, rfl, rfl, by decide +kernel, rfl, by decide +kernel, by decide +kernel⟩
theorem fn_unit (B : Blt K mg) {f : Addr} {fd : FuncData} (D : Dm K "unit" "unit" s_unit [] [] f fd) : FnOk P w K mg base (L2N.CX P w) 1 f fd ["many"] (spF ⟨K, mg⟩ 1 F_unit) :=
  fnokM_of (k := 0) (N := ["many", "row", "column"]) (n := 3) D sc_unit rfl (by decide) rfl fun cdv A outer s H E hr =>
      (js_one (js_ret (j_lcR rfl sc_unit.nd (ji_range1 (by rfl) B.n_range (j_var 0 (pv 0))) (blkOk_by (own := [("row", 1)]) (by kernel_rfl)) (fun _ _ _ _ _ => (pg_name (i := 1) sc_unit.nd rfl (by first | exact Or.inl rfl | exact Or.inr rfl))) (pat_nm 1) (fun _ _ _ _ _ => jts_nil) (fun _ _ _ _ _ => (j_lcO rfl sc_unit.nd (ji_range1 (by rfl) B.n_range (j_var 0 (pv 0))) (blkOk_by (own := [("column", 2)]) (by kernel_rfl)) (fun _ _ _ _ _ => (pg_name (i := 2) sc_unit.nd rfl (by first | exact Or.inl rfl | exact Or.inr rfl))) (pat_nm 2) (fun _ _ _ _ _ => jts_nil) (fun _ _ _ _ _ => (j_callTy cr_intJ (by rfl) B.n_int (by decide +kernel) (ja_cons (j_cmp (or_eq hr) (j_var 1 (pv 1)) (j_var 2 (pv 2)) (nomark _)) ja_nil))))))))
theorem ok_unit_L0 (B : Blt K mg) {f : Addr} {fd : FuncData} (D : Dm K "unit" "unit" s_unit [] [] f fd) (hm : mg "unit" = some (.ref f)) : Ok1 P w K mg base 1 "unit" 1 [] F_unit := ok_of ⟨D.F, hm⟩ (fn_unit B D) (fun _ _ _ _ _ _ us hl => match us, hl with | [_], _ => rfl)
theorem sc_Form_least_place : FnScope ["self", "found", "least", "first", "row", "column", "number"] ["self"] (defScope s_Form_least_place) := ⟨rfl, rfl, rfl, by decide +kernel, rfl, by decide +kernel, by decide +kernel⟩
theorem fn_Form_least_place (B : Blt K mg) {f : Addr} {fd : FuncData} (D : Dm K "least_place" "Form.least_place" s_Form_least_place [] [] f fd) : FnOk P w K mg base (L2N.CX P w) 1 f fd ["self"] (spF ⟨K, mg⟩ 1 F_Form_least_place) :=
  fnokM_of (k := 0) (N := ["self", "found", "least", "first", "row", "column", "number"]) (n := 7) D sc_Form_least_place rfl (by decide) rfl fun cdv A outer s H E hr =>
      (js_cons (js_set (i := 1) sc_Form_least_place.nd rfl (by first | exact Or.inl rfl | exact Or.inr rfl) j_non)
      (js_cons (js_set (i := 2) sc_Form_least_place.nd rfl (by first | exact Or.inl rfl | exact Or.inr rfl) j_int)
      (js_cons (js_set (i := 3) sc_Form_least_place.nd rfl (by first | exact Or.inl rfl | exact Or.inr rfl) (j_callB cr_len (by rfl) B.n_len (by decide +kernel) (ja_cons (j_fld B.f_Form_steps (j_var 0 (pv 0))) ja_nil)))
      (js_cons (js_for (passes_of rfl) rfl (ji_range2 (by rfl) B.n_range (ja_cons (j_var 3 (pv 3)) (ja_cons (j_callB cr_len (by rfl) B.n_len (by decide +kernel) (ja_cons (j_fld B.f_Form_level (j_var 0 (pv 0))) ja_nil)) ja_nil))) (pg_name (i := 4) sc_Form_least_place.nd rfl (by first | exact Or.inl rfl | exact Or.inr rfl)) (pat_nm 4) (js_one (js_for (passes_of rfl) rfl (ji_range2 (by rfl) B.n_range (ja_cons (j_var 3 (pv 3)) (ja_cons (j_fld B.f_Form_wide (j_var 0 (pv 0))) ja_nil))) (pg_name (i := 5) sc_Form_least_place.nd rfl (by first | exact Or.inl rfl | exact Or.inr rfl)) (pat_nm 5) (js_cons (js_set (i := 6) sc_Form_least_place.nd rfl (by first | exact Or.inl rfl | exact Or.inr rfl) (j_callB cr_absJ (by rfl) B.n_abs (by decide +kernel) (ja_cons (j_ix ir_ix (j_ix ir_ix (j_fld B.f_Form_level (j_var 0 (pv 0))) (j_var 4 (pv 4)) (fun _ _ => rfl)) (j_var 5 (pv 5)) (fun _ _ => rfl)) ja_nil)))
      (js_cons (js_if (jt_cmp (or_eq hr) (j_var 6 (pv 6)) j_int (nomark _)) (js_one (js_ret (j_tup (ja_cons (j_var 4 (pv 4)) (ja_cons (j_var 5 (pv 5)) ja_nil))))) js_nil)
      (js_one (js_if (PW.pt (jw_and (jt_cmp or_gt (j_var 6 (pv 6)) j_int (nomark _)) (jw_and1 (PW.pt (jw_or (jt_cmp or_isN (j_var 1 (pv 1)) j_non (nomark _)) (jw_or1 (jt_cmp or_lt (j_var 6 (pv 6)) (j_var 2 (pv 2)) (nomark _)))))))) (js_cons (js_set (i := 1) sc_Form_least_place.nd rfl (by first | exact Or.inl rfl | exact Or.inr rfl) (j_tup (ja_cons (j_var 4 (pv 4)) (ja_cons (j_var 5 (pv 5)) ja_nil))))
      (js_one (js_set (i := 2) sc_Form_least_place.nd rfl (by first | exact Or.inl rfl | exact Or.inr rfl) (j_var 6 (pv 6))))) js_nil)))))))
      (js_one (js_ret (j_var 1 (pv 1))))))))
theorem ok_Form_least_place_M0 (B : Blt K mg) {f : Addr} {fd : FuncData} (D : Dm K "least_place" "Form.least_place" s_Form_least_place [] [] f fd) {C : Addr} (T : ClsT K mg "Form" C) (M : Meth K C "least_place" f) : OkM P w K mg base 1 "Form" "least_place" 1 [] F_Form_least_place := okM_of T M D (fn_Form_least_place B D) (fun _ _ _ _ _ _ us hl => match us, hl with | [_], _ => rfl)
theorem sc_Form_to_corner : FnScope ["self", "row", "column", "at", "line", "number"] ["self", "row", "column"] (defScope s_Form_to_corner) := ⟨rfl, rfl, rfl, by decide +kernel, rfl, by decide +kernel, by decide +kernel⟩
theorem fn_Form_to_corner (B : Blt K mg) {f : Addr} {fd : FuncData} (D : Dm K "to_corner" "Form.to_corner" s_Form_to_corner [] [] f fd) : FnOk P w K mg base (L2N.CX P w) 1 f fd ["self", "row", "column"] (spF ⟨K, mg⟩ 3 F_Form_to_corner) :=
  fnokM_of (k := 0) (N := ["self", "row", "column", "at", "line", "number"]) (n := 6) D sc_Form_to_corner rfl (by decide) rfl fun cdv A outer s H E hr =>
      (js_cons (js_set (i := 3) sc_Form_to_corner.nd rfl (by first | exact Or.inl rfl | exact Or.inr rfl) (j_callB cr_len (by rfl) B.n_len (by decide +kernel) (ja_cons (j_fld B.f_Form_steps (j_var 0 (pv 0))) ja_nil)))
      (js_cons (js_swp rfl (j_ix ir_ix (j_fld B.f_Form_level (j_var 0 (pv 0))) (j_var 1 (pv 1)) (fun _ _ => rfl)) (j_ix ir_ix (j_fld B.f_Form_level (j_var 0 (pv 0))) (j_var 3 (pv 3)) (fun _ _ => rfl)) (j_fld B.f_Form_level (j_var 0 (pv 0))) (j_var 3 (pv 3)) (j_fld B.f_Form_level (j_var 0 (pv 0))) (j_var 1 (pv 1)))
      (js_cons (js_swp rfl (j_ix ir_ix (j_fld B.f_Form_left (j_var 0 (pv 0))) (j_var 1 (pv 1)) (fun _ _ => rfl)) (j_ix ir_ix (j_fld B.f_Form_left (j_var 0 (pv 0))) (j_var 3 (pv 3)) (fun _ _ => rfl)) (j_fld B.f_Form_left (j_var 0 (pv 0))) (j_var 3 (pv 3)) (j_fld B.f_Form_left (j_var 0 (pv 0))) (j_var 1 (pv 1)))
      (js_cons (js_forL (passes_of rfl) rfl (ji_root (j_fld B.f_Form_unleft (j_var 0 (pv 0)))) (pg_name (i := 4) sc_Form_to_corner.nd rfl (by first | exact Or.inl rfl | exact Or.inr rfl)) (pat_nm 4) (js_one (js_swp rfl (j_ix ir_ix (j_var 4 (pv 4)) (j_var 1 (pv 1)) (fun _ _ => rfl)) (j_ix ir_ix (j_var 4 (pv 4)) (j_var 3 (pv 3)) (fun _ _ => rfl)) (j_var 4 (pv 4)) (j_var 3 (pv 3)) (j_var 4 (pv 4)) (j_var 1 (pv 1)))))
      (js_cons (js_forL (passes_of rfl) rfl (ji_root (j_fld B.f_Form_level (j_var 0 (pv 0)))) (pg_name (i := 4) sc_Form_to_corner.nd rfl (by first | exact Or.inl rfl | exact Or.inr rfl)) (pat_nm 4) (js_one (js_swp rfl (j_ix ir_ix (j_var 4 (pv 4)) (j_var 2 (pv 2)) (fun _ _ => rfl)) (j_ix ir_ix (j_var 4 (pv 4)) (j_var 3 (pv 3)) (fun _ _ => rfl)) (j_var 4 (pv 4)) (j_var 3 (pv 3)) (j_var 4 (pv 4)) (j_var 2 (pv 2)))))
      (js_cons (js_forL (passes_of rfl) rfl (ji_root (j_fld B.f_Form_right (j_var 0 (pv 0)))) (pg_name (i := 4) sc_Form_to_corner.nd rfl (by first | exact Or.inl rfl | exact Or.inr rfl)) (pat_nm 4) (js_one (js_swp rfl (j_ix ir_ix (j_var 4 (pv 4)) (j_var 2 (pv 2)) (fun _ _ => rfl)) (j_ix ir_ix (j_var 4 (pv 4)) (j_var 3 (pv 3)) (fun _ _ => rfl)) (j_var 4 (pv 4)) (j_var 3 (pv 3)) (j_var 4 (pv 4)) (j_var 2 (pv 2)))))
      (js_cons (js_swp rfl (j_ix ir_ix (j_fld B.f_Form_unright (j_var 0 (pv 0))) (j_var 2 (pv 2)) (fun _ _ => rfl)) (j_ix ir_ix (j_fld B.f_Form_unright (j_var 0 (pv 0))) (j_var 3 (pv 3)) (fun _ _ => rfl)) (j_fld B.f_Form_unright (j_var 0 (pv 0))) (j_var 3 (pv 3)) (j_fld B.f_Form_unright (j_var 0 (pv 0))) (j_var 2 (pv 2)))
      (js_one (js_if (jt_cmp or_lt (j_ix ir_ix (j_ix ir_ix (j_fld B.f_Form_level (j_var 0 (pv 0))) (j_var 3 (pv 3)) (fun _ _ => rfl)) (j_var 3 (pv 3)) (fun _ _ => rfl)) j_int (nomark _)) (js_cons (js_setX (j_view (j_lcO rfl sc_Form_to_corner.nd (ji_seq (j_ix ir_ix (j_fld B.f_Form_level (j_var 0 (pv 0))) (j_var 3 (pv 3)) (fun _ _ => rfl))) (blkOk_by (own := [("number", 5)]) (by kernel_rfl)) (fun _ _ _ _ _ => (pg_name (i := 5) sc_Form_to_corner.nd rfl (by first | exact Or.inl rfl | exact Or.inr rfl))) (pat_nm 5) (fun _ _ _ _ _ => jts_nil) (fun _ _ _ _ _ => (j_un ur_neg (j_var 5 (pv 5)))))) (j_fld B.f_Form_level (j_var 0 (pv 0))) (j_var 3 (pv 3)))
      (js_cons (js_setX (j_view (j_lcO rfl sc_Form_to_corner.nd (ji_seq (j_ix ir_ix (j_fld B.f_Form_left (j_var 0 (pv 0))) (j_var 3 (pv 3)) (fun _ _ => rfl))) (blkOk_by (own := [("number", 5)]) (by kernel_rfl)) (fun _ _ _ _ _ => (pg_name (i := 5) sc_Form_to_corner.nd rfl (by first | exact Or.inl rfl | exact Or.inr rfl))) (pat_nm 5) (fun _ _ _ _ _ => jts_nil) (fun _ _ _ _ _ => (j_un ur_neg (j_var 5 (pv 5)))))) (j_fld B.f_Form_left (j_var 0 (pv 0))) (j_var 3 (pv 3)))
      (js_one (js_forL (passes_of rfl) rfl (ji_root (j_fld B.f_Form_unleft (j_var 0 (pv 0)))) (pg_name (i := 4) sc_Form_to_corner.nd rfl (by first | exact Or.inl rfl | exact Or.inr rfl)) (pat_nm 4) (js_one (js_setI (j_un ur_neg (j_ix ir_ix (j_var 4 (pv 4)) (j_var 3 (pv 3)) (fun _ _ => rfl))) (j_var 4 (pv 4)) (j_var 3 (pv 3)))))))) js_nil)))))))))
theorem ok_Form_to_corner_M0 (B : Blt K mg) {f : Addr} {fd : FuncData} (D : Dm K "to_corner" "Form.to_corner" s_Form_to_corner [] [] f fd) {C : Addr} (T : ClsT K mg "Form" C) (M : Meth K C "to_corner" f) : OkM P w K mg base 1 "Form" "to_corner" 3 [] F_Form_to_corner := okM_of T M D (fn_Form_to_corner B D) (fun _ _ _ _ _ _ us hl => match us, hl with | [_, _, _], _ => rfl)
theorem sc_lessened : FnScope ["row", "other", "times", "number", "more"] ["row", "other", "times"] (defScope s_lessened) := ⟨rfl, rfl, rfl, by decide +kernel, rfl, by decide +kernel, by decide +kernel⟩
theorem fn_lessened (B : Blt K mg) {f : Addr} {fd : FuncData} (D : Dm K "lessened" "lessened" s_lessened [] [] f fd) : FnOk P w K mg base (L2N.CX P w) 1 f fd ["row", "other", "times"] (spF ⟨K, mg⟩ 3 F_lessened) :=
  fnokM_of (k := 0) (N := ["row", "other", "times", "number", "more"]) (n := 5) D sc_lessened rfl (by decide) rfl fun cdv A outer s H E hr =>
      (js_one (js_ret (j_lcO rfl sc_lessened.nd (ji_zip (by rfl) B.n_zip (ja_cons (j_var 0 (pv 0)) (ja_cons (j_var 1 (pv 1)) ja_nil))) (blkOk_by (own := [("number", 3), ("more", 4)]) (by kernel_rfl)) (fun _ _ _ _ _ => (pg_tup rfl (pgs_cons (pg_name (i := 3) sc_lessened.nd rfl (by first | exact Or.inl rfl | exact Or.inr rfl)) (pgs_cons (pg_name (i := 4) sc_lessened.nd rfl (by first | exact Or.inl rfl | exact Or.inr rfl)) pgs_nil)))) (pat_tup (pats_cons (pat_nm 3) (pats_cons (pat_nm 4) pats_nil))) (fun _ _ _ _ _ => jts_nil) (fun _ _ _ _ _ => (j_bin or_sub (j_var 3 (pv 3)) (j_bin or_mul (j_var 2 (pv 2)) (j_var 4 (pv 4))))))))
theorem ok_lessened_L0 (B : Blt K mg) {f : Addr} {fd : FuncData} (D : Dm K "lessened" "lessened" s_lessened [] [] f fd) (hm : mg "lessened" = some (.ref f)) : Ok1 P w K mg base 1 "lessened" 3 [] F_lessened := ok_of ⟨D.F, hm⟩ (fn_lessened B D) (fun _ _ _ _ _ _ us hl => match us, hl with | [_, _, _], _ => rfl)
theorem sc_Form_lower_row : FnScope ["self", "row", "other", "times", "line"] ["self", "row", "other", "times"] (defScope s_Form_lower_row) := ⟨rfl, rfl, rfl, by decide +kernel, rfl, by decide +kernel, by decide +kernel⟩
theorem fn_Form_lower_row (B : Blt K mg) {f : Addr} {fd : FuncData} (D : Dm K "lower_row" "Form.lower_row" s_Form_lower_row [] [] f fd) (O_lessened_L0 : Ok1 P w K mg base 1 "lessened" 3 [] F_lessened) : FnOk P w K mg base (L2N.CX P w) 2 f fd ["self", "row", "other", "times"] (spF ⟨K, mg⟩ 4 F_Form_lower_row) :=
  fnokM_of (k := 1) (N := ["self", "row", "other", "times", "line"]) (n := 5) D sc_Form_lower_row rfl (by decide) rfl fun cdv A outer s H E hr =>
      (js_cons (js_setX (j_view (j_callO O_lessened_L0 (hr.mono (by decide)) (by rfl) (L2N.takes_of rfl rfl rfl rfl) (ja_cons (j_ix ir_ix (j_fld B.f_Form_level (j_var 0 (pv 0))) (j_var 1 (pv 1)) (fun _ _ => rfl)) (ja_cons (j_ix ir_ix (j_fld B.f_Form_level (j_var 0 (pv 0))) (j_var 2 (pv 2)) (fun _ _ => rfl)) (ja_cons (j_var 3 (pv 3)) ja_nil))))) (j_fld B.f_Form_level (j_var 0 (pv 0))) (j_var 1 (pv 1)))
      (js_cons (js_setX (j_view (j_callO O_lessened_L0 (hr.mono (by decide)) (by rfl) (L2N.takes_of rfl rfl rfl rfl) (ja_cons (j_ix ir_ix (j_fld B.f_Form_left (j_var 0 (pv 0))) (j_var 1 (pv 1)) (fun _ _ => rfl)) (ja_cons (j_ix ir_ix (j_fld B.f_Form_left (j_var 0 (pv 0))) (j_var 2 (pv 2)) (fun _ _ => rfl)) (ja_cons (j_var 3 (pv 3)) ja_nil))))) (j_fld B.f_Form_left (j_var 0 (pv 0))) (j_var 1 (pv 1)))
      (js_one (js_forL (passes_of rfl) rfl (ji_root (j_fld B.f_Form_unleft (j_var 0 (pv 0)))) (pg_name (i := 4) sc_Form_lower_row.nd rfl (by first | exact Or.inl rfl | exact Or.inr rfl)) (pat_nm 4) (js_one (js_augI (j_var 4 (pv 4)) (j_var 2 (pv 2)) (j_bin or_mul (j_var 3 (pv 3)) (j_ix ir_ix (j_var 4 (pv 4)) (j_var 1 (pv 1)) (fun _ _ => rfl)))))))))
theorem ok_Form_lower_row_M0 (B : Blt K mg) {f : Addr} {fd : FuncData} (D : Dm K "lower_row" "Form.lower_row" s_Form_lower_row [] [] f fd) (O_lessened_L0 : Ok1 P w K mg base 1 "lessened" 3 [] F_lessened) {C : Addr} (T : ClsT K mg "Form" C) (M : Meth K C "lower_row" f) : OkM P w K mg base 2 "Form" "lower_row" 4 [] F_Form_lower_row := okM_of T M D (fn_Form_lower_row B D O_lessened_L0) (fun _ _ _ _ _ _ us hl => match us, hl with | [_, _, _, _], _ => rfl)
theorem sc_Form_lower_column : FnScope ["self", "column", "other", "times", "line"] ["self", "column", "other", "times"] (defScope s_Form_lower_column) := ⟨rfl, rfl, rfl, by decide +kernel, rfl, by decide +kernel, by decide +kernel⟩
theorem fn_Form_lower_column (B : Blt K mg) {f : Addr} {fd : FuncData} (D : Dm K "lower_column" "Form.lower_column" s_Form_lower_column [] [] f fd) (O_lessened_L0 : Ok1 P w K mg base 1 "lessened" 3 [] F_lessened) : FnOk P w K mg base (L2N.CX P w) 2 f fd ["self", "column", "other", "times"] (spF ⟨K, mg⟩ 4 F_Form_lower_column) :=
  fnokM_of (k := 1) (N := ["self", "column", "other", "times", "line"]) (n := 5) D sc_Form_lower_column rfl (by decide) rfl fun cdv A outer s H E hr =>
      (js_cons (js_forL (passes_of rfl) rfl (ji_root (j_fld B.f_Form_level (j_var 0 (pv 0)))) (pg_name (i := 4) sc_Form_lower_column.nd rfl (by first | exact Or.inl rfl | exact Or.inr rfl)) (pat_nm 4) (js_one (js_augIS (j_var 4 (pv 4)) (j_var 1 (pv 1)) (j_bin or_mul (j_var 3 (pv 3)) (j_ix ir_ix (j_var 4 (pv 4)) (j_var 2 (pv 2)) (fun _ _ => rfl))))))
      (js_cons (js_forL (passes_of rfl) rfl (ji_root (j_fld B.f_Form_right (j_var 0 (pv 0)))) (pg_name (i := 4) sc_Form_lower_column.nd rfl (by first | exact Or.inl rfl | exact Or.inr rfl)) (pat_nm 4) (js_one (js_augIS (j_var 4 (pv 4)) (j_var 1 (pv 1)) (j_bin or_mul (j_var 3 (pv 3)) (j_ix ir_ix (j_var 4 (pv 4)) (j_var 2 (pv 2)) (fun _ _ => rfl))))))
      (js_one (js_setX (j_view (j_callO O_lessened_L0 (hr.mono (by decide)) (by rfl) (L2N.takes_of rfl rfl rfl rfl) (ja_cons (j_ix ir_ix (j_fld B.f_Form_unright (j_var 0 (pv 0))) (j_var 2 (pv 2)) (fun _ _ => rfl)) (ja_cons (j_ix ir_ix (j_fld B.f_Form_unright (j_var 0 (pv 0))) (j_var 1 (pv 1)) (fun _ _ => rfl)) (ja_cons (j_un ur_neg (j_var 3 (pv 3))) ja_nil))))) (j_fld B.f_Form_unright (j_var 0 (pv 0))) (j_var 2 (pv 2))))))
theorem ok_Form_lower_column_M0 (B : Blt K mg) {f : Addr} {fd : FuncData} (D : Dm K "lower_column" "Form.lower_column" s_Form_lower_column [] [] f fd) (O_lessened_L0 : Ok1 P w K mg base 1 "lessened" 3 [] F_lessened) {C : Addr} (T : ClsT K mg "Form" C) (M : Meth K C "lower_column" f) : OkM P w K mg base 2 "Form" "lower_column" 4 [] F_Form_lower_column := okM_of T M D (fn_Form_lower_column B D O_lessened_L0) (fun _ _ _ _ _ _ us hl => match us, hl with | [_, _, _, _], _ => rfl)
theorem sc_Form_clear_corner : FnScope ["self", "at", "corner", "row", "column", "rests", "line", "number"] ["self"] (defScope s_Form_clear_corner) := ⟨rfl, rfl, rfl, by decide +kernel, rfl, by decide +kernel, by decide +kernel⟩
theorem fn_Form_clear_corner (B : Blt K mg) {f : Addr} {fd : FuncData} (D : Dm K "clear_corner" "Form.clear_corner" s_Form_clear_corner [] [] f fd) (O_Form_lower_row_M0 : OkM P w K mg base 2 "Form" "lower_row" 4 [] F_Form_lower_row) (O_Form_lower_column_M0 : OkM P w K mg base 2 "Form" "lower_column" 4 [] F_Form_lower_column) : FnOk P w K mg base (L2N.CX P w) 3 f fd ["self"] (spF ⟨K, mg⟩ 1 F_Form_clear_corner) :=
  fnokM_of (k := 2) (N := ["self", "at", "corner", "row", "column", "rests", "line", "number"]) (n := 8) D sc_Form_clear_corner rfl (by decide) rfl fun cdv A outer s H E hr =>
      (js_cons (js_set (i := 1) sc_Form_clear_corner.nd rfl (by first | exact Or.inl rfl | exact Or.inr rfl) (j_callB cr_len (by rfl) B.n_len (by decide +kernel) (ja_cons (j_fld B.f_Form_steps (j_var 0 (pv 0))) ja_nil)))
      (js_cons (js_set (i := 2) sc_Form_clear_corner.nd rfl (by first | exact Or.inl rfl | exact Or.inr rfl) (j_ix ir_ix (j_ix ir_ix (j_fld B.f_Form_level (j_var 0 (pv 0))) (j_var 1 (pv 1)) (fun _ _ => rfl)) (j_var 1 (pv 1)) (fun _ _ => rfl)))
      (js_cons (js_for (passes_of rfl) rfl (ji_range2 (by rfl) B.n_range (ja_cons (j_bin or_add (j_var 1 (pv 1)) j_int) (ja_cons (j_callB cr_len (by rfl) B.n_len (by decide +kernel) (ja_cons (j_fld B.f_Form_level (j_var 0 (pv 0))) ja_nil)) ja_nil))) (pg_name (i := 3) sc_Form_clear_corner.nd rfl (by first | exact Or.inl rfl | exact Or.inr rfl)) (pat_nm 3) (js_one (js_if (jt_cmp (or_ne hr) (j_ix ir_ix (j_ix ir_ix (j_fld B.f_Form_level (j_var 0 (pv 0))) (j_var 3 (pv 3)) (fun _ _ => rfl)) (j_var 1 (pv 1)) (fun _ _ => rfl)) j_int (nomark _)) (js_one (js_expr (j_meth O_Form_lower_row_M0 (hr.mono (by decide)) (j_var 0 (pv 0)) (ja_cons (j_var 3 (pv 3)) (ja_cons (j_var 1 (pv 1)) (ja_cons (j_bin or_fdiv (j_ix ir_ix (j_ix ir_ix (j_fld B.f_Form_level (j_var 0 (pv 0))) (j_var 3 (pv 3)) (fun _ _ => rfl)) (j_var 1 (pv 1)) (fun _ _ => rfl)) (j_var 2 (pv 2))) ja_nil)))))) js_nil)))
      (js_cons (js_for (passes_of rfl) rfl (ji_range2 (by rfl) B.n_range (ja_cons (j_bin or_add (j_var 1 (pv 1)) j_int) (ja_cons (j_fld B.f_Form_wide (j_var 0 (pv 0))) ja_nil))) (pg_name (i := 4) sc_Form_clear_corner.nd rfl (by first | exact Or.inl rfl | exact Or.inr rfl)) (pat_nm 4) (js_one (js_if (jt_cmp (or_ne hr) (j_ix ir_ix (j_ix ir_ix (j_fld B.f_Form_level (j_var 0 (pv 0))) (j_var 1 (pv 1)) (fun _ _ => rfl)) (j_var 4 (pv 4)) (fun _ _ => rfl)) j_int (nomark _)) (js_one (js_expr (j_meth O_Form_lower_column_M0 (hr.mono (by decide)) (j_var 0 (pv 0)) (ja_cons (j_var 4 (pv 4)) (ja_cons (j_var 1 (pv 1)) (ja_cons (j_bin or_fdiv (j_ix ir_ix (j_ix ir_ix (j_fld B.f_Form_level (j_var 0 (pv 0))) (j_var 1 (pv 1)) (fun _ _ => rfl)) (j_var 4 (pv 4)) (fun _ _ => rfl)) (j_var 2 (pv 2))) ja_nil)))))) js_nil)))
      (js_cons (js_set (i := 5) sc_Form_clear_corner.nd rfl (by first | exact Or.inl rfl | exact Or.inr rfl) (j_view (j_addO (j_lc rfl sc_Form_clear_corner.nd (ji_seq (j_sl (j_fld B.f_Form_level (j_var 0 (pv 0))) (jo_some (j_bin or_add (j_var 1 (pv 1)) j_int)) jo_none)) (blkOk_by (own := [("line", 6)]) (by kernel_rfl)) (fun _ _ _ _ _ => (pg_name (i := 6) sc_Form_clear_corner.nd rfl (by first | exact Or.inl rfl | exact Or.inr rfl))) (pat_nm 6) (fun _ _ _ _ _ => jts_nil) (fun _ _ _ _ _ => (j_ix ir_ix (j_var 6 (pv 6)) (j_var 1 (pv 1)) (fun _ _ => rfl)))) (j_sl (j_ix ir_ix (j_fld B.f_Form_level (j_var 0 (pv 0))) (j_var 1 (pv 1)) (fun _ _ => rfl)) (jo_some (j_bin or_add (j_var 1 (pv 1)) j_int)) jo_none))))
      (js_cons (js_if (jt_cmp or_gt (j_view (j_maxD rfl (by rfl) B.n_max (ja_cons (j_var 5 (pv 5)) ja_nil) (jk_cons j_int jk_nil))) j_int (nomark _)) (js_one (js_ret j_bl)) js_nil)
      (js_cons (js_for (passes_of rfl) rfl (ji_range2 (by rfl) B.n_range (ja_cons (j_bin or_add (j_var 1 (pv 1)) j_int) (ja_cons (j_callB cr_len (by rfl) B.n_len (by decide +kernel) (ja_cons (j_fld B.f_Form_level (j_var 0 (pv 0))) ja_nil)) ja_nil))) (pg_name (i := 3) sc_Form_clear_corner.nd rfl (by first | exact Or.inl rfl | exact Or.inr rfl)) (pat_nm 3) (js_one (js_if (jt_val (j_view (j_callB (cr_anyJ rfl) (by rfl) B.n_any (by decide +kernel) (ja_cons (j_lc rfl sc_Form_clear_corner.nd (ji_seq (j_sl (j_ix ir_ix (j_fld B.f_Form_level (j_var 0 (pv 0))) (j_var 3 (pv 3)) (fun _ _ => rfl)) (jo_some (j_bin or_add (j_var 1 (pv 1)) j_int)) jo_none)) (blkOk_by (own := [("number", 7)]) (by kernel_rfl)) (fun _ _ _ _ _ => (pg_name (i := 7) sc_Form_clear_corner.nd rfl (by first | exact Or.inl rfl | exact Or.inr rfl))) (pat_nm 7) (fun _ _ _ _ _ => jts_nil) (fun _ _ _ _ _ => (j_cmp (or_ne hr) (j_bin or_mod (j_var 7 (pv 7)) (j_var 2 (pv 2))) j_int (nomark _)))) ja_nil)))) (js_cons (js_expr (j_meth O_Form_lower_row_M0 (hr.mono (by decide)) (j_var 0 (pv 0)) (ja_cons (j_var 1 (pv 1)) (ja_cons (j_var 3 (pv 3)) (ja_cons (j_un ur_neg j_int) ja_nil)))))
      (js_one (js_ret j_bl))) js_nil)))
      (js_one (js_ret j_bl)))))))))
theorem ok_Form_clear_corner_M0 (B : Blt K mg) {f : Addr} {fd : FuncData} (D : Dm K "clear_corner" "Form.clear_corner" s_Form_clear_corner [] [] f fd) (O_Form_lower_row_M0 : OkM P w K mg base 2 "Form" "lower_row" 4 [] F_Form_lower_row) (O_Form_lower_column_M0 : OkM P w K mg base 2 "Form" "lower_column" 4 [] F_Form_lower_column) {C : Addr} (T : ClsT K mg "Form" C) (M : Meth K C "clear_corner" f) : OkM P w K mg base 3 "Form" "clear_corner" 1 [] F_Form_clear_corner := okM_of T M D (fn_Form_clear_corner B D O_Form_lower_row_M0 O_Form_lower_column_M0) (fun _ _ _ _ _ _ us hl => match us, hl with | [_], _ => rfl)
theorem sc_Form_spread : FnScope ["self", "place", "at"] ["self"] (defScope s_Form_spread) := ⟨rfl, rfl, rfl, by decide +kernel, rfl, by decide +kernel, by decide +kernel⟩
theorem fn_Form_spread (B : Blt K mg) {f : Addr} {fd : FuncData} (D : Dm K "spread" "Form.spread" s_Form_spread [] [] f fd) (O_Form_least_place_M0 : OkM P w K mg base 1 "Form" "least_place" 1 [] F_Form_least_place) (O_Form_to_corner_M0 : OkM P w K mg base 1 "Form" "to_corner" 3 [] F_Form_to_corner) (O_Form_clear_corner_M0 : OkM P w K mg base 3 "Form" "clear_corner" 1 [] F_Form_clear_corner) : FnOk P w K mg base (L2N.CX P w) 4 f fd ["self"] (spF ⟨K, mg⟩ 1 F_Form_spread) :=
  fnokM_of (k := 3) (N := ["self", "place", "at"]) (n := 3) D sc_Form_spread rfl (by decide) rfl fun cdv A outer s H E hr =>
      (js_cons (js_set (i := 1) sc_Form_spread.nd rfl (by first | exact Or.inl rfl | exact Or.inr rfl) (j_view (j_meth0 O_Form_least_place_M0 (hr.mono (by decide)) (j_var 0 (pv 0)))))
      (js_one (js_while (passes_of rfl) (jt_cmp or_notN (j_var 1 (pv 1)) j_non (nomark _)) (js_cons (js_expr (j_meth O_Form_to_corner_M0 (hr.mono (by decide)) (j_var 0 (pv 0)) (ja_cons (j_ix ir_ix (j_var 1 (pv 1)) j_int (fun _ _ => rfl)) (ja_cons (j_ix ir_ix (j_var 1 (pv 1)) j_int (fun _ _ => rfl)) ja_nil))))
      (js_cons (js_if (jt_val (j_meth0 O_Form_clear_corner_M0 (hr.mono (by decide)) (j_var 0 (pv 0)))) (js_cons (js_set (i := 2) sc_Form_spread.nd rfl (by first | exact Or.inl rfl | exact Or.inr rfl) (j_callB cr_len (by rfl) B.n_len (by decide +kernel) (ja_cons (j_fld B.f_Form_steps (j_var 0 (pv 0))) ja_nil)))
      (js_one (js_expr (j_app (j_fld B.f_Form_steps (j_var 0 (pv 0))) (j_ix ir_ix (j_ix ir_ix (j_fld B.f_Form_level (j_var 0 (pv 0))) (j_var 2 (pv 2)) (fun _ _ => rfl)) (j_var 2 (pv 2)) (fun _ _ => rfl)))))) js_nil)
      (js_one (js_set (i := 1) sc_Form_spread.nd rfl (by first | exact Or.inl rfl | exact Or.inr rfl) (j_view (j_meth0 O_Form_least_place_M0 (hr.mono (by decide)) (j_var 0 (pv 0)))))))))))
theorem ok_Form_spread_M0 (B : Blt K mg) {f : Addr} {fd : FuncData} (D : Dm K "spread" "Form.spread" s_Form_spread [] [] f fd) (O_Form_least_place_M0 : OkM P w K mg base 1 "Form" "least_place" 1 [] F_Form_least_place) (O_Form_to_corner_M0 : OkM P w K mg base 1 "Form" "to_corner" 3 [] F_Form_to_corner) (O_Form_clear_corner_M0 : OkM P w K mg base 3 "Form" "clear_corner" 1 [] F_Form_clear_corner) {C : Addr} (T : ClsT K mg "Form" C) (M : Meth K C "spread" f) : OkM P w K mg base 4 "Form" "spread" 1 [] F_Form_spread := okM_of T M D (fn_Form_spread B D O_Form_least_place_M0 O_Form_to_corner_M0 O_Form_clear_corner_M0) (fun _ _ _ _ _ _ us hl => match us, hl with | [_], _ => rfl)
theorem sc_Form_init : FnScope ["self", "table", "wide", "row"] ["self", "table", "wide"] (defScope s_Form_init) := ⟨rfl, rfl, rfl, by decide +kernel, rfl, by decide +kernel, by decide +kernel⟩
theorem fn_Form_init (B : Blt K mg) {f : Addr} {fd : FuncData} (D : Dm K "__init__" "Form.__init__" s_Form_init [] [] f fd) (O_unit_L0 : Ok1 P w K mg base 1 "unit" 1 [] F_unit) (O_Form_spread_M0 : OkM P w K mg base 4 "Form" "spread" 1 [] F_Form_spread) : FnOk P w K mg base (L2N.CX P w) 5 f fd ["self", "table", "wide"] (spF ⟨K, mg⟩ 3 F_Form_init) :=
  fnokM_of (k := 4) (N := ["self", "table", "wide", "row"]) (n := 4) D sc_Form_init rfl (by decide) rfl fun cdv A outer s H E hr =>
      (js_cons (js_fld B.f_Form_level (j_var 0 (pv 0)) (j_lcR rfl sc_Form_init.nd (ji_seq (j_var 1 (pv 1))) (blkOk_by (own := [("row", 3)]) (by kernel_rfl)) (fun _ _ _ _ _ => (pg_name (i := 3) sc_Form_init.nd rfl (by first | exact Or.inl rfl | exact Or.inr rfl))) (pat_nm 3) (fun _ _ _ _ _ => jts_nil) (fun _ _ _ _ _ => (j_callTyO cr_listO (by rfl) B.n_list (by decide +kernel) (ja_cons (j_var 3 (pv 3)) ja_nil)))))
      (js_cons (js_fld B.f_Form_wide (j_var 0 (pv 0)) (j_var 2 (pv 2)))
      (js_cons (js_fld B.f_Form_left (j_var 0 (pv 0)) (j_callO O_unit_L0 (hr.mono (by decide)) (by rfl) (L2N.takes_of rfl rfl rfl rfl) (ja_cons (j_callB cr_len (by rfl) B.n_len (by decide +kernel) (ja_cons (j_var 1 (pv 1)) ja_nil)) ja_nil)))
      (js_cons (js_fld B.f_Form_unleft (j_var 0 (pv 0)) (j_callO O_unit_L0 (hr.mono (by decide)) (by rfl) (L2N.takes_of rfl rfl rfl rfl) (ja_cons (j_callB cr_len (by rfl) B.n_len (by decide +kernel) (ja_cons (j_var 1 (pv 1)) ja_nil)) ja_nil)))
      (js_cons (js_fld B.f_Form_right (j_var 0 (pv 0)) (j_callO O_unit_L0 (hr.mono (by decide)) (by rfl) (L2N.takes_of rfl rfl rfl rfl) (ja_cons (j_var 2 (pv 2)) ja_nil)))
      (js_cons (js_fld B.f_Form_unright (j_var 0 (pv 0)) (j_callO O_unit_L0 (hr.mono (by decide)) (by rfl) (L2N.takes_of rfl rfl rfl rfl) (ja_cons (j_var 2 (pv 2)) ja_nil)))
      (js_cons (js_fld B.f_Form_steps (j_var 0 (pv 0)) (j_lstO ja_nil))
      (js_one (js_expr (j_meth0 O_Form_spread_M0 (hr.mono (by decide)) (j_var 0 (pv 0))))))))))))
theorem ok_Form_init_C (B : Blt K mg) {f : Addr} {fd : FuncData} (D : Dm K "__init__" "Form.__init__" s_Form_init [] [] f fd) (O_unit_L0 : Ok1 P w K mg base 1 "unit" 1 [] F_unit) (O_Form_spread_M0 : OkM P w K mg base 4 "Form" "spread" 1 [] F_Form_spread) {C : Addr} (T : ClsT K mg "Form" C) (M : Mk K C f) : OkC P w K mg base 5 "Form" 3 [] F_Form_init := okC_of T M D (fn_Form_init B D O_unit_L0 O_Form_spread_M0) (fun _ _ _ _ _ _ us hl => match us, hl with | [_, _, _], _ => rfl)
theorem sc_paired : FnScope ["one", "other", "a", "b"] ["one", "other"] (defScope s_paired) := ⟨rfl, rfl, rfl, by decide +kernel, rfl, by decide +kernel, by decide +kernel⟩
theorem fn_paired (B : Blt K mg) {f : Addr} {fd : FuncData} (D : Dm K "paired" "paired" s_paired [] [] f fd) : FnOk P w K mg base (L2N.CX P w) 1 f fd ["one", "other"] (spF ⟨K, mg⟩ 2 F_paired) :=
  fnokM_of (k := 0) (N := ["one", "other", "a", "b"]) (n := 4) D sc_paired rfl (by decide) rfl fun cdv A outer s H E hr =>
      (js_one (js_ret (j_callB (cr_sumJ rfl) (by rfl) B.n_sum (by decide +kernel) (ja_cons (j_lc rfl sc_paired.nd (ji_zip (by rfl) B.n_zip (ja_cons (j_var 0 (pv 0)) (ja_cons (j_var 1 (pv 1)) ja_nil))) (blkOk_by (own := [("a", 2), ("b", 3)]) (by kernel_rfl)) (fun _ _ _ _ _ => (pg_tup rfl (pgs_cons (pg_name (i := 2) sc_paired.nd rfl (by first | exact Or.inl rfl | exact Or.inr rfl)) (pgs_cons (pg_name (i := 3) sc_paired.nd rfl (by first | exact Or.inl rfl | exact Or.inr rfl)) pgs_nil)))) (pat_tup (pats_cons (pat_nm 2) (pats_cons (pat_nm 3) pats_nil))) (fun _ _ _ _ _ => jts_nil) (fun _ _ _ _ _ => (j_bin or_mul (j_var 2 (pv 2)) (j_var 3 (pv 3))))) ja_nil))))
theorem ok_paired_L0 (B : Blt K mg) {f : Addr} {fd : FuncData} (D : Dm K "paired" "paired" s_paired [] [] f fd) (hm : mg "paired" = some (.ref f)) : Ok1 P w K mg base 1 "paired" 2 [] F_paired := ok_of ⟨D.F, hm⟩ (fn_paired B D) (fun _ _ _ _ _ _ us hl => match us, hl with | [_, _], _ => rfl)
theorem sc_timed : FnScope ["table", "row", "line"] ["table", "row"] (defScope s_timed) := ⟨rfl, rfl, rfl, by decide +kernel, rfl, by decide +kernel, by decide +kernel⟩
theorem fn_timed (B : Blt K mg) {f : Addr} {fd : FuncData} (D : Dm K "timed" "timed" s_timed [] [] f fd) (O_paired_L0 : Ok1 P w K mg base 1 "paired" 2 [] F_paired) : FnOk P w K mg base (L2N.CX P w) 2 f fd ["table", "row"] (spF ⟨K, mg⟩ 2 F_timed) :=
  fnokM_of (k := 1) (N := ["table", "row", "line"]) (n := 3) D sc_timed rfl (by decide) rfl fun cdv A outer s H E hr =>
      (js_one (js_ret (j_lc rfl sc_timed.nd (ji_seq (j_var 0 (pv 0))) (blkOk_by (own := [("line", 2)]) (by kernel_rfl)) (fun _ _ _ _ _ => (pg_name (i := 2) sc_timed.nd rfl (by first | exact Or.inl rfl | exact Or.inr rfl))) (pat_nm 2) (fun _ _ _ _ _ => jts_nil) (fun _ _ _ _ _ => (j_callO O_paired_L0 (hr.mono (by decide)) (by rfl) takesN0 (ja_cons (j_var 2 (pv 2)) (ja_cons (j_var 1 (pv 1)) ja_nil)))))))
theorem ok_timed_L0 (B : Blt K mg) {f : Addr} {fd : FuncData} (D : Dm K "timed" "timed" s_timed [] [] f fd) (O_paired_L0 : Ok1 P w K mg base 1 "paired" 2 [] F_paired) (hm : mg "timed" = some (.ref f)) : Ok1 P w K mg base 2 "timed" 2 [] F_timed := ok_of ⟨D.F, hm⟩ (fn_timed B D O_paired_L0) (fun _ _ _ _ _ _ us hl => match us, hl with | [_, _], _ => rfl)
theorem sc_Form_step : FnScope ["self", "at"] ["self", "at"] (defScope s_Form_step) := ⟨rfl, rfl, rfl, by decide +kernel, rfl, by decide +kernel, by decide +kernel⟩
theorem fn_Form_step (B : Blt K mg) {f : Addr} {fd : FuncData} (D : Dm K "step" "Form.step" s_Form_step [] [] f fd) : FnOk P w K mg base (L2N.CX P w) 1 f fd ["self", "at"] (spF ⟨K, mg⟩ 2 F_Form_step) :=
  fnokM_of (k := 0) (N := ["self", "at"]) (n := 2) D sc_Form_step rfl (by decide) rfl fun cdv A outer s H E hr =>
      (js_one (js_ret (j_if (jt_cmp or_lt (j_var 1 (pv 1)) (j_callB cr_len (by rfl) B.n_len (by decide +kernel) (ja_cons (j_fld B.f_Form_steps (j_var 0 (pv 0))) ja_nil)) (nomark _)) (j_ix ir_ix (j_fld B.f_Form_steps (j_var 0 (pv 0))) (j_var 1 (pv 1)) (fun _ _ => rfl)) j_int)))
theorem ok_Form_step_M0 (B : Blt K mg) {f : Addr} {fd : FuncData} (D : Dm K "step" "Form.step" s_Form_step [] [] f fd) {C : Addr} (T : ClsT K mg "Form" C) (M : Meth K C "step" f) : OkM P w K mg base 1 "Form" "step" 2 [] F_Form_step := okM_of T M D (fn_Form_step B D) (fun _ _ _ _ _ _ us hl => match us, hl with | [_, _], _ => rfl)
theorem sc_share : FnScope ["one", "other", "both", "by", "more", "left", "low", "high", "times"] ["one", "other"] (defScope s_share) := ⟨rfl, rfl, rfl, by decide +kernel, rfl, by decide +kernel, by decide +kernel⟩
theorem fn_share (B : Blt K mg) {f : Addr} {fd : FuncData} (D : Dm K "share" "share" s_share [] [] f fd) : FnOk P w K mg base (L2N.CX P w) 1 f fd ["one", "other"] (spF ⟨K, mg⟩ 2 F_share) :=
  fnokM_of (k := 0) (N := ["one", "other", "both", "by", "more", "left", "low", "high", "times"]) (n := 9) D sc_share rfl (by decide) rfl fun cdv A outer s H E hr =>
      (js_cons (js_par3 (i := 2) (j := 3) (l := 4) rfl sc_share.nd rfl rfl rfl (by decide) (by decide) (by decide) rfl rfl rfl (ja_cons (j_var 0 (pv 0)) (ja_cons j_int (ja_cons j_int ja_nil))) (by rfl))
      (js_cons (js_par3 (i := 5) (j := 6) (l := 7) rfl sc_share.nd rfl rfl rfl (by decide) (by decide) (by decide) rfl rfl rfl (ja_cons (j_var 1 (pv 1)) (ja_cons j_int (ja_cons j_int ja_nil))) (by rfl))
      (js_cons (js_while (passes_of rfl) (jt_cmp (or_ne hr) (j_var 5 (pv 5)) j_int (nomark _)) (js_cons (js_set (i := 8) sc_share.nd rfl (by first | exact Or.inl rfl | exact Or.inr rfl) (j_bin or_fdiv (j_var 2 (pv 2)) (j_var 5 (pv 5))))
      (js_cons (js_par (i := 2) (j := 5) rfl sc_share.nd rfl rfl (by decide) rfl rfl (ja_cons (j_var 5 (pv 5)) (ja_cons (j_bin or_sub (j_var 2 (pv 2)) (j_bin or_mul (j_var 8 (pv 8)) (j_var 5 (pv 5)))) ja_nil)) (by rfl))
      (js_cons (js_par (i := 3) (j := 6) rfl sc_share.nd rfl rfl (by decide) rfl rfl (ja_cons (j_var 6 (pv 6)) (ja_cons (j_bin or_sub (j_var 3 (pv 3)) (j_bin or_mul (j_var 8 (pv 8)) (j_var 6 (pv 6)))) ja_nil)) (by rfl))
      (js_one (js_par (i := 4) (j := 7) rfl sc_share.nd rfl rfl (by decide) rfl rfl (ja_cons (j_var 7 (pv 7)) (ja_cons (j_bin or_sub (j_var 4 (pv 4)) (j_bin or_mul (j_var 8 (pv 8)) (j_var 7 (pv 7)))) ja_nil)) (by rfl)))))))
      (js_cons (js_if (jt_cmp or_lt (j_var 2 (pv 2)) j_int (nomark _)) (js_one (js_par3 (i := 2) (j := 3) (l := 4) rfl sc_share.nd rfl rfl rfl (by decide) (by decide) (by decide) rfl rfl rfl (ja_cons (j_un ur_neg (j_var 2 (pv 2))) (ja_cons (j_un ur_neg (j_var 3 (pv 3))) (ja_cons (j_un ur_neg (j_var 4 (pv 4))) ja_nil))) (by rfl))) js_nil)
      (js_one (js_ret (j_tup (ja_cons (j_var 2 (pv 2)) (ja_cons (j_var 3 (pv 3)) (ja_cons (j_var 4 (pv 4)) ja_nil))))))))))
theorem ok_share_L0 (B : Blt K mg) {f : Addr} {fd : FuncData} (D : Dm K "share" "share" s_share [] [] f fd) (hm : mg "share" = some (.ref f)) : Ok1 P w K mg base 1 "share" 2 [] F_share := ok_of ⟨D.F, hm⟩ (fn_share B D) (fun _ _ _ _ _ _ us hl => match us, hl with | [_, _], _ => rfl)
theorem sc_rest : FnScope ["number", "rests"] ["number", "rests"] (defScope s_rest) := ⟨rfl, rfl, rfl, by decide +kernel, rfl, by decide +kernel, by decide +kernel⟩
theorem fn_rest (B : Blt K mg) {f : Addr} {fd : FuncData} (D : Dm K "rest" "rest" s_rest [V.int 0] [] f fd) : FnOk P w K mg base (L2N.CX P w) 1 f fd ["number", "rests"] (spF ⟨K, mg⟩ 2 F_rest) :=
  fnokM_of (k := 0) (N := ["number", "rests"]) (n := 2) D sc_rest rfl (by decide) rfl fun cdv A outer s H E hr =>
      (js_one (js_ret (j_if (jt_cmp (or_eq hr) (j_var 1 (pv 1)) (j_globI (by rfl) B.g_WHOLE) (nomark _)) (j_var 0 (pv 0)) (j_bin or_mod (j_var 0 (pv 0)) (j_var 1 (pv 1))))))
theorem ok_rest_L0 (B : Blt K mg) {f : Addr} {fd : FuncData} (D : Dm K "rest" "rest" s_rest [V.int 0] [] f fd) (hm : mg "rest" = some (.ref f)) : Ok1 P w K mg base 1 "rest" 2 [] F_rest := okD_of ⟨D.F, hm⟩ (fn_rest B D) 2 1 (by simp) rfl (fun _ _ _ _ _ _ _ us its h1 h2 => match us, h1, its, h2 with | [_, _], _, [_], _ => ⟨_, rfl, rfl⟩) (fun _ _ => rfl)
theorem sc_rested : FnScope ["row", "rests", "number"] ["row", "rests"] (defScope s_rested) := ⟨rfl, rfl, rfl, by decide +kernel, rfl, by decide +kernel, by decide +kernel⟩
theorem fn_rested (B : Blt K mg) {f : Addr} {fd : FuncData} (D : Dm K "rested" "rested" s_rested [V.int 0] [] f fd) (O_rest_L0 : Ok1 P w K mg base 1 "rest" 2 [] F_rest) : FnOk P w K mg base (L2N.CX P w) 2 f fd ["row", "rests"] (spF ⟨K, mg⟩ 2 F_rested) :=
  fnokM_of (k := 1) (N := ["row", "rests", "number"]) (n := 3) D sc_rested rfl (by decide) rfl fun cdv A outer s H E hr =>
      (js_one (js_ret (j_lc rfl sc_rested.nd (ji_seq (j_var 0 (pv 0))) (blkOk_by (own := [("number", 2)]) (by kernel_rfl)) (fun _ _ _ _ _ => (pg_name (i := 2) sc_rested.nd rfl (by first | exact Or.inl rfl | exact Or.inr rfl))) (pat_nm 2) (fun _ _ _ _ _ => jts_nil) (fun _ _ _ _ _ => (j_callO O_rest_L0 (hr.mono (by decide)) (by rfl) takesN0 (ja_cons (j_var 2 (pv 2)) (ja_cons (j_var 1 (pv 1)) ja_nil)))))))
theorem ok_rested_L0 (B : Blt K mg) {f : Addr} {fd : FuncData} (D : Dm K "rested" "rested" s_rested [V.int 0] [] f fd) (O_rest_L0 : Ok1 P w K mg base 1 "rest" 2 [] F_rest) (hm : mg "rested" = some (.ref f)) : Ok1 P w K mg base 2 "rested" 2 [] F_rested := okD_of ⟨D.F, hm⟩ (fn_rested B D O_rest_L0) 2 1 (by simp) rfl (fun _ _ _ _ _ _ _ us its h1 h2 => match us, h1, its, h2 with | [_, _], _, [_], _ => ⟨_, rfl, rfl⟩) (fun _ _ => rfl)
theorem sc_barring : FnScope ["form", "at", "rests", "both", "number"] ["form", "at", "rests"] (defScope s_barring) := ⟨rfl, rfl, rfl, by decide +kernel, rfl, by decide +kernel, by decide +kernel⟩
theorem fn_barring (B : Blt K mg) {f : Addr} {fd : FuncData} (D : Dm K "barring" "barring" s_barring [] [] f fd) (O_Form_step_M0 : OkM P w K mg base 1 "Form" "step" 2 [] F_Form_step) (O_share_L0 : Ok1 P w K mg base 1 "share" 2 [] F_share) (O_rested_L0 : Ok1 P w K mg base 2 "rested" 2 [] F_rested) : FnOk P w K mg base (L2N.CX P w) 3 f fd ["form", "at", "rests"] (spF ⟨K, mg⟩ 3 F_barring) :=
  fnokM_of (k := 2) (N := ["form", "at", "rests", "both", "number"]) (n := 5) D sc_barring rfl (by decide) rfl fun cdv A outer s H E hr =>
      (js_cons (js_if (jt_cmp (or_eq hr) (j_var 2 (pv 2)) (j_globI (by rfl) B.g_WHOLE) (nomark _)) (js_one (js_ret (j_tup (ja_cons j_str (ja_cons (j_callTy cr_listJ (by rfl) B.n_list (by decide +kernel) (ja_cons (j_ix ir_ix (j_fld B.f_Form_left (j_var 0 (pv 0))) (j_var 1 (pv 1)) (fun _ _ => rfl)) ja_nil)) (ja_cons (j_meth O_Form_step_M0 (hr.mono (by decide)) (j_var 0 (pv 0)) (ja_cons (j_var 1 (pv 1)) ja_nil)) ja_nil)))))) js_nil)
      (js_cons (js_set (i := 3) sc_barring.nd rfl (by first | exact Or.inl rfl | exact Or.inr rfl) (j_ix ir_ix (j_callO O_share_L0 (hr.mono (by decide)) (by rfl) (L2N.takes_of rfl rfl rfl rfl) (ja_cons (j_meth O_Form_step_M0 (hr.mono (by decide)) (j_var 0 (pv 0)) (ja_cons (j_var 1 (pv 1)) ja_nil)) (ja_cons (j_var 2 (pv 2)) ja_nil))) j_int (fun _ _ => rfl)))
      (js_one (js_ret (j_tup (ja_cons j_str (ja_cons (j_callO O_rested_L0 (hr.mono (by decide)) (by rfl) (L2N.takes_of rfl rfl rfl rfl) (ja_cons (j_lc rfl sc_barring.nd (ji_seq (j_ix ir_ix (j_fld B.f_Form_left (j_var 0 (pv 0))) (j_var 1 (pv 1)) (fun _ _ => rfl))) (blkOk_by (own := [("number", 4)]) (by kernel_rfl)) (fun _ _ _ _ _ => (pg_name (i := 4) sc_barring.nd rfl (by first | exact Or.inl rfl | exact Or.inr rfl))) (pat_nm 4) (fun _ _ _ _ _ => jts_nil) (fun _ _ _ _ _ => (j_bin or_mul (j_bin or_fdiv (j_var 2 (pv 2)) (j_var 3 (pv 3))) (j_var 4 (pv 4))))) (ja_cons (j_var 2 (pv 2)) ja_nil))) (ja_cons (j_var 2 (pv 2)) ja_nil))))))))
theorem ok_barring_L0 (B : Blt K mg) {f : Addr} {fd : FuncData} (D : Dm K "barring" "barring" s_barring [] [] f fd) (O_Form_step_M0 : OkM P w K mg base 1 "Form" "step" 2 [] F_Form_step) (O_share_L0 : Ok1 P w K mg base 1 "share" 2 [] F_share) (O_rested_L0 : Ok1 P w K mg base 2 "rested" 2 [] F_rested) (hm : mg "barring" = some (.ref f)) : Ok1 P w K mg base 3 "barring" 3 [] F_barring := ok_of ⟨D.F, hm⟩ (fn_barring B D O_Form_step_M0 O_share_L0 O_rested_L0) (fun _ _ _ _ _ _ us hl => match us, hl with | [_, _, _], _ => rfl)
theorem sc_solved : FnScope ["table", "wide", "wish", "rests", "form", "found", "at", "number", "both", "by", "more"] ["table", "wide", "wish", "rests"] (defScope s_solved) := ⟨rfl, rfl, rfl, by decide +kernel, rfl, by decide +kernel, by decide +kernel⟩
theorem fn_solved (B : Blt K mg) {f : Addr} {fd : FuncData} (D : Dm K "solved" "solved" s_solved [] [("rests", V.int 0)] f fd) (O_look_rests_L0 : Ok1 P w K mg base 4 "look_rests" 1 [] F_look_rests) (O_Form_init_C : OkC P w K mg base 5 "Form" 3 [] F_Form_init) (O_timed_L0 : Ok1 P w K mg base 2 "timed" 2 [] F_timed) (O_Form_step_M0 : OkM P w K mg base 1 "Form" "step" 2 [] F_Form_step) (O_share_L0 : Ok1 P w K mg base 1 "share" 2 [] F_share) (O_barring_L0 : Ok1 P w K mg base 3 "barring" 3 [] F_barring) (O_rested_L0 : Ok1 P w K mg base 2 "rested" 2 [] F_rested) : FnOk P w K mg base (L2N.CX P w) 7 f fd ["table", "wide", "wish", "rests"] (spF ⟨K, mg⟩ 4 F_solved) :=
  fnokM_of (k := 6) (N := ["table", "wide", "wish", "rests", "form", "found", "at", "number", "both", "by", "more"]) (n := 11) D sc_solved rfl (by decide) rfl fun cdv A outer s H E hr =>
      (js_cons (js_expr (j_callO O_look_rests_L0 (hr.mono (by decide)) (by rfl) (L2N.takes_of rfl rfl rfl rfl) (ja_cons (j_var 3 (pv 3)) ja_nil)))
      (js_cons (js_set (i := 4) sc_solved.nd rfl (by first | exact Or.inl rfl | exact Or.inr rfl) (j_make O_Form_init_C (hr.mono (by decide)) (by rfl) (ja_cons (j_var 0 (pv 0)) (ja_cons (j_var 1 (pv 1)) ja_nil))))
      (js_cons (js_set (i := 5) sc_solved.nd rfl (by first | exact Or.inl rfl | exact Or.inr rfl) (j_repO (j_lst (ja_cons j_int ja_nil)) (j_var 1 (pv 1))))
      (js_cons (js_for (passes_of rfl) rfl (ji_enum (by rfl) B.n_enumerate (ja_cons (j_callO O_timed_L0 (hr.mono (by decide)) (by rfl) (L2N.takes_of rfl rfl rfl rfl) (ja_cons (j_fld B.f_Form_left (j_var 4 (pv 4))) (ja_cons (j_var 2 (pv 2)) ja_nil))) ja_nil)) (pg_tup rfl (pgs_cons (pg_name (i := 6) sc_solved.nd rfl (by first | exact Or.inl rfl | exact Or.inr rfl)) (pgs_cons (pg_name (i := 7) sc_solved.nd rfl (by first | exact Or.inl rfl | exact Or.inr rfl)) pgs_nil))) (pat_tup (pats_cons (pat_nm 6) (pats_cons (pat_nm 7) pats_nil))) (js_cons (js_asg (j_callO O_share_L0 (hr.mono (by decide)) (by rfl) (L2N.takes_of rfl rfl rfl rfl) (ja_cons (j_meth O_Form_step_M0 (hr.mono (by decide)) (j_var 4 (pv 4)) (ja_cons (j_var 6 (pv 6)) ja_nil)) (ja_cons (j_var 3 (pv 3)) ja_nil))) (pg_tup rfl (pgs_cons (pg_name (i := 8) sc_solved.nd rfl (by first | exact Or.inl rfl | exact Or.inr rfl)) (pgs_cons (pg_name (i := 9) sc_solved.nd rfl (by first | exact Or.inl rfl | exact Or.inr rfl)) (pgs_cons (pg_name (i := 10) sc_solved.nd rfl (by first | exact Or.inl rfl | exact Or.inr rfl)) pgs_nil)))) (pat_tup (pats_cons (pat_nm 8) (pats_cons (pat_nm 9) (pats_cons (pat_nm 10) pats_nil)))))
      (js_cons (js_if (PW.pt (jw_or (PW.pt (jw_and (jt_cmp (or_eq hr) (j_var 8 (pv 8)) j_int (nomark _)) (jw_and1 (jt_cmp (or_ne hr) (j_var 7 (pv 7)) j_int (nomark _))))) (jw_or1 (PW.pt (jw_and (jt_cmp or_gt (j_var 8 (pv 8)) j_int (nomark _)) (jw_and1 (jt_cmp (or_ne hr) (j_bin or_mod (j_var 7 (pv 7)) (j_var 8 (pv 8))) j_int (nomark _)))))))) (js_one (js_ret (j_callO O_barring_L0 (hr.mono (by decide)) (by rfl) (L2N.takes_of rfl rfl rfl rfl) (ja_cons (j_var 4 (pv 4)) (ja_cons (j_var 6 (pv 6)) (ja_cons (j_var 3 (pv 3)) ja_nil)))))) js_nil)
      (js_one (js_if (PW.pt (jw_and (jt_cmp or_lt (j_var 6 (pv 6)) (j_var 1 (pv 1)) (nomark _)) (jw_and1 (jt_cmp or_gt (j_var 8 (pv 8)) j_int (nomark _))))) (js_one (js_setI (j_bin or_mul (j_var 9 (pv 9)) (j_bin or_fdiv (j_var 7 (pv 7)) (j_var 8 (pv 8)))) (j_var 5 (pv 5)) (j_var 6 (pv 6)))) js_nil)))))
      (js_one (js_ret (j_tup (ja_cons j_str (ja_cons (j_callO O_rested_L0 (hr.mono (by decide)) (by rfl) (L2N.takes_of rfl rfl rfl rfl) (ja_cons (j_callO O_timed_L0 (hr.mono (by decide)) (by rfl) (L2N.takes_of rfl rfl rfl rfl) (ja_cons (j_fld B.f_Form_right (j_var 4 (pv 4))) (ja_cons (j_frzD (j_var 5 (pv 5))) ja_nil))) (ja_cons (j_var 3 (pv 3)) ja_nil))) ja_nil)))))))))
theorem ok_solved_K (B : Blt K mg) {f : Addr} {fd : FuncData} (D : Dm K "solved" "solved" s_solved [] [("rests", V.int 0)] f fd) (O_look_rests_L0 : Ok1 P w K mg base 4 "look_rests" 1 [] F_look_rests) (O_Form_init_C : OkC P w K mg base 5 "Form" 3 [] F_Form_init) (O_timed_L0 : Ok1 P w K mg base 2 "timed" 2 [] F_timed) (O_Form_step_M0 : OkM P w K mg base 1 "Form" "step" 2 [] F_Form_step) (O_share_L0 : Ok1 P w K mg base 1 "share" 2 [] F_share) (O_barring_L0 : Ok1 P w K mg base 3 "barring" 3 [] F_barring) (O_rested_L0 : Ok1 P w K mg base 2 "rested" 2 [] F_rested) (hm : mg "solved" = some (.ref f)) : OkK P w K mg base 7 "solved" 3 ["rests"] 4 F_solved := okK_of ⟨D.F, hm⟩ (fn_solved B D O_look_rests_L0 O_Form_init_C O_timed_L0 O_Form_step_M0 O_share_L0 O_barring_L0 O_rested_L0) 3 ["rests"] (fun _ _ _ _ _ _ us ws h1 h2 => match us, h1, ws, h2 with | [_, _, _], _, [_], _ => rfl)
theorem sc_bars : FnScope ["table", "wide", "wish", "row", "many", "rests", "column", "line"] ["table", "wide", "wish", "row", "many", "rests"] (defScope s_bars) := ⟨rfl, rfl, rfl, by decide +kernel, rfl, by decide +kernel, by decide +kernel⟩
theorem fn_bars (B : Blt K mg) {f : Addr} {fd : FuncData} (D : Dm K "bars" "bars" s_bars [] [] f fd) (O_paired_L0 : Ok1 P w K mg base 1 "paired" 2 [] F_paired) (O_rest_L0 : Ok1 P w K mg base 1 "rest" 2 [] F_rest) : FnOk P w K mg base (L2N.CX P w) 2 f fd ["table", "wide", "wish", "row", "many", "rests"] (spF ⟨K, mg⟩ 6 F_bars) :=
  fnokM_of (k := 1) (N := ["table", "wide", "wish", "row", "many", "rests", "column", "line"]) (n := 8) D sc_bars rfl (by decide) rfl fun cdv A outer s H E hr =>
      (js_cons (js_if (PW.pt (jw_or (jt_cmp or_lt (j_var 4 (pv 4)) j_int (nomark _)) (jw_or (jt_cmp (or_eq hr) (j_var 4 (pv 4)) j_int (nomark _)) (jw_or (PW.pt (jw_and (jt_cmp (or_ne hr) (j_var 5 (pv 5)) (j_globI (by rfl) B.g_WHOLE) (nomark _)) (jw_and1 (jt_cmp (or_ne hr) (j_var 4 (pv 4)) (j_var 5 (pv 5)) (nomark _))))) (jw_or1 (jt_cmp (or_ne hr) (j_callB cr_len (by rfl) B.n_len (by decide +kernel) (ja_cons (j_var 3 (pv 3)) ja_nil)) (j_callB cr_len (by rfl) B.n_len (by decide +kernel) (ja_cons (j_var 0 (pv 0)) ja_nil)) (nomark _))))))) (js_one (js_ret j_bl)) js_nil)
      (js_cons (js_for (passes_of rfl) rfl (ji_range1 (by rfl) B.n_range (j_var 1 (pv 1))) (pg_name (i := 6) sc_bars.nd rfl (by first | exact Or.inl rfl | exact Or.inr rfl)) (pat_nm 6) (js_one (js_if (jt_cmp (or_ne hr) (j_callO O_rest_L0 (hr.mono (by decide)) (by rfl) (L2N.takes_of rfl rfl rfl rfl) (ja_cons (j_callO O_paired_L0 (hr.mono (by decide)) (by rfl) (L2N.takes_of rfl rfl rfl rfl) (ja_cons (j_var 3 (pv 3)) (ja_cons (j_lc rfl sc_bars.nd (ji_seq (j_var 0 (pv 0))) (blkOk_by (own := [("line", 7)]) (by kernel_rfl)) (fun _ _ _ _ _ => (pg_name (i := 7) sc_bars.nd rfl (by first | exact Or.inl rfl | exact Or.inr rfl))) (pat_nm 7) (fun _ _ _ _ _ => jts_nil) (fun _ _ _ _ _ => (j_ix ir_ix (j_var 7 (pv 7)) (j_var 6 (pv 6)) (fun _ _ => rfl)))) ja_nil))) (ja_cons (j_var 4 (pv 4)) ja_nil))) j_int (nomark _)) (js_one (js_ret j_bl)) js_nil)))
      (js_one (js_ret (j_cmp (or_ne hr) (j_callO O_rest_L0 (hr.mono (by decide)) (by rfl) (L2N.takes_of rfl rfl rfl rfl) (ja_cons (j_callO O_paired_L0 (hr.mono (by decide)) (by rfl) (L2N.takes_of rfl rfl rfl rfl) (ja_cons (j_var 3 (pv 3)) (ja_cons (j_var 2 (pv 2)) ja_nil))) (ja_cons (j_var 4 (pv 4)) ja_nil))) j_int (nomark _))))))
theorem ok_bars_L0 (B : Blt K mg) {f : Addr} {fd : FuncData} (D : Dm K "bars" "bars" s_bars [] [] f fd) (O_paired_L0 : Ok1 P w K mg base 1 "paired" 2 [] F_paired) (O_rest_L0 : Ok1 P w K mg base 1 "rest" 2 [] F_rest) (hm : mg "bars" = some (.ref f)) : Ok1 P w K mg base 2 "bars" 6 [] F_bars := ok_of ⟨D.F, hm⟩ (fn_bars B D O_paired_L0 O_rest_L0) (fun _ _ _ _ _ _ us hl => match us, hl with | [_, _, _, _, _, _], _ => rfl)
theorem sc_judged : FnScope ["table", "wide", "wish", "told", "rests", "word", "row", "more"] ["table", "wide", "wish", "told", "rests"] (defScope s_judged) := ⟨rfl, rfl, rfl, by decide +kernel, rfl, by decide +kernel, by decide +kernel⟩
theorem fn_judged (B : Blt K mg) {f : Addr} {fd : FuncData} (D : Dm K "judged" "judged" s_judged [] [("rests", V.int 0)] f fd) (O_look_rests_L0 : Ok1 P w K mg base 4 "look_rests" 1 [] F_look_rests) (O_timed_L0 : Ok1 P w K mg base 2 "timed" 2 [] F_timed) (O_rested_L0 : Ok1 P w K mg base 2 "rested" 2 [] F_rested) (O_bars_L0 : Ok1 P w K mg base 2 "bars" 6 [] F_bars) : FnOk P w K mg base (L2N.CX P w) 5 f fd ["table", "wide", "wish", "told", "rests"] (spF ⟨K, mg⟩ 5 F_judged) :=
  fnokM_of (k := 4) (N := ["table", "wide", "wish", "told", "rests", "word", "row", "more"]) (n := 8) D sc_judged rfl (by decide) rfl fun cdv A outer s H E hr =>
      (js_cons (js_expr (j_callO O_look_rests_L0 (hr.mono (by decide)) (by rfl) (L2N.takes_of rfl rfl rfl rfl) (ja_cons (j_var 4 (pv 4)) ja_nil)))
      (js_cons (js_star2 rfl (j_var 3 (pv 3)) (pg_name (i := 5) sc_judged.nd rfl (by first | exact Or.inl rfl | exact Or.inr rfl)) (pg_name (i := 6) sc_judged.nd rfl (by first | exact Or.inl rfl | exact Or.inr rfl)) (pg_name (i := 7) sc_judged.nd rfl (by first | exact Or.inl rfl | exact Or.inr rfl)))
      (js_cons (js_if (PW.pt (jw_and (jt_cmp (or_eq hr) (j_var 5 (pv 5)) j_str (nomark _)) (jw_and1 (jt_cmp (or_eq hr) (j_var 7 (pv 7)) (j_lst ja_nil) (nomark _))))) (js_one (js_ret (j_and (j_cmp (or_eq hr) (j_callB cr_len (by rfl) B.n_len (by decide +kernel) (ja_cons (j_var 6 (pv 6)) ja_nil)) (j_var 1 (pv 1)) (nomark _)) (j_one (j_cmp (or_eq hr) (j_callO O_rested_L0 (hr.mono (by decide)) (by rfl) (L2N.takes_of rfl rfl rfl rfl) (ja_cons (j_callO O_timed_L0 (hr.mono (by decide)) (by rfl) (L2N.takes_of rfl rfl rfl rfl) (ja_cons (j_var 0 (pv 0)) (ja_cons (j_var 6 (pv 6)) ja_nil))) (ja_cons (j_var 4 (pv 4)) ja_nil))) (j_callO O_rested_L0 (hr.mono (by decide)) (by rfl) (L2N.takes_of rfl rfl rfl rfl) (ja_cons (j_var 2 (pv 2)) (ja_cons (j_var 4 (pv 4)) ja_nil))) (nomark _)))))) js_nil)
      (js_one (js_ret (j_and (j_cmp (or_eq hr) (j_var 5 (pv 5)) j_str (nomark _)) (j_and (j_cmp (or_eq hr) (j_callB cr_len (by rfl) B.n_len (by decide +kernel) (ja_cons (j_var 7 (pv 7)) ja_nil)) j_int (nomark _)) (j_one (j_callO O_bars_L0 (hr.mono (by decide)) (by rfl) (L2N.takes_of rfl rfl rfl rfl) (ja_cons (j_var 0 (pv 0)) (ja_cons (j_var 1 (pv 1)) (ja_cons (j_var 2 (pv 2)) (ja_cons (j_var 6 (pv 6)) (ja_cons (j_ix ir_ix (j_var 7 (pv 7)) j_int (fun _ _ => rfl)) (ja_cons (j_var 4 (pv 4)) ja_nil)))))))))))))))
theorem ok_judged_K (B : Blt K mg) {f : Addr} {fd : FuncData} (D : Dm K "judged" "judged" s_judged [] [("rests", V.int 0)] f fd) (O_look_rests_L0 : Ok1 P w K mg base 4 "look_rests" 1 [] F_look_rests) (O_timed_L0 : Ok1 P w K mg base 2 "timed" 2 [] F_timed) (O_rested_L0 : Ok1 P w K mg base 2 "rested" 2 [] F_rested) (O_bars_L0 : Ok1 P w K mg base 2 "bars" 6 [] F_bars) (hm : mg "judged" = some (.ref f)) : OkK P w K mg base 5 "judged" 4 ["rests"] 5 F_judged := okK_of ⟨D.F, hm⟩ (fn_judged B D O_look_rests_L0 O_timed_L0 O_rested_L0 O_bars_L0) 4 ["rests"] (fun _ _ _ _ _ _ us ws h1 h2 => match us, h1, ws, h2 with | [_, _, _, _], _, [_], _ => rfl)
theorem sc_law : FnScope ["_law_script", "_law_box_here", "_law_k", "_law_some", "_law_fold", "_law_due"] ["_law_script"] (defScope s_law) := ⟨rfl, rfl, rfl, by decide +kernel, rfl, by decide +kernel, by decide +kernel⟩
theorem fn_law (B : Blt K mg) {f : Addr} {fd : FuncData} (D : Dm K "law" "law" s_law [] [] f fd) (O_law_box_L0 : Ok1 P w K mg base 1 "_law_box" 1 [] F_law_box) (O_law_take_L0 : Ok1 P w K mg base 2 "_law_take" 2 [] F_law_take) (O_solved_K : OkK P w K mg base 7 "solved" 3 ["rests"] 4 F_solved) (O_judged_K : OkK P w K mg base 5 "judged" 4 ["rests"] 5 F_judged) (O_R : OkR P w K mg base ["BadRests"] 0) {cL PL : Addr} (TB : LamX.TabB base mg cL PL) (hTab : PySem.W.tabIn K lamFn = some (cL, PL)) (hns : PySem.W.nsIn K mainGlobals "law" = some (some (.ref f))) : FnOk P w K mg base (L2N.CX P w) 10 f fd ["_law_script"] (spF ⟨K, mg⟩ 1 F_law) :=
  fn_okL (k := 9) (N := ["_law_script", "_law_box_here", "_law_k", "_law_some", "_law_fold", "_law_due"]) (n := 6) D.F hns hTab sc_law rfl (by decide) rfl fun A outer s H E hr =>
      (js_cons (js_set (i := 1) sc_law.nd rfl (by first | exact Or.inl rfl | exact Or.inr rfl) (j_callO O_law_box_L0 (hr.mono (by decide)) (by rfl) (L2N.takes_of rfl rfl rfl rfl) (ja_cons (j_var 0 (pv 0)) ja_nil)))
      (js_cons (js_for (passes_of rfl) rfl (ji_range1 (by rfl) B.n_range j_int) (pg_name (i := 2) sc_law.nd rfl (by first | exact Or.inl rfl | exact Or.inr rfl)) (pat_nm 2) (js_cons (js_set (i := 3) sc_law.nd rfl (by first | exact Or.inl rfl | exact Or.inr rfl) (j_lst (ja_cons j_int (ja_cons j_int (ja_cons j_int (ja_cons j_int (ja_cons j_int (ja_cons (j_un ur_neg j_int) (ja_cons (j_bin or_sub (j_un ur_neg j_int) (j_callO O_law_take_L0 (hr.mono (by decide)) (by rfl) (L2N.takes_of rfl rfl rfl rfl) (ja_cons (j_var 1 (pv 1)) (ja_cons j_int ja_nil)))) (ja_cons (j_bin or_add j_int (j_callO O_law_take_L0 (hr.mono (by decide)) (by rfl) (L2N.takes_of rfl rfl rfl rfl) (ja_cons (j_var 1 (pv 1)) (ja_cons (j_bin or_pow j_int j_int) ja_nil)))) (ja_cons (j_bin or_add j_int (j_callO O_law_take_L0 (hr.mono (by decide)) (by rfl) (L2N.takes_of rfl rfl rfl rfl) (ja_cons (j_var 1 (pv 1)) (ja_cons j_int ja_nil)))) ja_nil)))))))))))
      (js_cons (js_set (i := 4) sc_law.nd rfl (by first | exact Or.inl rfl | exact Or.inr rfl) (j_ix ir_ix (j_var 3 (pv 3)) (j_callO O_law_take_L0 (hr.mono (by decide)) (by rfl) (L2N.takes_of rfl rfl rfl rfl) (ja_cons (j_var 1 (pv 1)) (ja_cons j_int ja_nil))) (fun _ _ => rfl)))
      (js_cons (js_set (i := 5) sc_law.nd rfl (by first | exact Or.inl rfl | exact Or.inr rfl) (j_if (PW.pt (jw_or (jt_cmp (or_eq hr) (j_var 4 (pv 4)) j_int (nomark _)) (jw_or1 (jt_chain or_le or_le j_int (j_var 4 (pv 4)) j_int)))) (j_tup (ja_cons j_str (ja_cons (j_un ur_neg j_int) ja_nil))) (j_tup (ja_cons j_str (ja_cons (j_un ur_neg j_int) ja_nil)))))
      (js_cons (js_if (jt_cmp (or_ne hr) (j_ref (k := 7) O_R (by rfl) TB rfl hTab (by rfl) (hr.mono (by decide)) (by decide) (LamX.lamS_by (by kernel_rfl)) rfl (fun _ _ _ _ _ => rfl) (fun A outer s H E f c' hr => (j_callKw O_solved_K (hr.mono (by decide)) (by rfl) (L2N.takes_of rfl rfl rfl rfl) (ja_cons (j_lst (ja_cons (j_lst (ja_cons j_int (ja_cons j_int ja_nil))) ja_nil)) (ja_cons j_int (ja_cons (j_lst (ja_cons j_int ja_nil)) ja_nil))) (jk_cons (j_var 4 (pv 4)) jk_nil)))) (j_var 5 (pv 5)) (nomark _)) (js_one (js_ret j_bl)) js_nil)
      (js_one (js_if (jt_cmp (or_ne hr) (j_ref (k := 7) O_R (by rfl) TB rfl hTab (by rfl) (hr.mono (by decide)) (by decide) (LamX.lamS_by (by kernel_rfl)) rfl (fun _ _ _ _ _ => rfl) (fun A outer s H E f c' hr => (j_callKw O_judged_K (hr.mono (by decide)) (by rfl) (L2N.takes_of rfl rfl rfl rfl) (ja_cons (j_lst (ja_cons (j_lst (ja_cons j_int (ja_cons j_int ja_nil))) ja_nil)) (ja_cons j_int (ja_cons (j_lst (ja_cons j_int ja_nil)) (ja_cons (j_tup (ja_cons j_str (ja_cons (j_lst (ja_cons j_int (ja_cons j_int ja_nil))) ja_nil))) ja_nil)))) (jk_cons (j_var 4 (pv 4)) jk_nil)))) (j_var 5 (pv 5)) (nomark _)) (js_one (js_ret j_bl)) js_nil)))))))
      (js_one (js_ret j_bl))))
end
theorem ex_at {h : Heap} {K : PySem.W.Frag} (Y : SaysL fs fn ex h K) {b : Bool} (i : Nat) (e : (exs K)[i]? = some b) : b = true := by
  have q := List.all_eq_true.mp Y.2.2 b (List.mem_of_getElem? e)
  exact q
theorem all_mk {P : Program} {w : World} {K : PySem.W.Frag} {h : Heap} {mg : Str → Option Value} {fa : Addr} (Y : SaysL fs fn ex h K) (G : h.Ns mainGlobals mg) (hfa : mg "law" = some (.ref fa))
    : ∃ (fd : FuncData) (cc TT : Addr), PySem.W.tabIn K lamFn = some (cc, TT) ∧ K.lookup TT = none ∧ (∀ (s : Shared) (v : Value), BindsTo s fd ⟨[v], []⟩ [("_law_script", v)]) ∧ ∀ base : Heap, K.In base → base.Ns mainGlobals mg → LamX.TabB base mg cc TT → FnOk P w K mg base (L2N.CX P w) 10 fa fd ["_law_script"] (spF ⟨K, mg⟩ 1 F_law) := by
  have e := hfa.symm.trans (Y.glo (x := "law") G 39 rfl)
  cases e
  have T_Form : ClsT K mg "Form" (He.ga K "Form") := Y.cls G 0 1 rfl rfl
  have M_Form := He.mkr_ok (Y.f (f := .mkr "Form") 2 rfl)
  have B : Blt K mg := ⟨Y.free G 3 rfl, Y.free G 4 rfl, Y.free G 5 rfl, Y.free G 6 rfl, Y.free G 7 rfl, Y.free G 8 rfl, Y.free G 9 rfl, Y.free G 10 rfl, Y.free G 11 rfl, Y.free G 12 rfl, Y.free G 13 rfl, Y.free G 14 rfl, Y.int G 15 rfl, Y.int G 16 rfl, fld_of T_Form (He.eqO_ok (Y.f (f := .noat "Form" "left") 17 rfl)), fld_of T_Form (He.eqO_ok (Y.f (f := .noat "Form" "level") 18 rfl)), fld_of T_Form (He.eqO_ok (Y.f (f := .noat "Form" "right") 19 rfl)), fld_of T_Form (He.eqO_ok (Y.f (f := .noat "Form" "steps") 20 rfl)), fld_of T_Form (He.eqO_ok (Y.f (f := .noat "Form" "unleft") 21 rfl)), fld_of T_Form (He.eqO_ok (Y.f (f := .noat "Form" "unright") 22 rfl)), fld_of T_Form (He.eqO_ok (Y.f (f := .noat "Form" "wide") 23 rfl))⟩
  obtain ⟨fd0, D0⟩ : ∃ fd, Dm K "_law_box" "_law_box" s_law_box [] [] (He.ga K "_law_box") fd := Y.dm (st := s_law_box) (df := []) (kw := []) 0 rfl
  have hm0 := Y.glo (x := "_law_box") G 24 rfl
  obtain ⟨fd1, D1⟩ : ∃ fd, Dm K "_law_mixed" "_law_mixed" s_law_mixed [] [] (He.ga K "_law_mixed") fd := Y.dm (st := s_law_mixed) (df := []) (kw := []) 1 rfl
  have hm1 := Y.glo (x := "_law_mixed") G 25 rfl
  obtain ⟨fd2, D2⟩ : ∃ fd, Dm K "_law_take" "_law_take" s_law_take [] [] (He.ga K "_law_take") fd := Y.dm (st := s_law_take) (df := []) (kw := []) 2 rfl
  have hm2 := Y.glo (x := "_law_take") G 26 rfl
  obtain ⟨fd3, D3⟩ : ∃ fd, Dm K "look_rests" "look_rests" s_look_rests [] [] (He.ga K "look_rests") fd := Y.dm (st := s_look_rests) (df := []) (kw := []) 3 rfl
  have hm3 := Y.glo (x := "look_rests") G 27 rfl
  obtain ⟨fd4, D4⟩ : ∃ fd, Dm K "unit" "unit" s_unit [] [] (He.ga K "unit") fd := Y.dm (st := s_unit) (df := []) (kw := []) 4 rfl
  have hm4 := Y.glo (x := "unit") G 28 rfl
  obtain ⟨fd5, D5⟩ : ∃ fd, Dm K "least_place" "Form.least_place" s_Form_least_place [] [] (He.ma K (He.ga K "Form") "least_place") fd := Y.mm (st := s_Form_least_place) (df := []) (kw := []) 5 rfl
  obtain ⟨fd6, D6⟩ : ∃ fd, Dm K "to_corner" "Form.to_corner" s_Form_to_corner [] [] (He.ma K (He.ga K "Form") "to_corner") fd := Y.mm (st := s_Form_to_corner) (df := []) (kw := []) 6 rfl
  obtain ⟨fd7, D7⟩ : ∃ fd, Dm K "lessened" "lessened" s_lessened [] [] (He.ga K "lessened") fd := Y.dm (st := s_lessened) (df := []) (kw := []) 7 rfl
  have hm7 := Y.glo (x := "lessened") G 29 rfl
  obtain ⟨fd8, D8⟩ : ∃ fd, Dm K "lower_row" "Form.lower_row" s_Form_lower_row [] [] (He.ma K (He.ga K "Form") "lower_row") fd := Y.mm (st := s_Form_lower_row) (df := []) (kw := []) 8 rfl
  obtain ⟨fd9, D9⟩ : ∃ fd, Dm K "lower_column" "Form.lower_column" s_Form_lower_column [] [] (He.ma K (He.ga K "Form") "lower_column") fd := Y.mm (st := s_Form_lower_column) (df := []) (kw := []) 9 rfl
  obtain ⟨fd10, D10⟩ : ∃ fd, Dm K "clear_corner" "Form.clear_corner" s_Form_clear_corner [] [] (He.ma K (He.ga K "Form") "clear_corner") fd := Y.mm (st := s_Form_clear_corner) (df := []) (kw := []) 10 rfl
  obtain ⟨fd11, D11⟩ : ∃ fd, Dm K "spread" "Form.spread" s_Form_spread [] [] (He.ma K (He.ga K "Form") "spread") fd := Y.mm (st := s_Form_spread) (df := []) (kw := []) 11 rfl
  obtain ⟨fd12, D12⟩ : ∃ fd, Dm K "__init__" "Form.__init__" s_Form_init [] [] (He.ma K (He.ga K "Form") "__init__") fd := Y.mm (st := s_Form_init) (df := []) (kw := []) 12 rfl
  obtain ⟨fd13, D13⟩ : ∃ fd, Dm K "paired" "paired" s_paired [] [] (He.ga K "paired") fd := Y.dm (st := s_paired) (df := []) (kw := []) 13 rfl
  have hm13 := Y.glo (x := "paired") G 30 rfl
  obtain ⟨fd14, D14⟩ : ∃ fd, Dm K "timed" "timed" s_timed [] [] (He.ga K "timed") fd := Y.dm (st := s_timed) (df := []) (kw := []) 14 rfl
  have hm14 := Y.glo (x := "timed") G 31 rfl
  obtain ⟨fd15, D15⟩ : ∃ fd, Dm K "step" "Form.step" s_Form_step [] [] (He.ma K (He.ga K "Form") "step") fd := Y.mm (st := s_Form_step) (df := []) (kw := []) 15 rfl
  obtain ⟨fd16, D16⟩ : ∃ fd, Dm K "share" "share" s_share [] [] (He.ga K "share") fd := Y.dm (st := s_share) (df := []) (kw := []) 16 rfl
  have hm16 := Y.glo (x := "share") G 32 rfl
  obtain ⟨fd17, D17⟩ : ∃ fd, Dm K "rest" "rest" s_rest [V.int 0] [] (He.ga K "rest") fd := Y.dm (st := s_rest) (df := [.int 0]) (kw := []) 17 rfl
  have hm17 := Y.glo (x := "rest") G 33 rfl
  obtain ⟨fd18, D18⟩ : ∃ fd, Dm K "rested" "rested" s_rested [V.int 0] [] (He.ga K "rested") fd := Y.dm (st := s_rested) (df := [.int 0]) (kw := []) 18 rfl
  have hm18 := Y.glo (x := "rested") G 34 rfl
  obtain ⟨fd19, D19⟩ : ∃ fd, Dm K "barring" "barring" s_barring [] [] (He.ga K "barring") fd := Y.dm (st := s_barring) (df := []) (kw := []) 19 rfl
  have hm19 := Y.glo (x := "barring") G 35 rfl
  obtain ⟨fd20, D20⟩ : ∃ fd, Dm K "solved" "solved" s_solved [] [("rests", V.int 0)] (He.ga K "solved") fd := Y.dm (st := s_solved) (df := []) (kw := [("rests", .int 0)]) 20 rfl
  have hm20 := Y.glo (x := "solved") G 36 rfl
  obtain ⟨fd21, D21⟩ : ∃ fd, Dm K "bars" "bars" s_bars [] [] (He.ga K "bars") fd := Y.dm (st := s_bars) (df := []) (kw := []) 21 rfl
  have hm21 := Y.glo (x := "bars") G 37 rfl
  obtain ⟨fd22, D22⟩ : ∃ fd, Dm K "judged" "judged" s_judged [] [("rests", V.int 0)] (He.ga K "judged") fd := Y.dm (st := s_judged) (df := []) (kw := [("rests", .int 0)]) 22 rfl
  have hm22 := Y.glo (x := "judged") G 38 rfl
  obtain ⟨fd23, D23⟩ : ∃ fd, Dm K "law" "law" s_law [] [] (He.ga K "law") fd := Y.dm (st := s_law) (df := []) (kw := []) 23 rfl
  have hm23 := Y.glo (x := "law") G 39 rfl
  obtain ⟨fdWE, DWE⟩ : ∃ fd, Dm K "__init__" "WebError.__init__" s_WebError_init [V.str "WebError", V.int (-1)] [] (He.ma K (He.ga K "WebError") "__init__") fd := Y.mm (st := s_WebError_init) (df := [.str "WebError", .int (-1)]) (kw := []) 24 rfl
  obtain ⟨fdXBadRests, DXBadRests⟩ : ∃ fd, Dm K "__init__" "BadRests.__init__" s_BadRests_init [V.int (-1)] [] (He.ma K (He.ga K "BadRests") "__init__") fd := Y.mm (st := s_BadRests_init) (df := [.int (-1)]) (kw := []) 25 rfl
  obtain ⟨fdRF, DRF⟩ : ∃ fd, Dm K "_law_refusal" "_law_refusal" s_law_refusal [] [] (He.ga K "_law_refusal") fd := Y.dm (st := s_law_refusal) (df := []) (kw := []) 26 rfl
  have hmRF := Y.glo (x := "_law_refusal") G 40 rfl
  obtain ⟨fdKI, DKI⟩ : ∃ fd, Dm K "_law_kinds" "_law_kinds" s_law_kinds [] [] (He.ga K "_law_kinds") fd := Y.dm (st := s_law_kinds) (df := []) (kw := []) 27 rfl
  have hmKI := Y.glo (x := "_law_kinds") G 41 rfl
  obtain ⟨cL, PL, hTab, tn⟩ := tabB_ok (ex_at Y 0 rfl)
  refine ⟨fd23, cL, PL, hTab, tn, fun s v => FunD.bindsA (ps := ["_law_script"]) D23.F (fun _ _ _ _ _ _ us hl => match us, hl with | [_], _ => rfl) s [v] rfl, fun base _ _ TB => ?_⟩
  have mW := Y.glo (x := "WebError") G 42 rfl
  obtain ⟨we1, we2, we3⟩ := weB_ok (ex_at Y 1 rfl)
  obtain ⟨dsW, vW, bW⟩ := DWE.F.binds1 (ps := ["self", "word", "at"]) 3 2 (by simp) rfl (fun _ _ _ _ _ _ _ us its h1 h2 => match us, h1, its, h2 with | [_, _, _], _, [_, _], _ => ⟨_, rfl, rfl⟩)
  cases vW
  obtain ⟨xc_BadRests, rb_BadRests, ai_BadRests, ti_BadRests⟩ := xrB_ok (ex_at Y 2 rfl)
  have mx_BadRests := Y.glo (x := "BadRests") G 43 rfl
  have O_X_BadRests : OkX P w K mg base 2 "BadRests" := okX_mk DXBadRests (ox_BadRests DXBadRests mW ⟨we1, we2⟩ we3 DWE.F.kp (we_L DWE) bW) mx_BadRests xc_BadRests ai_BadRests ti_BadRests (fun _ _ _ _ _ _ _ us its h1 h2 => match us, h1, its, h2 with | [_], _, [_], _ => ⟨_, rfl, rfl⟩) (fun _ _ _ _ _ _ _ us its h1 h2 => match us, h1, its, h2 with | [_, _], _, [_], _ => ⟨_, rfl, rfl⟩)
  have O_R := okR_L (P := P) (w := w) (base := base) B mW DRF hmRF DKI hmKI (fun x hx => by simp only [List.mem_cons, List.not_mem_nil, or_false] at hx; subst hx <;> first | exact ⟨4, _, refB_ok Y.1 G mx_BadRests rb_BadRests⟩)
  have O_law_box_L0 := ok_law_box_L0 (P := P) (w := w) (base := base) B D0 hm0
  have O_law_mixed_L0 := ok_law_mixed_L0 (P := P) (w := w) (base := base) B D1 hm1
  have O_law_take_L0 := ok_law_take_L0 (P := P) (w := w) (base := base) B D2 O_law_mixed_L0 hm2
  have O_look_rests_L0 := ok_look_rests_L0 (P := P) (w := w) (base := base) B D3 O_X_BadRests hm3
  have O_unit_L0 := ok_unit_L0 (P := P) (w := w) (base := base) B D4 hm4
  have O_Form_least_place_M0 := ok_Form_least_place_M0 (P := P) (w := w) (base := base) B D5 T_Form (He.meth_ok (Y.f (f := .meth "Form" "least_place") 44 rfl))
  have O_Form_to_corner_M0 := ok_Form_to_corner_M0 (P := P) (w := w) (base := base) B D6 T_Form (He.meth_ok (Y.f (f := .meth "Form" "to_corner") 45 rfl))
  have O_lessened_L0 := ok_lessened_L0 (P := P) (w := w) (base := base) B D7 hm7
  have O_Form_lower_row_M0 := ok_Form_lower_row_M0 (P := P) (w := w) (base := base) B D8 O_lessened_L0 T_Form (He.meth_ok (Y.f (f := .meth "Form" "lower_row") 46 rfl))
  have O_Form_lower_column_M0 := ok_Form_lower_column_M0 (P := P) (w := w) (base := base) B D9 O_lessened_L0 T_Form (He.meth_ok (Y.f (f := .meth "Form" "lower_column") 47 rfl))
  have O_Form_clear_corner_M0 := ok_Form_clear_corner_M0 (P := P) (w := w) (base := base) B D10 O_Form_lower_row_M0 O_Form_lower_column_M0 T_Form (He.meth_ok (Y.f (f := .meth "Form" "clear_corner") 48 rfl))
  have O_Form_spread_M0 := ok_Form_spread_M0 (P := P) (w := w) (base := base) B D11 O_Form_least_place_M0 O_Form_to_corner_M0 O_Form_clear_corner_M0 T_Form (He.meth_ok (Y.f (f := .meth "Form" "spread") 49 rfl))
  have O_Form_init_C := ok_Form_init_C (P := P) (w := w) (base := base) B D12 O_unit_L0 O_Form_spread_M0 T_Form M_Form
  have O_paired_L0 := ok_paired_L0 (P := P) (w := w) (base := base) B D13 hm13
  have O_timed_L0 := ok_timed_L0 (P := P) (w := w) (base := base) B D14 O_paired_L0 hm14
  have O_Form_step_M0 := ok_Form_step_M0 (P := P) (w := w) (base := base) B D15 T_Form (He.meth_ok (Y.f (f := .meth "Form" "step") 50 rfl))
  have O_share_L0 := ok_share_L0 (P := P) (w := w) (base := base) B D16 hm16
  have O_rest_L0 := ok_rest_L0 (P := P) (w := w) (base := base) B D17 hm17
  have O_rested_L0 := ok_rested_L0 (P := P) (w := w) (base := base) B D18 O_rest_L0 hm18
  have O_barring_L0 := ok_barring_L0 (P := P) (w := w) (base := base) B D19 O_Form_step_M0 O_share_L0 O_rested_L0 hm19
  have O_solved_K := ok_solved_K (P := P) (w := w) (base := base) B D20 O_look_rests_L0 O_Form_init_C O_timed_L0 O_Form_step_M0 O_share_L0 O_barring_L0 O_rested_L0 hm20
  have O_bars_L0 := ok_bars_L0 (P := P) (w := w) (base := base) B D21 O_paired_L0 O_rest_L0 hm21
  have O_judged_K := ok_judged_K (P := P) (w := w) (base := base) B D22 O_look_rests_L0 O_timed_L0 O_rested_L0 O_bars_L0 hm22
  exact fn_law B D23 O_law_box_L0 O_law_take_L0 O_solved_K O_judged_K O_R TB hTab (He.eqO_ok (Y.f (f := .glo "law") 39 rfl))
end L
open PySem PySem.W PySem.Calls PyProof.Rows in
set_option maxRecDepth 100000 in
set_option maxHeartbeats 0 in
theorem PySem.Challenge.cw_cupweb_k07_rests_refused_holds : PySem.Challenge.rw_cupweb_k07_rests_refused.Holds := by
  w_on; o_law
  refine HandSHeadRun.head_any (r := OpenLaw.row PySem.Challenge.rw_cupweb_k07_rests_refused) (q := L.hq) (H := L.hk) (ob := L.hob) (M := 30000) (loose := L.loose) (d := HandSHeadRun.topDef (OpenLaw.row PySem.Challenge.rw_cupweb_k07_rests_refused).prog 46) (kwd := []) J.obsL_eq
    (by kernel_rfl) (fun s => by kernel_rfl) L.hrun (by kernel_rfl) (by kernel_rfl) (by kernel_rfl) (by rfl) (by first | assumption | decide +kernel) (by decide +kernel) ⟨rfl, rfl, rfl, rfl, rfl, by decide +kernel⟩ ?hw ?hc
  case hw => w_witness2
  case hc => exact J.walk_L (l := PySem.Challenge.rw_cupweb_k07_rests_refused) (n := 63) (k := 10) (x := "_law_script") (Fm := L.F_law) rfl (by decide) (by kernel_rfl) ⟨rfl, by decide, by decide⟩ (by kernel_rfl) (by kernel_rfl) (fun w mg fa h K Y G hmg => L.all_mk Y G hmg) L.law_true
