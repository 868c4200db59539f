import PyProof.Rows.All
import Wide.All
import OpenK.AllK
import Wide.FinOn
import HandS.ForMost
import HandS.ForExc
import HandS.CallSlots
import HandS.Defaults
import HandS.Wide
import HandS.IsInst
import HandS.Lambda
import HandS.ExcCtx
import KE.KNest
import HandS.Style
import HandS.Zip
import HandS.TupAny
import HandS.EndTab
import HandS.DictComp
import HandS.SetBool
import HandS.TupSets
import HandS.Conv
import HandS.Strs
import KE.SortData
import HandS.MapObj
import HandS.Small
import HandS.TupLen
import HandS.Sort
import HandS.Deep
import PyProof.ListRange
import HandS.More
import KE.KDictZip
import HandS.ExcInit
import HandS.ClsMeth
import HandS.HotCalls
import HandS.ExcIs
import HandS.ExcField
import HandS.Text
import PyProof.FactsAll.object_2
import HandS.SetFor
import PyProof.FactsAll.set_1
import PyProof.FactsAll.set_2
import KE.KEqDict
import HandS.Head0
import HandS.Head1
import HandS.Head2
import HandS.HeadHook1
import HandS.HeadHook2
import HandS.HeadHook3
import HandS.HeadHook4
import KE.KDictWalk
import KE.GoesMore
import KE.GoesZip
import KE.GoesEnum
import HandS.SortKw
import KE.DataMinMax
import HandS.TryOnly
import HandS.List
import HandS.Zip0
import HandS.FStr
import HandS.RaiseMore
import KE.KUnpackStar
import OpenK.KOps
import KE.KCallOwn
import PyProof.ReprRoads
import PySem.Challenge.RW_cupweb_k11_webs_alike_and_as_text
set_option Elab.async false
set_option linter.all false
set_option maxRecDepth 100000
set_option autoImplicit false
set_option exponentiation.threshold 2000
namespace J
open PySem L2
/-! values -/
inductive VV where
  | non | bl (b : Bool) | int (i : Int) | str (x : Str)
  | tup (xs : List VV) | lst (xs : List VV) | scr (xs : List VV)
  | dT (ks : List (List Key)) (vs : List VV)
  | dK (ks : List Key) (vs : List VV)
  | ins (c : Str) (ns : List Str) (vs : List VV)
  | obj (n : Nat)
  | glb (x : Str)
  | ty (n : String)
  | raw (a : Addr)
/-- a mutable root -/
inductive VO where
  | fzn (v : VV)
  | fl (xs : List VV)
  | lo (xs : List VV)
  | dT (ks : List (List Key)) (vs : List VV)
  | dK (ks : List Key) (vs : List VV)
  | ins (c : Str) (ns : List Str) (vs : List VV)
abbrev VH := List VO
abbrev VSt := List (Option VV)
inductive Res (α : Type) where
  | no
  | ok (a : α) (h : VH)
  | exc (x : Str) (ns : List Str) (vs : List VV) (h : VH)
def Res.bind {α β : Type} (r : Res α) (k : α → VH → Res β) : Res β :=
  match r with
  | .no => .no
  | .ok a h => k a h
  | .exc x ns vs h => .exc x ns vs h
structure Ct where
  K : PySem.W.Frag
  mg : Str → Option Value
structure Gh where
  io : List Addr
  fz : Addr → Prop
  kp : Addr → Prop
/-- a tuple: a frozen one -/
def TupAt (_c : Ct) (_ : Addr → Prop) (H : Hp) (p : Addr) (us : List V) : Prop := H p = some (.tup us)
theorem TupAt.sq {c : Ct} {z : Addr → Prop} {H : Hp} {p : Addr} {us : List V} (h : TupAt c z H p us) : SqT c.K H p us := .inl (.inl h)
theorem TupAt.stp {c : Ct} {z z' : Addr → Prop} {H H' : Hp} {p : Addr} {us : List V} (ht : ∀ p us, H p = some (.tup us) → H' p = some (.tup us)) (h : TupAt c z H p us) : TupAt c z' H' p us := ht _ _ h
/-- a list that is only read: a frozen one, or one of the module's -/
def LstAt (c : Ct) (z : Addr → Prop) (H : Hp) (p : Addr) (us : List V) : Prop :=
  (z p ∧ Rd H p (.lst us)) ∨ ∃ (o : Obj) (its : Array Value) (n : Nat), c.K.lookup p = some o ∧ o.cls = .type "list" ∧ o.dict = none ∧ o.data = .seq its n ∧ its.size ≤ sizeLine ∧ Vals us its.toList
theorem LstAt.sq {c : Ct} {z : Addr → Prop} {H : Hp} {p : Addr} {us : List V} (h : LstAt c z H p us) : SqL c.K H p us := by
  rcases h with h | h
  · exact .inl h.2
  · exact .inr h
theorem rd_same {H H' : Hp} {p : Addr} {o : HO} (e : H' p = H p) (h : Rd H p o) : Rd H' p o := by
  rcases h with h | ⟨q, h⟩
  · exact .inl (e.trans h)
  · exact .inr ⟨q, e.trans h⟩
/-- what may be locked -/
def Lk (o : HO) : Prop := (∃ kvs, o = .dK kvs) ∨ ∃ kvs, o = .dT kvs
/-- what is frozen stands; a dict may be locked -/
def Ke (o o' : Option HO) : Prop := o' = o ∨ ∃ od u, Lk u ∧ o = some u ∧ o' = some (.frz od u)
theorem Ke.refl {o : Option HO} : Ke o o := .inl rfl
theorem Lk.frz {od : Obj} {u : HO} (h : Lk (.frz od u)) : False := by
  rcases h with ⟨_, e⟩ | ⟨_, e⟩ <;> cases e
theorem Ke.trans {a b c : Option HO} (h : Ke a b) (k : Ke b c) : Ke a c := by
  rcases h with h | ⟨od, u, l, h1, h2⟩
  · rw [← h]; exact k
  · rcases k with k | ⟨od2, u2, l2, k1, k2⟩
    · exact .inr ⟨od, u, l, h1, k.trans h2⟩
    · rw [h2] at k1; cases k1; exact l2.frz.elim
theorem Ke.at {o : HO} {a b : Option HO} (h : Ke a b) (e : a = some o) (n : ∀ kvs, o ≠ .dK kvs) (n2 : ∀ kvs, o ≠ .dT kvs := by intro _ z; cases z) : b = some o := by
  rcases h with h | ⟨od, u, l, h1, h2⟩
  · exact h.trans e
  · rw [e] at h1
    rcases l with ⟨kvs, l⟩ | ⟨kvs, l⟩
    · exact absurd ((Option.some.inj h1).trans l) (n kvs)
    · exact absurd ((Option.some.inj h1).trans l) (n2 kvs)
theorem Ke.ex {a b : Option HO} (h : Ke a b) (e : ∃ o, a = some o) : ∃ o, b = some o := by
  obtain ⟨o, e⟩ := e
  rcases h with h | ⟨od, u, l, h1, h2⟩
  · exact ⟨o, h.trans e⟩
  · exact ⟨_, h2⟩
theorem Ke.rdL {H H' : Hp} {p : Addr} {o : HO} (h : Ke (H p) (H' p)) (r : Rd H p o) : Rd H' p o := by
  rcases h with h | ⟨od, u, l, h1, h2⟩
  · exact rd_same h r
  · rcases r with r | ⟨q, r⟩
    · rw [r] at h1; cases h1; exact .inr ⟨od, h2⟩
    · rw [r] at h1; cases h1; exact l.frz.elim
theorem Ke.rd {H H' : Hp} {p : Addr} {o : HO} (h : Ke (H p) (H' p)) (r : Rd H p o) (_ : ∀ kvs, o ≠ .dK kvs) : Rd H' p o := h.rdL r
theorem Ke.dk {H H' : Hp} {p : Addr} {kvs : List (Key × V)} (h : Ke (H p) (H' p)) (r : Rd H p (.dK kvs)) : Rd H' p (.dK kvs) := h.rdL r
theorem LstAt.stp {c : Ct} {z z' : Addr → Prop} {H H' : Hp} {p : Addr} {us : List V} (hz : ∀ p, z p → z' p) (hH : ∀ p, z p → Ke (H p) (H' p)) (h : LstAt c z H p us) : LstAt c z' H' p us := by
  rcases h with h | h
  · exact .inl ⟨hz p h.1, (hH p h.1).rd h.2 (fun _ z => nomatch z)⟩
  · exact .inr h
mutual
def RV (c : Ct) (z : Addr → Prop) (H : Hp) : VV → V → Prop
  | .non, u => u = .non
  | .bl b, u => u = .bl b
  | .int i, u => u = .int i
  | .str x, u => u = .str x
  | .tup xs, u => ∃ p us, u = .ref p ∧ TupAt c z H p us ∧ RVs c z H xs us
  | .lst xs, u => ∃ p us, u = .ref p ∧ z p ∧ H p = some (.lst us) ∧ RVs c z H xs us
  | .scr xs, u => ∃ p us, u = .ref p ∧ LstAt c z H p us ∧ RVs c z H xs us
  | .dT ks vs, u => ∃ p us, u = .ref p ∧ z p ∧ Rd H p (.dT (ks.zip us)) ∧ ks.length = us.length ∧ RVs c z H vs us
  | .dK ks vs, u => ∃ p us, u = .ref p ∧ z p ∧ Rd H p (.dK (ks.zip us)) ∧ ks.length = us.length ∧ RVs c z H vs us
  | .ins x ns vs, u => ∃ p C dx us, u = .ref p ∧ z p ∧ c.mg x = some (.ref C) ∧ H p = some (.ins C dx (ns.zip us)) ∧ ns.length = us.length ∧ RVs c z H vs us
  | .obj _, _ => False
  | .glb x, u => ∃ a, c.mg x = some (.ref a) ∧ u = .ref a
  | .ty n, u => u = .ty n
  | .raw a, u => u = .ref a
def RVs (c : Ct) (z : Addr → Prop) (H : Hp) : List VV → List V → Prop
  | [], us => us = []
  | x :: xs, us => ∃ u r, us = u :: r ∧ RV c z H x u ∧ RVs c z H xs r
end
/-- a value at the top: a root, or data -/
def RT (c : Ct) (g : Gh) (H : Hp) : VV → V → Prop
  | .obj n, u => ∃ a, g.io[n]? = some a ∧ u = .ref a
  | v, u => RV c g.fz H v u
def RTs (c : Ct) (g : Gh) (H : Hp) : List VV → List V → Prop
  | [], us => us = []
  | x :: xs, us => ∃ u r, us = u :: r ∧ RT c g H x u ∧ RTs c g H xs r
def VV.isObj : VV → Bool
  | .obj _ => true
  | _ => false
def RO (c : Ct) (g : Gh) (H : Hp) : VO → Addr → Prop
  | .fzn v, a => g.fz a ∧ RV c g.fz H v (.ref a)
  | .fl xs, a => ¬ g.fz a ∧ ∃ us, H a = some (.lst us) ∧ RVs c g.fz H xs us
  | .lo xs, a => ¬ g.fz a ∧ ∃ us, H a = some (.lst us) ∧ RTs c g H xs us
  | .dT ks vs, a => ¬ g.fz a ∧ ∃ us, H a = some (.dT (ks.zip us)) ∧ ks.length = us.length ∧ RVs c g.fz H vs us
  | .dK ks vs, a => ¬ g.fz a ∧ ∃ us, H a = some (.dK (ks.zip us)) ∧ ks.length = us.length ∧ RVs c g.fz H vs us
  | .ins x ns vs, a => ¬ g.fz a ∧ ∃ C dx us, c.mg x = some (.ref C) ∧ H a = some (.ins C dx (ns.zip us)) ∧ ns.length = us.length ∧ RTs c g H vs us
/-- the table of lambdas of the def that makes some -/
def lamFn : Str := "law"
def lamQ : Str := lamFn ++ ".<locals>." ++ "<lambda>"
def LTab (c : Ct) (H : Hp) : Prop := ∀ cc P, PySem.W.tabIn c.K lamFn = some (cc, P) → LamX.TabS H P lamQ
def NoTab (D : Addr) (o : Option HO) : Prop := (∀ ps, o ≠ some (.tbl ps)) ∧ ∀ q, o ≠ some (LamX.CodeO D q)
theorem NoTab.none {D : Addr} {o : Option HO} (e : o = Option.none) : NoTab D o := by
  subst e
  exact ⟨fun _ z => (by cases z), fun _ z => (by cases z)⟩
theorem noTab_of {D : Addr} {o : HO} (h : ∀ ps, o ≠ .tbl ps) (h2 : ∀ f, o ≠ .ext f) : NoTab D (some o) :=
  ⟨fun ps z => h ps (Option.some.inj z), fun q z => by
    have z := Option.some.inj z
    unfold LamX.CodeO at z
    exact h2 _ z⟩
theorem LTab.upd {c : Ct} {H : Hp} {D : Addr} {O : HO} (t : LTab c H) (n : NoTab D (H D)) : LTab c (upd H D O) := fun cc P e => by
  obtain ⟨ps, h1, h2, h3⟩ := t cc P e
  refine ⟨ps, by rw [upd_ne (fun z => n.1 ps (by rw [← z]; exact h1))]; exact h1, h2, fun pos cv hc => ?_⟩
  obtain ⟨k, e1, e2⟩ := h3 pos cv hc
  exact ⟨k, e1, by rw [upd_ne (fun z => n.2 lamQ (by rw [← z]; exact e2))]; exact e2⟩
theorem RO.noTab {c : Ct} {g : Gh} {H : Hp} {o : VO} {a : Addr} (h : RO c g H o a) (nz : ¬ g.fz a) : NoTab a (H a) := by
  cases o with
  | fzn v => exact absurd h.1 nz
  | fl xs => obtain ⟨h1, us, h3, h4⟩ := h; rw [h3]; exact noTab_of (fun _ z => by cases z) (fun _ z => by cases z)
  | lo xs => obtain ⟨h1, us, h3, h4⟩ := h; rw [h3]; exact noTab_of (fun _ z => by cases z) (fun _ z => by cases z)
  | dT ks vs => obtain ⟨h1, us, h3, h4⟩ := h; rw [h3]; exact noTab_of (fun _ z => by cases z) (fun _ z => by cases z)
  | dK ks vs => obtain ⟨h1, us, h3, h4⟩ := h; rw [h3]; exact noTab_of (fun _ z => by cases z) (fun _ z => by cases z)
  | ins x ns vs => obtain ⟨h1, C, dx, us, h3, h4, h5⟩ := h; rw [h4]; exact noTab_of (fun _ z => by cases z) (fun _ z => by cases z)
structure RH (c : Ct) (g : Gh) (h : VH) (H : Hp) : Prop where
  len : g.io.length = h.length
  nd : g.io.Nodup
  at' : ∀ (n : Nat) (o : VO) (a : Addr), h[n]? = some o → g.io[n]? = some a → RO c g H o a
  fz : ∀ q, g.fz q → ∃ o, H q = some o
  kp : ∀ q, g.kp q → ∃ o, H q = some o
  kd : ∀ q, g.kp q → ¬ g.fz q ∧ q ∉ g.io
  tb : LTab c H
  nt : ∀ q, g.fz q ∨ g.kp q → ∀ ps, H q ≠ some (.tbl ps)
structure Stp (g : Gh) (H : Hp) (g' : Gh) (H' : Hp) : Prop where
  io : g.io <+: g'.io
  fz : ∀ p, g.fz p → g'.fz p
  kp : ∀ p, g.kp p → g'.kp p
  fH : ∀ p, g.fz p → Ke (H p) (H' p)
  kH : ∀ p, g.kp p → H' p = H p
  tp : ∀ p us, H p = some (.tup us) → H' p = some (.tup us)
theorem Stp.refl {g : Gh} {H : Hp} : Stp g H g H := ⟨List.prefix_rfl, fun _ h => h, fun _ h => h, fun _ _ => .refl, fun _ _ => rfl, fun _ _ h => h⟩
theorem Stp.trans {g g1 g2 : Gh} {H H1 H2 : Hp} (a : Stp g H g1 H1) (b : Stp g1 H1 g2 H2) : Stp g H g2 H2 :=
  ⟨a.io.trans b.io, fun p h => b.fz p (a.fz p h), fun p h => b.kp p (a.kp p h), fun p h => (a.fH p h).trans (b.fH p (a.fz p h)), fun p h => (b.kH p (a.kp p h)).trans (a.kH p h), fun p us h => b.tp p us (a.tp p us h)⟩
mutual
theorem RV.stp {c : Ct} {z z' : Addr → Prop} {H H' : Hp} (hz : ∀ p, z p → z' p) (hH : ∀ p, z p → Ke (H p) (H' p)) (ht : ∀ p us, H p = some (.tup us) → H' p = some (.tup us)) : ∀ (v : VV) (u : V), RV c z H v u → RV c z' H' v u
  | .non, u, h => by simpa only [RV] using h
  | .bl b, u, h => by simpa only [RV] using h
  | .int i, u, h => by simpa only [RV] using h
  | .str x, u, h => by simpa only [RV] using h
  | .tup xs, u, h => by
    rw [RV] at h ⊢
    obtain ⟨p, us, e, r, q⟩ := h
    exact ⟨p, us, e, r.stp ht, RVs.stp hz hH ht xs us q⟩
  | .lst xs, u, h => by
    rw [RV] at h ⊢
    obtain ⟨p, us, e, hp, r, q⟩ := h
    exact ⟨p, us, e, hz p hp, (hH p hp).at r (fun _ z => nomatch z), RVs.stp hz hH ht xs us q⟩
  | .scr xs, u, h => by
    rw [RV] at h ⊢
    obtain ⟨p, us, e, r, q⟩ := h
    exact ⟨p, us, e, r.stp hz hH, RVs.stp hz hH ht xs us q⟩
  | .dT ks vs, u, h => by
    rw [RV] at h ⊢
    obtain ⟨p, us, e, hp, r, l, q⟩ := h
    exact ⟨p, us, e, hz p hp, (hH p hp).rdL r, l, RVs.stp hz hH ht vs us q⟩
  | .dK ks vs, u, h => by
    rw [RV] at h ⊢
    obtain ⟨p, us, e, hp, r, l, q⟩ := h
    exact ⟨p, us, e, hz p hp, (hH p hp).dk r, l, RVs.stp hz hH ht vs us q⟩
  | .ins x ns vs, u, h => by
    rw [RV] at h ⊢
    obtain ⟨p, C, dx, us, e, hp, m, r, l, q⟩ := h
    exact ⟨p, C, dx, us, e, hz p hp, m, (hH p hp).at r (fun _ z => nomatch z), l, RVs.stp hz hH ht vs us q⟩
  | .obj _, _, h => by rw [RV] at h; exact h.elim
  | .glb x, u, h => by simpa only [RV] using h
  | .ty n, u, h => by simpa only [RV] using h
  | .raw a, u, h => by simpa only [RV] using h
theorem RVs.stp {c : Ct} {z z' : Addr → Prop} {H H' : Hp} (hz : ∀ p, z p → z' p) (hH : ∀ p, z p → Ke (H p) (H' p)) (ht : ∀ p us, H p = some (.tup us) → H' p = some (.tup us)) : ∀ (vs : List VV) (us : List V), RVs c z H vs us → RVs c z' H' vs us
  | [], us, h => by simpa only [RVs] using h
  | x :: xs, us, h => by
    rw [RVs] at h ⊢
    obtain ⟨u, r, e, a, b⟩ := h
    exact ⟨u, r, e, RV.stp hz hH ht x u a, RVs.stp hz hH ht xs r b⟩
end
theorem Stp.rv {c : Ct} {g g' : Gh} {H H' : Hp} (s : Stp g H g' H') {v : VV} {u : V} (h : RV c g.fz H v u) : RV c g'.fz H' v u := RV.stp s.fz s.fH s.tp _ _ h
theorem Stp.rvs {c : Ct} {g g' : Gh} {H H' : Hp} (s : Stp g H g' H') {v : List VV} {u : List V} (h : RVs c g.fz H v u) : RVs c g'.fz H' v u := RVs.stp s.fz s.fH s.tp _ _ h
theorem RT.of_rv {c : Ct} {g : Gh} {H : Hp} {v : VV} {u : V} (h : RV c g.fz H v u) : RT c g H v u := by
  cases v with
  | obj n => rw [RV] at h; exact h.elim
  | _ => exact h
theorem RT.rv {c : Ct} {g : Gh} {H : Hp} {v : VV} {u : V} (h : RT c g H v u) (n : v.isObj = false) : RV c g.fz H v u := by
  cases v with
  | obj n => cases n
  | _ => exact h
theorem RT.stp {c : Ct} {g g' : Gh} {H H' : Hp} (s : Stp g H g' H') {v : VV} {u : V} (h : RT c g H v u) : RT c g' H' v u := by
  cases v with
  | obj n =>
    obtain ⟨a, e, hu⟩ := h
    refine ⟨a, ?_, hu⟩
    obtain ⟨l, hl⟩ := s.io
    rw [← hl, List.getElem?_append_left (List.getElem?_eq_some_iff.mp e).1]
    exact e
  | _ => exact RT.of_rv (RV.stp s.fz s.fH s.tp _ _ (RT.rv h rfl))
theorem RTs.stp {c : Ct} {g g' : Gh} {H H' : Hp} (s : Stp g H g' H') : ∀ {vs : List VV} {us : List V}, RTs c g H vs us → RTs c g' H' vs us
  | [], us, h => h
  | x :: xs, us, h => by
    obtain ⟨u, r, e, a, b⟩ := h
    exact ⟨u, r, e, a.stp s, RTs.stp s b⟩
theorem RTs.of_rvs {c : Ct} {g : Gh} {H : Hp} : ∀ {vs : List VV} {us : List V}, RVs c g.fz H vs us → RTs c g H vs us
  | [], us, h => by rw [RVs] at h; exact h
  | x :: xs, us, h => by
    rw [RVs] at h
    obtain ⟨u, r, e, a, b⟩ := h
    exact ⟨u, r, e, RT.of_rv a, RTs.of_rvs b⟩
theorem RTs.rvs {c : Ct} {g : Gh} {H : Hp} : ∀ {vs : List VV} {us : List V}, RTs c g H vs us → vs.any VV.isObj = false → RVs c g.fz H vs us
  | [], us, h, _ => by rw [RVs]; exact h
  | x :: xs, us, h, n => by
    obtain ⟨u, r, e, a, b⟩ := h
    rw [List.any_cons, Bool.or_eq_false_iff] at n
    rw [RVs]
    exact ⟨u, r, e, a.rv n.1, RTs.rvs b n.2⟩
theorem RVs.len {c : Ct} {z : Addr → Prop} {H : Hp} : ∀ {vs : List VV} {us : List V}, RVs c z H vs us → vs.length = us.length
  | [], us, h => by rw [RVs] at h; rw [h]; rfl
  | x :: xs, us, h => by
    rw [RVs] at h
    obtain ⟨u, r, e, a, b⟩ := h
    rw [e, List.length_cons, List.length_cons, RVs.len b]
theorem RTs.len {c : Ct} {g : Gh} {H : Hp} : ∀ {vs : List VV} {us : List V}, RTs c g H vs us → vs.length = us.length
  | [], us, h => by rw [show us = [] from h]; rfl
  | x :: xs, us, h => by
    obtain ⟨u, r, e, a, b⟩ := h
    rw [e, List.length_cons, List.length_cons, RTs.len b]
theorem RVs.get {c : Ct} {z : Addr → Prop} {H : Hp} : ∀ {vs : List VV} {us : List V} {i : Nat} {v : VV}, RVs c z H vs us → vs[i]? = some v → ∃ u, us[i]? = some u ∧ RV c z H v u
  | [], us, i, v, h, e => by simp at e
  | x :: xs, us, i, v, h, e => by
    rw [RVs] at h
    obtain ⟨u, r, rfl, a, b⟩ := h
    cases i with
    | zero => simp at e; subst e; exact ⟨u, rfl, a⟩
    | succ i => exact RVs.get (i := i) b (by simpa using e)
theorem RVs.app {c : Ct} {z : Addr → Prop} {H : Hp} : ∀ {vs ws : List VV} {us ys : List V}, RVs c z H vs us → RVs c z H ws ys → RVs c z H (vs ++ ws) (us ++ ys)
  | [], ws, us, ys, h, k => by rw [RVs] at h; subst h; exact k
  | x :: xs, ws, us, ys, h, k => by
    rw [RVs] at h
    obtain ⟨u, r, rfl, a, b⟩ := h
    show RVs c z H (x :: (xs ++ ws)) (u :: (r ++ ys))
    rw [RVs]
    exact ⟨u, _, rfl, a, RVs.app b k⟩
theorem RVs.set {c : Ct} {z : Addr → Prop} {H : Hp} {v : VV} {u : V} (q : RV c z H v u) : ∀ {vs : List VV} {us : List V} {i : Nat}, RVs c z H vs us → RVs c z H (vs.set i v) (us.set i u)
  | [], us, i, h => by rw [RVs] at h; subst h; simp only [List.set_nil]; rw [RVs]
  | x :: xs, us, i, h => by
    rw [RVs] at h
    obtain ⟨y, r, rfl, a, b⟩ := h
    cases i with
    | zero => simp only [List.set_cons_zero]; rw [RVs]; exact ⟨u, r, rfl, q, b⟩
    | succ i => simp only [List.set_cons_succ]; rw [RVs]; exact ⟨y, _, rfl, a, RVs.set q b⟩
theorem RVs.one {c : Ct} {z : Addr → Prop} {H : Hp} {v : VV} {u : V} (q : RV c z H v u) : RVs c z H [v] [u] := by
  rw [RVs]; exact ⟨u, [], rfl, q, by rw [RVs]⟩
theorem RVs.nil {c : Ct} {z : Addr → Prop} {H : Hp} : RVs c z H [] [] := by rw [RVs]
theorem RVs.cons {c : Ct} {z : Addr → Prop} {H : Hp} {v : VV} {u : V} {vs us} (q : RV c z H v u) (r : RVs c z H vs us) : RVs c z H (v :: vs) (u :: us) := by
  rw [RVs]; exact ⟨u, us, rfl, q, r⟩
theorem RVs.take {c : Ct} {z : Addr → Prop} {H : Hp} : ∀ {vs : List VV} {us : List V} (n : Nat), RVs c z H vs us → RVs c z H (vs.take n) (us.take n)
  | _, _, 0, _ => by simp only [List.take_zero]; exact RVs.nil
  | [], us, n + 1, h => by rw [RVs] at h; subst h; simp only [List.take_nil]; exact RVs.nil
  | x :: xs, us, n + 1, h => by
    rw [RVs] at h
    obtain ⟨u, r, rfl, a, b⟩ := h
    simp only [List.take_succ_cons]
    exact RVs.cons a (RVs.take n b)
theorem RVs.drop {c : Ct} {z : Addr → Prop} {H : Hp} : ∀ {vs : List VV} {us : List V} (n : Nat), RVs c z H vs us → RVs c z H (vs.drop n) (us.drop n)
  | _, _, 0, h => by simpa only [List.drop_zero] using h
  | [], us, n + 1, h => by rw [RVs] at h; subst h; simp only [List.drop_nil]; exact RVs.nil
  | x :: xs, us, n + 1, h => by
    rw [RVs] at h
    obtain ⟨u, r, rfl, a, b⟩ := h
    simp only [List.drop_succ_cons]
    exact RVs.drop n b
theorem RT.back {c : Ct} {g g' : Gh} {H : Hp} (e1 : g'.io = g.io) (e2 : g'.fz = g.fz) {v : VV} {u : V} (h : RT c g H v u) : RT c g' H v u := by
  cases v with
  | obj n => obtain ⟨a, b, d⟩ := h; exact ⟨a, by rw [e1]; exact b, d⟩
  | _ => exact RT.of_rv (by rw [e2]; exact RT.rv h rfl)
theorem RTs.back {c : Ct} {g : Gh} {H : Hp} {k : Addr → Prop} : ∀ {vs : List VV} {us : List V}, RTs c g H vs us → RTs c { g with kp := k } H vs us
  | [], us, h => h
  | x :: xs, us, h => by
    obtain ⟨u, r, e, a, b⟩ := h
    exact ⟨u, r, e, a.back rfl rfl, RTs.back b⟩
/-- slots -/
structure RS (c : Ct) (g : Gh) (H : Hp) (ρ : VSt) (σ : St) : Prop where
  len : ρ.length = σ.length
  get : ∀ (i : Nat) (v : VV), ρ[i]? = some (some v) → ∃ u, σ[i]? = some (some u) ∧ RT c g H v u
theorem RS.stp {c : Ct} {g g' : Gh} {H H' : Hp} {ρ : VSt} {σ : St} (s : Stp g H g' H') (h : RS c g H ρ σ) : RS c g' H' ρ σ := ⟨h.len, fun i v e => by
  obtain ⟨u, a, b⟩ := h.get i v e
  exact ⟨u, a, b.stp s⟩⟩
theorem RO.stp {c : Ct} {g g' : Gh} {H H' : Hp} {o : VO} {a : Addr} (s : Stp g H g' H') (nz : ¬ g.fz a → ¬ g'.fz a) (e : H' a = H a) (h : RO c g H o a) : RO c g' H' o a := by
  cases o with
  | fzn v => exact ⟨s.fz a h.1, s.rv h.2⟩
  | fl xs =>
    obtain ⟨h1, us, h3, h4⟩ := h
    exact ⟨nz h1, us, e.trans h3, s.rvs h4⟩
  | lo xs =>
    obtain ⟨h1, us, h3, h4⟩ := h
    exact ⟨nz h1, us, e.trans h3, h4.stp s⟩
  | dT ks vs =>
    obtain ⟨h1, us, h3, h4, h5⟩ := h
    exact ⟨nz h1, us, e.trans h3, h4, s.rvs h5⟩
  | dK ks vs =>
    obtain ⟨h1, us, h3, h4, h5⟩ := h
    exact ⟨nz h1, us, e.trans h3, h4, s.rvs h5⟩
  | ins x ns vs =>
    obtain ⟨h1, C, dx, us, h3, h4, h5, h6⟩ := h
    exact ⟨nz h1, C, dx, us, h3, e.trans h4, h5, h6.stp s⟩
theorem RO.some {c : Ct} {g : Gh} {H : Hp} {o : VO} {a : Addr} (fz : ∀ q, g.fz q → ∃ o, H q = some o) (h : RO c g H o a) : ∃ o, H a = some o := by
  cases o with
  | fzn v => exact fz a h.1
  | fl xs => obtain ⟨h1, us, h3, h4⟩ := h; exact ⟨_, h3⟩
  | lo xs => obtain ⟨h1, us, h3, h4⟩ := h; exact ⟨_, h3⟩
  | dT ks vs => obtain ⟨h1, us, h3, h4⟩ := h; exact ⟨_, h3⟩
  | dK ks vs => obtain ⟨h1, us, h3, h4⟩ := h; exact ⟨_, h3⟩
  | ins x ns vs => obtain ⟨h1, C, dx, us, h3, h4, h5⟩ := h; exact ⟨_, h4⟩
theorem RH.root {c : Ct} {g : Gh} {h : VH} {H : Hp} (R : RH c g h H) {a : Addr} (ha : a ∈ g.io) : ∃ o, H a = some o := by
  obtain ⟨n, hn, e⟩ := List.getElem_of_mem ha
  have hl : n < h.length := by rw [← R.len]; exact hn
  exact (R.at' n h[n] a (List.getElem?_eq_getElem hl) (by rw [List.getElem?_eq_getElem hn, e])).some R.fz
theorem RH.rootNt {c : Ct} {g : Gh} {h : VH} {H : Hp} (R : RH c g h H) {a : Addr} (ha : a ∈ g.io) (ps : Array Value) : H a ≠ some (.tbl ps) := by
  obtain ⟨n, hn, e⟩ := List.getElem_of_mem ha
  have hl : n < h.length := by rw [← R.len]; exact hn
  by_cases z : g.fz a
  · exact R.nt a (.inl z) ps
  · exact (RO.noTab (R.at' n h[n] a (List.getElem?_eq_getElem hl) (by rw [List.getElem?_eq_getElem hn, e])) z).1 ps
theorem nodup_inj {l : List Addr} (h : l.Nodup) {i j : Nat} {a : Addr} (h1 : l[i]? = some a) (h2 : l[j]? = some a) : i = j :=
  (List.getElem?_inj (List.getElem?_eq_some_iff.mp h1).1 h).mp (h1.trans h2.symm)
/-- new data: p, frozen -/
def Gh.frz (g : Gh) (p : Addr) : Gh := { g with fz := fun q => g.fz q ∨ q = p }
theorem Stp.new {c : Ct} {g : Gh} {h : VH} {H : Hp} (R : RH c g h H) {p : Addr} {o : HO} (np : H p = none) : Stp g H (g.frz p) (upd H p o) := by
  have ne : ∀ q, (∃ o, H q = some o) → q ≠ p := fun q ⟨o, e⟩ z => by rw [z, np] at e; cases e
  exact ⟨List.prefix_rfl, fun _ h => .inl h, fun _ h => h, fun q h => .inl (upd_ne (ne q (R.fz q h))), fun q h => upd_ne (ne q (R.kp q h)), fun q us h => (upd_ne (ne q ⟨_, h⟩)).trans h⟩
theorem RH.new {c : Ct} {g : Gh} {h : VH} {H : Hp} (R : RH c g h H) {p : Addr} {o : HO} (np : H p = none) (nt : ∀ ps, o ≠ .tbl ps := by intro _ z; cases z) : RH c (g.frz p) h (upd H p o) := by
  have ne : ∀ q, (∃ o, H q = some o) → q ≠ p := fun q ⟨o, e⟩ z => by rw [z, np] at e; cases e
  refine ⟨R.len, R.nd, fun n o a h1 h2 => ?_, fun q h => ?_, fun q h => ?_, fun q h => ⟨fun z => z.elim (R.kd q h).1 (ne q (R.kp q h)), (R.kd q h).2⟩, R.tb.upd (.none np), fun q h ps z => ?_⟩
  rotate_left 3
  · by_cases e : q = p
    · subst e; rw [upd_same] at z; exact nt ps (Option.some.inj z)
    · rw [upd_ne e] at z
      rcases h with h | h
      · exact R.nt q (.inl (h.elim id (fun y => absurd y e))) ps z
      · exact R.nt q (.inr h) ps z
  · have na : a ≠ p := ne a (R.root (List.mem_of_getElem? h2))
    exact RO.stp (Stp.new R np) (fun h z => z.elim h na) (upd_ne na) (R.at' n o a h1 h2)
  · rcases h with h | h
    · rw [upd_ne (ne q (R.fz q h))]; exact R.fz q h
    · rw [h]; exact ⟨_, upd_same⟩
  · rw [upd_ne (ne q (R.kp q h))]; exact R.kp q h
/-- heap beside that is not ours -/
theorem Stp.junk {c : Ct} {g : Gh} {h : VH} {H : Hp} (R : RH c g h H) {p : Addr} {o : HO} (np : H p = none) : Stp g H g (upd H p o) := by
  have ne : ∀ q, (∃ o, H q = some o) → q ≠ p := fun q ⟨o, e⟩ z => by rw [z, np] at e; cases e
  exact ⟨List.prefix_rfl, fun _ h => h, fun _ h => h, fun q h => .inl (upd_ne (ne q (R.fz q h))), fun q h => upd_ne (ne q (R.kp q h)), fun q us h => (upd_ne (ne q ⟨_, h⟩)).trans h⟩
theorem RH.junk {c : Ct} {g : Gh} {h : VH} {H : Hp} (R : RH c g h H) {p : Addr} {o : HO} (np : H p = none) : RH c g h (upd H p o) := by
  have ne : ∀ q, (∃ o, H q = some o) → q ≠ p := fun q ⟨o, e⟩ z => by rw [z, np] at e; cases e
  refine ⟨R.len, R.nd, fun n o a h1 h2 => ?_, fun q h => ?_, fun q h => ?_, R.kd, R.tb.upd (.none np), fun q h ps z => R.nt q h ps (by rw [upd_ne (ne q (h.elim (R.fz q) (R.kp q)))] at z; exact z)⟩
  · have na : a ≠ p := ne a (R.root (List.mem_of_getElem? h2))
    exact RO.stp (Stp.junk R np) (fun h => h) (upd_ne na) (R.at' n o a h1 h2)
  · rw [upd_ne (ne q (R.fz q h))]; exact R.fz q h
  · rw [upd_ne (ne q (R.kp q h))]; exact R.kp q h
/-- a new root -/
def Gh.add (g : Gh) (p : Addr) : Gh := { g with io := g.io ++ [p] }
theorem Stp.add {g : Gh} {H : Hp} {p : Addr} : Stp g H (g.add p) H := ⟨List.prefix_append _ _, fun _ h => h, fun _ h => h, fun _ _ => .refl, fun _ _ => rfl, fun _ _ h => h⟩
theorem RH.add {c : Ct} {g : Gh} {h : VH} {H : Hp} (R : RH c g h H) {p : Addr} {o : VO} (hp : p ∉ g.io) (hk : ¬ g.kp p) (ro : RO c (g.add p) H o p) : RH c (g.add p) (h ++ [o]) H := by
  refine ⟨by show (g.io ++ [p]).length = _; simp [R.len], ?_, fun n o' a h1 h2 => ?_, R.fz, R.kp, fun q h => ⟨(R.kd q h).1, fun z => ?_⟩, R.tb, R.nt⟩
  · show (g.io ++ [p]).Nodup
    rw [List.nodup_append]
    exact ⟨R.nd, by simp, fun a ha b hb => by simp at hb; subst hb; intro e; subst e; exact hp ha⟩
  · have h2' : (g.io ++ [p])[n]? = some a := h2
    by_cases hn : n < h.length
    · rw [List.getElem?_append_left hn] at h1
      rw [List.getElem?_append_left (by rw [R.len]; exact hn)] at h2'
      exact RO.stp Stp.add (fun h => h) rfl (R.at' n o' a h1 h2')
    · have : n = h.length := by
        have := (List.getElem?_eq_some_iff.mp h1).1
        simp at this; omega
      subst this
      rw [List.getElem?_append_right (Nat.le_refl _), Nat.sub_self] at h1
      rw [List.getElem?_append_right (by rw [R.len]; exact Nat.le_refl _), R.len, Nat.sub_self] at h2'
      simp at h1 h2'
      subst h1 h2'
      exact ro
  · rcases List.mem_append.mp z with z | z
    · exact (R.kd q h).2 z
    · simp at z; subst z; exact hk h
/-- a root is written -/
theorem Stp.wr {c : Ct} {g : Gh} {H : Hp} {a : Addr} {O : HO} (nz : ¬ g.fz a) (nk : ¬ g.kp a) (nt : ∀ us, H a ≠ some (.tup us)) : Stp g H g (upd H a O) :=
  ⟨List.prefix_rfl, fun _ h => h, fun _ h => h, fun q h => .inl (upd_ne (fun z => nz (z ▸ h))), fun q h => upd_ne (fun z => nk (z ▸ h)), fun q us h => (upd_ne (fun (z : q = a) => nt us (by rw [← z]; exact h))).trans h⟩
theorem RH.wr {c : Ct} {g : Gh} {h : VH} {H : Hp} (R : RH c g h H) {n : Nat} {a : Addr} {o : VO} {O : HO} (ha : g.io[n]? = some a) (nz : ¬ g.fz a) (nt : ∀ us, H a ≠ some (.tup us)) (ro : RO c g (upd H a O) o a) : RH c g (h.set n o) (upd H a O) := by
  have nk : ¬ g.kp a := fun z => (R.kd a z).2 (List.mem_of_getElem? ha)
  have hio : ∃ o0, h[n]? = some o0 := by
    have hl : n < h.length := by rw [← R.len]; exact (List.getElem?_eq_some_iff.mp ha).1
    exact ⟨_, List.getElem?_eq_getElem hl⟩
  obtain ⟨o0, ho0⟩ := hio
  refine ⟨by rw [List.length_set]; exact R.len, R.nd, fun m o' b h1 h2 => ?_, fun q h => ?_, fun q h => ?_, R.kd, R.tb.upd ((R.at' n o0 a ho0 ha).noTab nz), fun q h ps z => R.nt q h ps (by rw [upd_ne (show q ≠ a from fun y => h.elim (fun h => nz (y ▸ h)) (fun h => nk (y ▸ h)))] at z; exact z)⟩
  · by_cases e : m = n
    · subst e
      rw [ha] at h2; cases h2
      have hl : m < h.length := by have := (List.getElem?_eq_some_iff.mp h1).1; simpa using this
      rw [List.getElem?_set_self hl] at h1
      cases h1
      exact ro
    · rw [List.getElem?_set_ne (Ne.symm e)] at h1
      have nb : b ≠ a := fun z => by
        subst z
        exact e (nodup_inj R.nd h2 ha)
      exact RO.stp (Stp.wr (c := c) nz nk nt) (fun h => h) (upd_ne nb) (R.at' m o' b h1 h2)
  · rw [upd_ne (show q ≠ a from fun z => nz (z ▸ h))]; exact R.fz q h
  · rw [upd_ne (show q ≠ a from fun z => nk (z ▸ h))]; exact R.kp q h
/-- a root is frozen -/
theorem Stp.kill {g : Gh} {H : Hp} {p : Addr} : Stp g H (g.frz p) H := ⟨List.prefix_rfl, fun _ h => .inl h, fun _ h => h, fun _ _ => .refl, fun _ _ => rfl, fun _ _ h => h⟩
theorem RH.kill {c : Ct} {g : Gh} {h : VH} {H : Hp} (R : RH c g h H) {n : Nat} {a : Addr} {v : VV} (ha : g.io[n]? = some a) (rv : RV c (g.frz a).fz H v (.ref a)) : RH c (g.frz a) (h.set n (.fzn v)) H := by
  refine ⟨by rw [List.length_set]; exact R.len, R.nd, fun m o' b h1 h2 => ?_, fun q h => ?_, R.kp, fun q h => ⟨fun z => z.elim (R.kd q h).1 (fun e => (R.kd q h).2 (e ▸ List.mem_of_getElem? ha)), (R.kd q h).2⟩, R.tb, fun q h ps z => ?_⟩
  rotate_left 2
  · rcases h with (h | h) | h
    · exact R.nt q (.inl h) ps z
    · rw [h] at z; exact R.rootNt (List.mem_of_getElem? ha) ps z
    · exact R.nt q (.inr h) ps z
  · have h2' : g.io[m]? = some b := h2
    by_cases e : m = n
    · subst e
      rw [ha] at h2'; cases h2'
      have hl : m < h.length := by have := (List.getElem?_eq_some_iff.mp h1).1; simpa using this
      rw [List.getElem?_set_self hl] at h1
      cases h1
      exact ⟨.inr rfl, rv⟩
    · rw [List.getElem?_set_ne (Ne.symm e)] at h1
      have nb : b ≠ a := fun z => by
        subst z
        exact e (nodup_inj R.nd h2' ha)
      exact RO.stp Stp.kill (fun h z => z.elim h nb) rfl (R.at' m o' b h1 h2')
  · rcases h with h | h
    · exact R.fz q h
    · rw [h]; exact R.root (List.mem_of_getElem? ha)
/-- an address that is ours for a while: others keep it -/
def Gh.keep (g : Gh) (D : Addr) : Gh := { g with kp := fun q => g.kp q ∨ q = D }
def Gh.back (g : Gh) (k : Addr → Prop) : Gh := { g with kp := k }
theorem Stp.keep {g : Gh} {H : Hp} {D : Addr} : Stp g H (g.keep D) H := ⟨List.prefix_rfl, fun _ h => h, fun _ h => .inl h, fun _ _ => .refl, fun _ _ => rfl, fun _ _ h => h⟩
theorem RH.keep {c : Ct} {g : Gh} {h : VH} {H : Hp} (R : RH c g h H) {D : Addr} {o : HO} (e : H D = some o) (nf : ¬ g.fz D) (ni : D ∉ g.io) (nt : ∀ ps, o ≠ .tbl ps := by intro _ z; cases z) : RH c (g.keep D) h H :=
  ⟨R.len, R.nd, fun n o a h1 h2 => RO.stp Stp.keep (fun h => h) rfl (R.at' n o a h1 h2), R.fz, fun q h => h.elim (R.kp q) (fun z => by rw [z]; exact ⟨o, e⟩), fun q h => h.elim (R.kd q) (fun z => by rw [z]; exact ⟨nf, ni⟩), R.tb, fun q h ps z => by
    rcases h with h | h | h
    · exact R.nt q (.inl h) ps z
    · exact R.nt q (.inr h) ps z
    · rw [h, e] at z; exact nt ps (Option.some.inj z)⟩
theorem RH.back {c : Ct} {g : Gh} {h : VH} {H : Hp} (R : RH c g h H) {k : Addr → Prop} (hk : ∀ p, k p → g.kp p) : RH c (g.back k) h H := by
  refine ⟨R.len, R.nd, fun n o a h1 h2 => ?_, R.fz, fun q h => R.kp q (hk q h), fun q h => R.kd q (hk q h), R.tb, fun q h => R.nt q (h.imp id (hk q))⟩
  have := R.at' n o a h1 h2
  cases o with
  | fzn v => exact this
  | fl xs => exact this
  | lo xs =>
    obtain ⟨h1, us, h3, h4⟩ := this
    exact ⟨h1, us, h3, RTs.back h4⟩
  | dT ks vs => exact this
  | dK ks vs => exact this
  | ins x ns vs =>
    obtain ⟨h1, C, dx, us, h3, h4, h5, h6⟩ := this
    refine ⟨h1, C, dx, us, h3, h4, h5, ?_⟩
    exact RTs.back h6
/-! the reading of a semantics -/
def Pst {α β : Type} (c : Ct) (W : WX) (σ : St) (R : Gh → Hp → α → β → Prop) (g : Gh) (H : Hp) (Q : β → Hp → Prop) : Res α → Prop
  | .no => False
  | .ok v h' => ∀ g' H' u, Stp g H g' H' → RH c g' h' H' → R g' H' v u → Q u H'
  | .exc x ns vs h' => ∀ g' H' C d us, Stp g H g' H' → RH c g' h' H' → c.mg x = some (.ref C) → (H' d = some (.xd (ns.zip us)) ∧ ¬ g'.fz d ∧ d ∉ g'.io) → ns.length = us.length → RVs c g'.fz H' vs us → W (.ref C) (some d) σ H'
theorem Pst.step {α β : Type} {c : Ct} {W : WX} {σ : St} {R : Gh → Hp → α → β → Prop} {g g1 : Gh} {H H1 : Hp} {Q : β → Hp → Prop} {r : Res α} (s : Stp g H g1 H1) (h : Pst c W σ R g H Q r) : Pst c W σ R g1 H1 Q r := by
  cases r with
  | no => exact h
  | ok v h' => exact fun g' H' u st => h g' H' u (s.trans st)
  | exc x ns vs h' => exact fun g' H' C d us st => h g' H' C d us (s.trans st)
theorem Pst.bind {α β γ δ : Type} {c : Ct} {W : WX} {σ : St} {R : Gh → Hp → α → β → Prop} {R' : Gh → Hp → γ → δ → Prop} {g : Gh} {H : Hp} {Q : δ → Hp → Prop} {r : Res α} {k : α → VH → Res γ} (h : Pst c W σ R' g H Q (r.bind k)) :
    Pst c W σ R g H (fun u H1 => ∃ g1 v h1, Stp g H g1 H1 ∧ RH c g1 h1 H1 ∧ R g1 H1 v u ∧ Pst c W σ R' g1 H1 Q (k v h1)) r := by
  cases r with
  | no => exact h
  | ok v h' => exact fun g' H' u st rh rv => ⟨g', v, h', st, rh, rv, Pst.step st h⟩
  | exc x ns vs h' => exact h
theorem Pst.imp {α β : Type} {c : Ct} {W : WX} {σ : St} {R : Gh → Hp → α → β → Prop} {g : Gh} {H : Hp} {Q Q' : β → Hp → Prop} {r : Res α} (h : Pst c W σ R g H Q r) (hq : ∀ u H, Q u H → Q' u H) : Pst c W σ R g H Q' r := by
  cases r with
  | no => exact h
  | ok v h' => exact fun g' H' u a b d => hq _ _ (h g' H' u a b d)
  | exc x ns vs h' => exact h
def tG {α β : Type} (c : Ct) (W : WX) (R : Gh → Hp → α → β → Prop) (f : VSt → VH → Res α) : St → Hp → (β → Hp → Prop) → Prop :=
  fun σ H Q => ∃ g ρ h, RH c g h H ∧ RS c g H ρ σ ∧ Pst c W σ R g H Q (f ρ h)
abbrev EF := VSt → VH → Res VV
abbrev TF := VSt → VH → Res Bool
abbrev AF := VSt → VH → Res (List VV)
def RB (_ : Gh) (_ : Hp) (a b : Bool) : Prop := b = a
abbrev tE (c : Ct) (W : WX) (f : EF) : TE := tG c W (RT c) f
abbrev tT (c : Ct) (W : WX) (f : TF) : TT := tG c W RB f
abbrev tA (c : Ct) (W : WX) (f : AF) : TA := tG c W (RTs c) f
abbrev ct (X : Cx) : Ct := ⟨X.K, X.mg⟩
theorem PE.mono {X : Cx} {e : Expr} {t t' : TE} (h : PE X e t) (m : ∀ σ H Q, t' σ H Q → t σ H Q) : PE X e t' := ⟨fun pins s σ H Q I q => h.run pins s σ H Q I (m σ H Q q)⟩
theorem PT.mono {X : Cx} {e : Expr} {t t' : TT} (h : PT X e t) (m : ∀ σ H Q, t' σ H Q → t σ H Q) : PT X e t' := ⟨fun pins s σ H Q I q => h.run pins s σ H Q I (m σ H Q q)⟩
theorem PW.mono {X : Cx} {e : Expr} {t t' : TT} (h : PW X e t) (m : ∀ σ H Q, t' σ H Q → t σ H Q) : PW X e t' := ⟨fun wh pins s σ H Q I q => h.run wh pins s σ H Q I (m σ H Q q)⟩
theorem PA.mono {X : Cx} {e : List Expr} {t t' : TA} (h : PA X e t) (m : ∀ σ H Q, t' σ H Q → t σ H Q) : PA X e t' := ⟨fun pos pins s σ H Q I q => h.run pos pins s σ H Q I (m σ H Q q)⟩
theorem PS.mono {X : Cx} {e : Stmt} {t t' : TS} (h : PS X e t) (m : ∀ D σ H, t' D σ H → t D σ H) : PS X e t' := ⟨fun pins s σ H D I q => h.run pins s σ H D I (m D σ H q)⟩
theorem PSs.mono {X : Cx} {e : List Stmt} {t t' : TS} (h : PSs X e t) (m : ∀ D σ H, t' D σ H → t D σ H) : PSs X e t' := ⟨fun pins s σ H D I q => h.run pins s σ H D I (m D σ H q)⟩
theorem PI.mono {X : Cx} {tg e : Expr} {t t' : TI} (h : PI X tg e t) (m : ∀ σ H R, t' σ H R → t σ H R) : PI X tg e t' := ⟨fun pins s σ H R I q => h.run pins s σ H R I (m σ H R q)⟩
/-- what is left behind a first part -/
theorem tG.bind {α β γ δ : Type} {c : Ct} {W : WX} {R : Gh → Hp → α → β → Prop} {R' : Gh → Hp → γ → δ → Prop} {f : VSt → VH → Res α} {k : α → VSt → VH → Res γ} {σ : St} {H : Hp} {Q : δ → Hp → Prop}
    (h : tG c W R' (fun ρ h => (f ρ h).bind fun v h1 => k v ρ h1) σ H Q) :
    tG c W R f σ H (fun u H1 => ∃ g1 ρ v h1, RH c g1 h1 H1 ∧ RS c g1 H1 ρ σ ∧ R g1 H1 v u ∧ Pst c W σ R' g1 H1 Q (k v ρ h1)) := by
  obtain ⟨g, ρ, h0, rh, rs, p⟩ := h
  refine ⟨g, ρ, h0, rh, rs, (Pst.bind (R := R) p).imp fun u H1 ⟨g1, v, h1, st, r1, rv, p1⟩ => ⟨g1, ρ, v, h1, r1, rs.stp st, rv, p1⟩⟩
end J
namespace J
open PySem L2
/-! semantic functions -/
abbrev SZ : Nat := 16777216
theorem SZ_le {n : Nat} (h : n ≤ SZ) : n ≤ sizeLine := by rw [sizeLine_eq]; exact h
theorem SZ_lt {n : Nat} (h : n < SZ) : n < sizeLine := by rw [sizeLine_eq]; exact h
def eVar (i : Nat) : EF := fun ρ h => match ρ[i]? with
  | some (some v) => .ok v h
  | _ => .no
def eC (v : VV) : EF := fun _ h => .ok v h
/-- an operation on values that makes no root and changes none -/
abbrev Op2 := VH → VV → VV → Option VV
abbrev Op1 := VH → VV → Option VV
abbrev OpN := VH → List VV → Option VV
def lift (o : Option VV) (h : VH) : Res VV := match o with
  | some v => .ok v h
  | none => .no
def eBin (op : Op2) (a b : EF) : EF := fun ρ h => (a ρ h).bind fun v h1 => (b ρ h1).bind fun w h2 => lift (op h2 v w) h2
def eUn (op : Op1) (a : EF) : EF := fun ρ h => (a ρ h).bind fun v h1 => lift (op h1 v) h1
def eCall (op : OpN) (a : AF) : EF := fun ρ h => (a ρ h).bind fun v h1 => lift (op h1 v) h1
def aNil : AF := fun _ h => .ok [] h
def aCons (a : EF) (b : AF) : AF := fun ρ h => (a ρ h).bind fun v h1 => (b ρ h1).bind fun w h2 => .ok (v :: w) h2
/-- what a rule on values must take: the operation's answer, new or old data -/
def Rd2 (c : Ct) (op : Op2) : R2 := fun x y H Q => ∃ g h v w r, RH c g h H ∧ RT c g H v x ∧ RT c g H w y ∧ op h v w = some r ∧ ∀ g' H' u, Stp g H g' H' → RH c g' h H' → RT c g' H' r u → Q u H'
def RdN (c : Ct) (op : OpN) : List V → Hp → VK → Prop := fun xs H Q => ∃ g h vs r, RH c g h H ∧ RTs c g H vs xs ∧ op h vs = some r ∧ ∀ g' H' u, Stp g H g' H' → RH c g' h H' → RT c g' H' r u → Q u H'
theorem OpR.imp {X : Cx} {f : Value → Value → Sem Value} {r r' : R2} (h : OpR X f r) (m : ∀ x y H Q, r' x y H Q → r x y H Q) : OpR X f r' :=
  fun pins s σ H x y v u Q I a b q => h pins s σ H x y v u Q I a b (m x y H Q q)
theorem IxR.imp {X : Cx} {r r' : R2} (h : IxR X r) (m : ∀ x y H Q, r' x y H Q → r x y H Q) : IxR X r' := by
  unfold IxR at h ⊢
  intros
  apply h <;> first | assumption | (apply m; assumption)
theorem UnR.imp {X : Cx} {f : Value → Sem Value} {r r' : V → Hp → VK → Prop} (h : UnR X f r) (m : ∀ x H Q, r' x H Q → r x H Q) : UnR X f r' :=
  fun pins s σ H x v Q I a q => h pins s σ H x v Q I a (m x H Q q)
theorem CallR.imp {X : Cx} {f : Value} {r r' : List V → Hp → VK → Prop} (h : CallR X f r) (m : ∀ x H Q, r' x H Q → r x H Q) : CallR X f r' :=
  fun pins s σ H x v Q I a q => h pins s σ H x v Q I a (m x H Q q)
section
variable {X : Cx} {W : WX}
theorem j_var (i : Nat) {x : Str} {pos : Pos} (h : PE X (.Name x pos) (tVar i)) : PE X (.Name x pos) (tE (ct X) W (eVar i)) :=
  PE.mono h fun σ H Q ⟨g, ρ, hh, rh, rs, p⟩ => by
    unfold eVar at p
    split at p
    · rename_i v e
      obtain ⟨u, a, b⟩ := rs.get i v e
      exact ⟨u, a, p g H u .refl rh b⟩
    · exact p.elim
theorem j_c {e : Expr} {v : VV} {u : V} (h : PE X e (tC u)) (r : ∀ g H, RT (ct X) g H v u) : PE X e (tE (ct X) W (eC v)) :=
  PE.mono h fun σ H Q ⟨g, ρ, hh, rh, rs, p⟩ => p g H u .refl rh (r g H)
theorem rt_int {c : Ct} {g : Gh} {H : Hp} {i : Int} : RT c g H (.int i) (.int i) := by show RV _ _ _ _ _; rw [RV]
theorem rt_bl {c : Ct} {g : Gh} {H : Hp} {i : Bool} : RT c g H (.bl i) (.bl i) := by show RV _ _ _ _ _; rw [RV]
theorem rt_str {c : Ct} {g : Gh} {H : Hp} {i : Str} : RT c g H (.str i) (.str i) := by show RV _ _ _ _ _; rw [RV]
theorem rt_non {c : Ct} {g : Gh} {H : Hp} : RT c g H .non .non := by show RV _ _ _ _ _; rw [RV]
theorem rt_ty {c : Ct} {g : Gh} {H : Hp} {n : String} : RT c g H (.ty n) (.ty n) := by show RV _ _ _ _ _; rw [RV]
theorem j_int {i j pos} : PE X (.Constant (.int i) j pos) (tE (ct X) W (eC (.int i))) := j_c pe_int fun _ _ => rt_int
theorem j_bl {i j pos} : PE X (.Constant (.bool i) j pos) (tE (ct X) W (eC (.bl i))) := j_c pe_bl fun _ _ => rt_bl
theorem j_str {i j pos} : PE X (.Constant (.str i) j pos) (tE (ct X) W (eC (.str i))) := j_c pe_str fun _ _ => rt_str
theorem j_non {j pos} : PE X (.Constant .none j pos) (tE (ct X) W (eC .non)) := j_c pe_non fun _ _ => rt_non
/-- from a bind to a continuation -/
theorem tOp_of {r : R2} {op : Op2} {fa fb : EF} (m : ∀ x y H Q, Rd2 (ct X) op x y H Q → r x y H Q) {σ : St} {H : Hp} {Q : VK} (h : tE (ct X) W (eBin op fa fb) σ H Q) :
    tOp r (tE (ct X) W fa) (tE (ct X) W fb) σ H Q := by
  have h1 := tG.bind (R := RT (ct X)) (f := fa) (k := fun v ρ h1 => (fb ρ h1).bind fun w h2 => lift (op h2 v w) h2) h
  obtain ⟨g, ρ, h0, rh, rs, p⟩ := h1
  refine ⟨g, ρ, h0, rh, rs, p.imp fun u H1 ⟨g1, ρ1, v, h1, rh1, rs1, rv1, p1⟩ => ?_⟩
  refine ⟨g1, ρ1, h1, rh1, rs1, (Pst.bind (R := RT (ct X)) p1).imp fun u2 H2 ⟨g2, w, h2, st, rh2, rv2, p2⟩ => ?_⟩
  refine m _ _ _ _ ?_
  unfold lift at p2
  split at p2
  · rename_i r e
    exact ⟨g2, h2, v, w, r, rh2, rv1.stp st, rv2, e, p2⟩
  · exact p2.elim
theorem j_bin {op : Op2} {o : Operator} {a b : Expr} {fa fb : EF} {pos : Pos} (ho : OpR X (binaryOp o) (Rd2 (ct X) op)) (ha : PE X a (tE (ct X) W fa)) (hb : PE X b (tE (ct X) W fb)) : PE X (.BinOp a o b pos) (tE (ct X) W (eBin op fa fb)) :=
  PE.mono (pe_op ho ha hb) fun σ H Q h => tOp_of (fun _ _ _ _ q => q) h
theorem j_ix {op : Op2} {a b : Expr} {fa fb : EF} {pos : Pos} (ho : IxR X (Rd2 (ct X) op)) (ha : PE X a (tE (ct X) W fa)) (hb : PE X b (tE (ct X) W fb)) (hs : PlainIx b) : PE X (.Subscript a b pos) (tE (ct X) W (eBin op fa fb)) :=
  PE.mono (pe_ix ho ha hb hs) fun σ H Q h => tOp_of (fun _ _ _ _ q => q) h
theorem j_cmp {op : Op2} {o : CmpOp} {a b : Expr} {fa fb : EF} {pos : Pos} (ho : OpR X (compareOp o) (Rd2 (ct X) op)) (ha : PE X a (tE (ct X) W fa)) (hb : PE X b (tE (ct X) W fb)) (hm : behindInMarks o b = false) : PE X (.Compare a [o] [b] pos) (tE (ct X) W (eBin op fa fb)) :=
  PE.mono (pe_cmpR ho ha hb hm) fun σ H Q h => tOp_of (fun _ _ _ _ q => q) h
/-! arguments -/
theorem ja_nil : PA X [] (tA (ct X) W aNil) := PA.mono pa_nil fun σ H Q ⟨g, ρ, h0, rh, rs, p⟩ => p g H [] .refl rh rfl
theorem ja_cons {e : Expr} {es : List Expr} {fa : EF} {fb : AF} (ha : PE X e (tE (ct X) W fa)) (hr : PA X es (tA (ct X) W fb)) (hs : starEach (e :: es) X.env = (false, eval e X.env) :: starEach es X.env := by rfl) : PA X (e :: es) (tA (ct X) W (aCons fa fb)) :=
  PA.mono (pa_cons ha hr hs) fun σ H Q h => by
    obtain ⟨g, ρ, h0, rh, rs, p⟩ := tG.bind (R := RT (ct X)) (f := fa) (k := fun v ρ h1 => (fb ρ h1).bind fun w h2 => .ok (v :: w) h2) h
    refine ⟨g, ρ, h0, rh, rs, p.imp fun u H1 ⟨g1, ρ1, v, h1, rh1, rs1, rv1, p1⟩ => ?_⟩
    refine ⟨g1, ρ1, h1, rh1, rs1, (Pst.bind (R := RTs (ct X)) p1).imp fun u2 H2 ⟨g2, w, h2, st, rh2, rv2, p2⟩ => ?_⟩
    exact p2 g2 H2 (u :: u2) .refl rh2 ⟨u, u2, rfl, rv1.stp st, rv2⟩
theorem tCB_of {r : List V → Hp → VK → Prop} {op : OpN} {fa : AF} (m : ∀ x H Q, RdN (ct X) op x H Q → r x H Q) {σ : St} {H : Hp} {Q : VK} (h : tE (ct X) W (eCall op fa) σ H Q) : tCB r (tA (ct X) W fa) σ H Q := by
  obtain ⟨g, ρ, h0, rh, rs, p⟩ := tG.bind (R := RTs (ct X)) (f := fa) (k := fun v ρ h1 => lift (op h1 v) h1) h
  refine ⟨g, ρ, h0, rh, rs, p.imp fun u H1 ⟨g1, ρ1, v, h1, rh1, rs1, rv1, p1⟩ => ?_⟩
  unfold lift at p1
  split at p1
  · rename_i r e
    exact m _ _ _ ⟨g1, h1, v, r, rh1, rv1, e, p1⟩
  · exact p1.elim
theorem j_callB {x : Str} {p pos : Pos} {id : String} {op : OpN} {e : Expr} {es : List Expr} {fa : AF} (hc : CallR X (.builtin id) (RdN (ct X) op)) (hg : Gl X x) (hm : X.mg x = none) (hv : bootBuiltins x = some (.builtin id)) (ha : PA X (e :: es) (tA (ct X) W fa)) (hn : x ≠ "__name__" := by decide) (hdb : (x == ("__debug__" : Str)) = false := by decide)
    (he : starEach (e :: es) X.env = (false, eval e X.env) :: starEach es X.env := by rfl) (hpl : (backTo pos (starEach es X.env)).any (·.1) = false := by rfl) : PE X (.Call (.Name x p) (e :: es) [] pos) (tE (ct X) W (eCall op fa)) :=
  PE.mono (pe_callB hc hg hm hv ha hn hdb he hpl) fun σ H Q h => tCB_of (fun _ _ _ q => q) h
theorem j_callTy {x : Str} {p pos : Pos} {T : String} {op : OpN} {e : Expr} {es : List Expr} {fa : AF} (hc : CallR X (.type T) (RdN (ct X) op)) (hg : Gl X x) (hm : X.mg x = none) (hv : bootBuiltins x = some (.type T)) (ha : PA X (e :: es) (tA (ct X) W fa)) (hn : x ≠ "__name__" := by decide) (hdb : (x == ("__debug__" : Str)) = false := by decide)
    (he : starEach (e :: es) X.env = (false, eval e X.env) :: starEach es X.env := by rfl) (hpl : (backTo pos (starEach es X.env)).any (·.1) = false := by rfl) : PE X (.Call (.Name x p) (e :: es) [] pos) (tE (ct X) W (eCall op fa)) :=
  PE.mono (pe_callTy hc hg hm hv ha hn hdb he hpl) fun σ H Q h => tCB_of (fun _ _ _ q => q) h
/-! displays -/
def eTup (a : AF) : EF := fun ρ h => (a ρ h).bind fun vs h1 => if vs.any VV.isObj = true ∨ vs.length > SZ then .no else .ok (.tup vs) h1
def eLst (a : AF) : EF := fun ρ h => (a ρ h).bind fun vs h1 => if vs.any VV.isObj = true ∨ vs.length > SZ then .no else .ok (.lst vs) h1
/-- a display whose list is a root -/
def eLstO (a : AF) : EF := fun ρ h => (a ρ h).bind fun vs h1 => if vs.any VV.isObj = true ∨ vs.length > SZ then .no else .ok (.obj h1.length) (h1 ++ [.fl vs])
theorem j_tup {es : List Expr} {fa : AF} {x1} {pos : Pos} (ha : PA X es (tA (ct X) W fa)) : PE X (.Tuple es x1 pos) (tE (ct X) W (eTup fa)) :=
  PE.mono (pe_tup ha) fun σ H Q h => by
    obtain ⟨g, ρ, h0, rh, rs, p⟩ := tG.bind (R := RTs (ct X)) (f := fa) (k := fun (vs : List VV) ρ h1 => if vs.any VV.isObj = true ∨ vs.length > SZ then .no else .ok (VV.tup vs) h1) h
    refine ⟨g, ρ, h0, rh, rs, p.imp fun u H1 ⟨g1, ρ1, v, h1, rh1, rs1, rv1, p1⟩ => ?_⟩
    by_cases c : v.any VV.isObj = true ∨ v.length > SZ
    · rw [if_pos c] at p1; exact p1.elim
    · rw [if_neg c] at p1
      rw [not_or, Bool.not_eq_true] at c
      refine ⟨by rw [← rv1.len]; exact SZ_le (by omega), fun p hp => p1 (g1.frz p) (upd H1 p (.tup u)) (.ref p) (.new rh1 hp) (rh1.new hp) ?_⟩
      show RV _ _ _ _ _
      rw [RV]
      exact ⟨p, u, rfl, upd_same, (Stp.new rh1 hp).rvs (rv1.rvs c.1)⟩
theorem j_lst {es : List Expr} {fa : AF} {pos : Pos} (ha : PA X es (tA (ct X) W fa)) : PE X (.List es pos) (tE (ct X) W (eLst fa)) :=
  PE.mono (pe_lst ha) fun σ H Q h => by
    obtain ⟨g, ρ, h0, rh, rs, p⟩ := tG.bind (R := RTs (ct X)) (f := fa) (k := fun (vs : List VV) ρ h1 => if vs.any VV.isObj = true ∨ vs.length > SZ then .no else .ok (VV.lst vs) h1) h
    refine ⟨g, ρ, h0, rh, rs, p.imp fun u H1 ⟨g1, ρ1, v, h1, rh1, rs1, rv1, p1⟩ => ?_⟩
    by_cases c : v.any VV.isObj = true ∨ v.length > SZ
    · rw [if_pos c] at p1; exact p1.elim
    · rw [if_neg c] at p1
      rw [not_or, Bool.not_eq_true] at c
      refine ⟨by rw [← rv1.len]; exact SZ_le (by omega), fun p hp => p1 (g1.frz p) (upd H1 p (.lst u)) (.ref p) (.new rh1 hp) (rh1.new hp) ?_⟩
      show RV _ _ _ _ _
      rw [RV]
      exact ⟨p, u, rfl, .inr rfl, upd_same, (Stp.new rh1 hp).rvs (rv1.rvs c.1)⟩
/-- a new list of data that nobody holds becomes a root -/
theorem root_new {c : Ct} {g : Gh} {h : VH} {H : Hp} {p : Addr} {vs : List VV} {us : List V} (rh : RH c g h H) (hp : H p = none) (rv : RVs c g.fz H vs us) :
    Stp g H (g.add p) (upd H p (.lst us)) ∧ RH c (g.add p) (h ++ [.fl vs]) (upd H p (.lst us)) ∧ RT c (g.add p) (upd H p (.lst us)) (.obj h.length) (.ref p) := by
  have st : Stp g H g (upd H p (.lst us)) := .junk rh hp
  have rh1 : RH c g h (upd H p (.lst us)) := rh.junk hp
  have np : p ∉ g.io := fun z => by
    obtain ⟨o, e⟩ := rh.root z
    rw [hp] at e; cases e
  refine ⟨st.trans .add, rh1.add np (fun z => ?_) ⟨fun z => ?_, us, upd_same, st.rvs rv⟩, p, ?_, rfl⟩
  · obtain ⟨o, e⟩ := rh.kp p z
    rw [hp] at e; cases e
  · obtain ⟨o, e⟩ := rh.fz p z
    rw [hp] at e; cases e
  · show (g.io ++ [p])[h.length]? = some p
    rw [← rh.len, List.getElem?_append_right (Nat.le_refl _), Nat.sub_self]; rfl
theorem j_lstO {es : List Expr} {fa : AF} {pos : Pos} (ha : PA X es (tA (ct X) W fa)) : PE X (.List es pos) (tE (ct X) W (eLstO fa)) :=
  PE.mono (pe_lst ha) fun σ H Q h => by
    obtain ⟨g, ρ, h0, rh, rs, p⟩ := tG.bind (R := RTs (ct X)) (f := fa) (k := fun (vs : List VV) ρ h1 => if vs.any VV.isObj = true ∨ vs.length > SZ then .no else .ok (VV.obj h1.length) (h1 ++ [.fl vs])) h
    refine ⟨g, ρ, h0, rh, rs, p.imp fun u H1 ⟨g1, ρ1, v, h1, rh1, rs1, rv1, p1⟩ => ?_⟩
    by_cases c : v.any VV.isObj = true ∨ v.length > SZ
    · rw [if_pos c] at p1; exact p1.elim
    · rw [if_neg c] at p1
      rw [not_or, Bool.not_eq_true] at c
      refine ⟨by rw [← rv1.len]; exact SZ_le (by omega), fun p hp => ?_⟩
      obtain ⟨a, b, d⟩ := root_new rh1 hp (rv1.rvs c.1)
      exact p1 _ _ _ a b d
/-! tests -/
def tVal (a : EF) : TF := fun ρ h => (a ρ h).bind fun v h1 => match v with
  | .bl b => .ok b h1
  | _ => .no
def tAnd (a b : TF) : TF := fun ρ h => (a ρ h).bind fun v h1 => if v = true then b ρ h1 else .ok false h1
def tOr (a b : TF) : TF := fun ρ h => (a ρ h).bind fun v h1 => if v = true then .ok true h1 else b ρ h1
def tNot (a : TF) : TF := fun ρ h => (a ρ h).bind fun v h1 => .ok (!v) h1
theorem tVal_of {a : EF} {σ : St} {H : Hp} {Q : Bool → Hp → Prop} (h : tT (ct X) W (tVal a) σ H Q) : tE (ct X) W a σ H (fun x H1 => ∃ k, x = .bl k ∧ Q k H1) := by
  obtain ⟨g, ρ, h0, rh, rs, p⟩ := tG.bind (R := RT (ct X)) (f := a) (k := fun v ρ h1 => match v with
    | .bl b => .ok b h1
    | _ => .no) h
  refine ⟨g, ρ, h0, rh, rs, p.imp fun u H1 ⟨g1, ρ1, v, h1, rh1, rs1, rv1, p1⟩ => ?_⟩
  cases v with
  | bl b =>
    have e : u = .bl b := by have := rv1.rv rfl; rw [RV] at this; exact this
    exact ⟨b, e, p1 g1 H1 b .refl rh1 rfl⟩
  | _ => exact p1.elim
theorem jt_val {e : Expr} {fa : EF} (h : PE X e (tE (ct X) W fa)) (he : ∀ whole, isTrue e X.env whole = (do let v ← whole; standAt e.pos; holding [v] (truthy v)) := by intro _; rfl) : PT X e (tT (ct X) W (tVal fa)) :=
  PT.mono (pt_val h he) fun σ H Q q => tVal_of q
theorem jt_cmp {op : Op2} {o : CmpOp} {a b : Expr} {fa fb : EF} {pos : Pos} (ho : OpR X (compareOp o) (Rd2 (ct X) op)) (ha : PE X a (tE (ct X) W fa)) (hb : PE X b (tE (ct X) W fb)) (hm : behindInMarks o b = false) : PT X (.Compare a [o] [b] pos) (tT (ct X) W (tVal (eBin op fa fb))) :=
  PT.mono (pt_cmpR ho ha hb hm) fun σ H Q q => tOp_of (fun _ _ _ _ q => q) (tVal_of q)
theorem jw_or1 {a : Expr} {fa : TF} {pos : Pos} (ha : PT X a (tT (ct X) W fa)) : PW X (.BoolOp .Or [a] pos) (tT (ct X) W fa) := pw_or1 ha
theorem jw_or {a b : Expr} {rest : List Expr} {fa fb : TF} {pos : Pos} (ha : PT X a (tT (ct X) W fa)) (hb : PW X (.BoolOp .Or (b :: rest) pos) (tT (ct X) W fb)) : PW X (.BoolOp .Or (a :: b :: rest) pos) (tT (ct X) W (tOr fa fb)) :=
  PW.mono (pw_or ha hb) fun σ H Q h => by
    obtain ⟨g, ρ, h0, rh, rs, p⟩ := tG.bind (R := RB) (f := fa) (k := fun v ρ h1 => if v = true then .ok true h1 else fb ρ h1) h
    refine ⟨g, ρ, h0, rh, rs, p.imp fun u H1 ⟨g1, ρ1, v, h1, rh1, rs1, rv1, p1⟩ => ?_⟩
    cases rv1
    cases u with
    | true => rw [if_pos rfl] at p1 ⊢; exact p1 g1 H1 true .refl rh1 rfl
    | false => rw [if_neg Bool.false_ne_true] at p1 ⊢; exact ⟨g1, ρ1, h1, rh1, rs1, p1⟩
theorem jt_not {a : Expr} {fa : TF} {pos : Pos} (ha : PT X a (tT (ct X) W fa)) : PT X (.UnaryOp .Not a pos) (tT (ct X) W (tNot fa)) :=
  PT.mono (pt_not ha) fun σ H Q h => by
    obtain ⟨g, ρ, h0, rh, rs, p⟩ := tG.bind (R := RB) (f := fa) (k := fun v ρ h1 => .ok (!v) h1) h
    refine ⟨g, ρ, h0, rh, rs, p.imp fun u H1 ⟨g1, ρ1, v, h1, rh1, rs1, rv1, p1⟩ => ?_⟩
    cases rv1
    exact p1 g1 H1 _ .refl rh1 rfl
def eIf (c : TF) (a b : EF) : EF := fun ρ h => (c ρ h).bind fun v h1 => if v = true then a ρ h1 else b ρ h1
theorem j_if {c a b : Expr} {fc : TF} {fa fb : EF} {pos : Pos} (hc : PT X c (tT (ct X) W fc)) (ha : PE X a (tE (ct X) W fa)) (hb : PE X b (tE (ct X) W fb)) : PE X (.IfExp c a b pos) (tE (ct X) W (eIf fc fa fb)) :=
  PE.mono (pe_ifExp hc ha hb) fun σ H Q h => by
    obtain ⟨g, ρ, h0, rh, rs, p⟩ := tG.bind (R := RB) (f := fc) (k := fun v ρ h1 => if v = true then fa ρ h1 else fb ρ h1) h
    refine ⟨g, ρ, h0, rh, rs, p.imp fun u H1 ⟨g1, ρ1, v, h1, rh1, rs1, rv1, p1⟩ => ?_⟩
    cases rv1
    cases u with
    | true => rw [if_pos rfl] at p1 ⊢; exact ⟨g1, ρ1, h1, rh1, rs1, p1⟩
    | false => rw [if_neg Bool.false_ne_true] at p1 ⊢; exact ⟨g1, ρ1, h1, rh1, rs1, p1⟩
/-- and, or, not of truth values -/
def eAnd (a b : EF) : EF := fun ρ h => (a ρ h).bind fun v h1 => match v with
  | .bl true => b ρ h1
  | .bl false => .ok (.bl false) h1
  | _ => .no
def eOr (a b : EF) : EF := fun ρ h => (a ρ h).bind fun v h1 => match v with
  | .bl true => .ok (.bl true) h1
  | .bl false => b ρ h1
  | _ => .no
def eNot (a : EF) : EF := fun ρ h => (a ρ h).bind fun v h1 => match v with
  | .bl b => .ok (.bl (!b)) h1
  | _ => .no
theorem j_one {op} {a : Expr} {f : EF} {pos : Pos} (h : PE X a (tE (ct X) W f)) : PE X (.BoolOp op [a] pos) (tE (ct X) W f) := pe_one h
theorem j_and {a b : Expr} {rest : List Expr} {fa fb : EF} {pos : Pos} (ha : PE X a (tE (ct X) W fa)) (hb : PE X (.BoolOp .And (b :: rest) pos) (tE (ct X) W fb)) : PE X (.BoolOp .And (a :: b :: rest) pos) (tE (ct X) W (eAnd fa fb)) :=
  PE.mono (pe_and ha hb) fun σ H Q h => by
    obtain ⟨g, ρ, h0, rh, rs, p⟩ := tG.bind (R := RT (ct X)) (f := fa) (k := fun v ρ h1 => match v with
      | .bl true => fb ρ h1
      | .bl false => .ok (.bl false) h1
      | _ => .no) h
    refine ⟨g, ρ, h0, rh, rs, p.imp fun u H1 ⟨g1, ρ1, v, h1, rh1, rs1, rv1, p1⟩ => ?_⟩
    cases v with
    | bl b =>
      have e : u = .bl b := by have := rv1.rv rfl; rw [RV] at this; exact this
      refine ⟨b, e, ?_⟩
      cases b with
      | true => rw [if_pos rfl]; exact ⟨g1, ρ1, h1, rh1, rs1, p1⟩
      | false => rw [if_neg Bool.false_ne_true]; exact p1 g1 H1 _ .refl rh1 rt_bl
    | _ => exact p1.elim
/-- a op b op' c -/
def eChain (o o' : Op2) (a b c : EF) : EF := fun ρ h => (a ρ h).bind fun v h1 => (b ρ h1).bind fun w h2 => (lift (o h2 v w) h2).bind fun k h3 => match k with
  | .bl true => (c ρ h3).bind fun z h4 => lift (o' h4 w z) h4
  | .bl false => .ok (.bl false) h3
  | _ => .no
theorem tChain_of {o o' : Op2} {a b c : EF} {σ : St} {H : Hp} {Q : VK} (h : tE (ct X) W (eChain o o' a b c) σ H Q) :
    tChain (Rd2 (ct X) o) (Rd2 (ct X) o') (tE (ct X) W a) (tE (ct X) W b) (tE (ct X) W c) σ H Q := by
  obtain ⟨g, ρ, h0, rh, rs, p⟩ := tG.bind (R := RT (ct X)) (f := a) (k := fun v ρ h1 => (b ρ h1).bind fun w h2 => (lift (o h2 v w) h2).bind fun k h3 => match k with
    | .bl true => (c ρ h3).bind fun z h4 => lift (o' h4 w z) h4
    | .bl false => .ok (.bl false) h3
    | _ => .no) h
  refine ⟨g, ρ, h0, rh, rs, p.imp fun u H1 ⟨g1, ρ1, v, h1, rh1, rs1, rv1, p1⟩ => ?_⟩
  refine ⟨g1, ρ1, h1, rh1, rs1, (Pst.bind (R := RT (ct X)) p1).imp fun u2 H2 ⟨g2, w, h2, st, rh2, rv2, p2⟩ => ?_⟩
  unfold lift at p2
  cases e : o h2 v w with
  | none => rw [e] at p2; exact p2.elim
  | some k =>
    rw [e] at p2
    refine ⟨g2, h2, v, w, k, rh2, rv1.stp st, rv2, e, fun g3 H3 u3 st3 rh3 rv3 => ?_⟩
    cases k with
    | bl bb =>
      have e3 : u3 = .bl bb := by have := rv3.rv rfl; rw [RV] at this; exact this
      refine ⟨bb, e3, ?_⟩
      cases bb with
      | true =>
        rw [if_pos rfl]
        have p3 : Pst (ct X) W σ (RT (ct X)) g2 H2 Q ((c ρ1 h2).bind fun z h4 => lift (o' h4 w z) h4) := p2
        refine ⟨g3, ρ1, h2, rh3, (rs1.stp st).stp st3, (Pst.bind (R := RT (ct X)) (Pst.step st3 p3)).imp fun u4 H4 ⟨g4, z, h4, st4, rh4, rv4, p4⟩ => ?_⟩
        cases e4 : o' h4 w z with
        | none => rw [e4] at p4; exact p4.elim
        | some r =>
          rw [e4] at p4
          exact ⟨g4, h4, w, z, r, rh4, (rv2.stp st3).stp st4, rv4, e4, p4⟩
      | false => rw [if_neg Bool.false_ne_true]; exact p2 g3 H3 _ st3 rh3 rt_bl
    | _ => exact p2.elim
theorem j_chain {o o' : Op2} {op op' : CmpOp} {a b c : Expr} {fa fb fc : EF} {pos : Pos} (ho : OpR X (compareOp op) (Rd2 (ct X) o)) (ho' : OpR X (compareOp op') (Rd2 (ct X) o')) (ha : PE X a (tE (ct X) W fa)) (hb : PE X b (tE (ct X) W fb)) (hc : PE X c (tE (ct X) W fc))
    (hm : lastMarks [op, op'] [b, c] = false := by with_unfolding_all rfl) : PE X (.Compare a [op, op'] [b, c] pos) (tE (ct X) W (eChain o o' fa fb fc)) :=
  PE.mono (pe_chain ho ho' ha hb hc hm) fun σ H Q h => tChain_of h
end
end J
namespace J
open PySem L2
open PyProof.Rows (envOfC)
/-! what is walked -/
/-- what is frozen stands -/
structure Fst (g : Gh) (H : Hp) (g' : Gh) (H' : Hp) : Prop where
  fz : ∀ p, g.fz p → g'.fz p
  fH : ∀ p, g.fz p → Ke (H p) (H' p)
  tp : ∀ p us, H p = some (.tup us) → H' p = some (.tup us)
theorem Stp.f {g g' : Gh} {H H' : Hp} (s : Stp g H g' H') : Fst g H g' H' := ⟨s.fz, s.fH, s.tp⟩
theorem Fst.rv {c : Ct} {g g' : Gh} {H H' : Hp} (s : Fst g H g' H') {v : VV} {u : V} (h : RV c g.fz H v u) : RV c g'.fz H' v u := RV.stp s.fz s.fH s.tp _ _ h
theorem Fst.trans {g g1 g2 : Gh} {H H1 H2 : Hp} (a : Fst g H g1 H1) (b : Fst g1 H1 g2 H2) : Fst g H g2 H2 := ⟨fun p h => b.fz p (a.fz p h), fun p h => (a.fH p h).trans (b.fH p (a.fz p h)), fun p us h => b.tp p us (a.tp p us h)⟩
structure Deliv (c : Ct) (g0 : Gh) (H0 : Hp) (items : List VV) (J : It) : Prop where
  go : ∀ g H, Fst g0 H0 g H → ∀ (i : Nat), i < items.length → J.go i H
  stop : ∀ g H, Fst g0 H0 g H → ∀ (i : Nat), items.length ≤ i → J.stop i H
  yld : ∀ g H, Fst g0 H0 g H → ∀ (i : Nat) (x : VV) (h : VH), items[i]? = some x → RH c g h H → ∀ u H', J.yld i H u H' → ∃ g', Stp g H g' H' ∧ RH c g' h H' ∧ RT c g' H' x u
abbrev tI (c : Ct) (W : WX) (f : AF) : TI := tG c W (fun g H xs J => Deliv c g H xs J) f
theorem PI.or {X : Cx} {tg e : Expr} {t t' : TI} (a : PI X tg e t) (b : PI X tg e t') : PI X tg e (fun σ H R => t σ H R ∨ t' σ H R) := ⟨fun pins s σ H R I q => q.elim (a.run pins s σ H R I) (b.run pins s σ H R I)⟩
/-! targets -/
structure PatOk (K : PySem.W.Frag) (t : TG) (b : VV → VSt → Option VSt) (own : List Nat) : Prop where
  run : ∀ (c : Ct) (g : Gh) (h : VH) (H : Hp) (ρ : VSt) (σ : St) (v : VV) (u : V) (ρ' : VSt), c.K = K → RH c g h H → RS c g H ρ σ → RT c g H v u → b v ρ = some ρ' →
    ∀ Q : St → Hp → Prop, (∀ σ', RS c g H ρ' σ' → (∀ i, i ∉ own → σ'[i]? = σ[i]?) → σ'.length = σ.length → Q σ' H) → t u σ H Q
structure PatsOk (K : PySem.W.Frag) (t : TGs) (b : List VV → VSt → Option VSt) (own : List Nat) : Prop where
  run : ∀ (c : Ct) (g : Gh) (h : VH) (H : Hp) (ρ : VSt) (σ : St) (v : List VV) (u : List V) (ρ' : VSt), c.K = K → RH c g h H → RS c g H ρ σ → RTs c g H v u → b v ρ = some ρ' →
    ∀ Q : St → Hp → Prop, (∀ σ', RS c g H ρ' σ' → (∀ i, i ∉ own → σ'[i]? = σ[i]?) → σ'.length = σ.length → Q σ' H) → t u σ H Q
def bNm (i : Nat) : VV → VSt → Option VSt := fun v ρ => some (ρ.set i (some v))
def bNil : List VV → VSt → Option VSt := fun vs ρ => match vs with
  | [] => some ρ
  | _ => none
def bCons (a : VV → VSt → Option VSt) (r : List VV → VSt → Option VSt) : List VV → VSt → Option VSt := fun vs ρ => match vs with
  | v :: vs => (a v ρ).bind fun ρ' => r vs ρ'
  | [] => none
def bTup (n : Nat) (r : List VV → VSt → Option VSt) : VV → VSt → Option VSt := fun v ρ => match v with
  | .tup xs => if xs.length = n then r xs ρ else none
  | _ => none
theorem RS.set {c : Ct} {g : Gh} {H : Hp} {ρ : VSt} {σ : St} {v : VV} {u : V} (rs : RS c g H ρ σ) (rv : RT c g H v u) (i : Nat) : RS c g H (ρ.set i (some v)) (σ.set i (some u)) := by
  refine ⟨by rw [List.length_set, List.length_set]; exact rs.len, fun j w e => ?_⟩
  by_cases ij : i = j
  · subst ij
    have hl : i < ρ.length := by have := (List.getElem?_eq_some_iff.mp e).1; simpa using this
    rw [List.getElem?_set_self hl] at e
    cases e
    exact ⟨u, List.getElem?_set_self (by rw [← rs.len]; exact hl), rv⟩
  · rw [List.getElem?_set_ne ij] at e
    rw [List.getElem?_set_ne ij]
    exact rs.get j w e
theorem pat_nm {K : PySem.W.Frag} (i : Nat) : PatOk K (gName i) (bNm i) [i] := ⟨fun c g h H ρ σ v u ρ' ek rh rs rv e Q k => by
  cases e
  refine k _ (rs.set rv i) (fun j hj => ?_) (by rw [List.length_set])
  exact List.getElem?_set_ne (fun z => hj (by rw [z]; exact List.mem_cons_self))⟩
theorem pats_nil {K : PySem.W.Frag} : PatsOk K gNil bNil [] := ⟨fun c g h H ρ σ v u ρ' ek rh rs rv e Q k => by
  cases v with
  | nil => cases e; exact ⟨rv, k _ rs (fun _ _ => rfl) rfl⟩
  | cons => cases e⟩
theorem pats_cons {K : PySem.W.Frag} {t : TG} {u : TGs} {a r l1 l2} (h1 : PatOk K t a l1) (h2 : PatsOk K u r l2) : PatsOk K (gCons t u) (bCons a r) (l1 ++ l2) := ⟨fun c g h H ρ σ v u ρ' ek rh rs rv e Q k => by
  cases v with
  | nil => cases e
  | cons x xs =>
    obtain ⟨y, ys, rfl, ra, rb⟩ := rv
    unfold bCons at e
    obtain ⟨ρ1, e1, e2⟩ := Option.bind_eq_some_iff.mp e
    refine ⟨y, ys, rfl, h1.run c g h H ρ σ x y ρ1 ek rh rs ra e1 _ fun σ1 rs1 o1 len1 => ?_⟩
    refine h2.run c g h H ρ1 σ1 xs ys ρ' ek rh rs1 rb e2 _ fun σ2 rs2 o2 len2 => ?_
    exact k σ2 rs2 (fun i hi => (o2 i (fun z => hi (List.mem_append_right _ z))).trans (o1 i (fun z => hi (List.mem_append_left _ z)))) (len2.trans len1)⟩
theorem pat_tup {K : PySem.W.Frag} {n : Nat} {u : TGs} {r l} (h : PatsOk K u r l) : PatOk K (gTup K n u) (bTup n r) l := ⟨fun c g hh H ρ σ v uu ρ' ek rh rs rv e Q k => by
  cases v with
  | tup xs =>
    unfold bTup at e
    have rv' := rv.rv rfl
    rw [RV] at rv'
    obtain ⟨p, us, eu, sq, rr⟩ := rv'
    simp only at e
    by_cases hn : xs.length = n
    · rw [if_pos hn] at e
      have sq' := sq.sq
      rw [ek] at sq'
      exact ⟨p, us, eu, sq', by rw [← rr.len]; exact hn, h.run c g hh H ρ σ xs us ρ' ek rh rs (RTs.of_rvs rr) e Q k⟩
    · rw [if_neg hn] at e; cases e
  | _ => cases e⟩
/-! comprehensions -/
def wp (ρ : VSt) : List Nat → VSt
  | [] => ρ
  | v :: vs => (wp ρ vs).set v none
theorem wp_length (ρ : VSt) : ∀ vs : List Nat, (wp ρ vs).length = ρ.length
  | [] => rfl
  | v :: vs => by unfold wp; rw [List.length_set, wp_length ρ vs]
theorem wp_some {ρ : VSt} {i : Nat} {x : VV} : ∀ {vs : List Nat}, (wp ρ vs)[i]? = some (some x) → ρ[i]? = some (some x) ∧ i ∉ vs
  | [], h => ⟨h, by simp⟩
  | v :: vs, h => by
    unfold wp at h
    by_cases hi : v = i
    · subst hi
      by_cases hv : v < (wp ρ vs).length
      · rw [List.getElem?_set_self hv] at h; cases h
      · rw [List.getElem?_eq_none (by simpa using hv)] at h; cases h
    · rw [List.getElem?_set_ne hi] at h
      obtain ⟨h1, h2⟩ := wp_some h
      exact ⟨h1, by simp only [List.mem_cons, not_or]; exact ⟨fun e => hi e.symm, h2⟩⟩
theorem RS.wipe {c : Ct} {g : Gh} {H : Hp} {ρ : VSt} {σ : St} (rs : RS c g H ρ σ) (vs : List Nat) : RS c g H (wp ρ vs) (wipe σ vs) := by
  refine ⟨by rw [wp_length, wipe_length]; exact rs.len, fun i v e => ?_⟩
  obtain ⟨a, b⟩ := wp_some e
  rw [wipe_out b]
  exact rs.get i v a
theorem wipe_at (σ : St) : ∀ (vs : List Nat) (i : Nat), i ∈ vs → (wipe σ vs)[i]? = if i < σ.length then some none else none
  | [], i, h => by simp at h
  | v :: vs, i, h => by
    unfold wipe
    by_cases e : v = i
    · subst e
      by_cases hl : v < σ.length
      · rw [List.getElem?_set_self (by rw [wipe_length]; exact hl), if_pos hl]
      · rw [List.getElem?_eq_none (by rw [List.length_set, wipe_length]; omega), if_neg hl]
    · rw [List.getElem?_set_ne e]
      exact wipe_at σ vs i (by rcases List.mem_cons.mp h with h | h; exact absurd h.symm e; exact h)
theorem wipe_same {σ σ2 : St} {vs : List Nat} (hl : σ2.length = σ.length) (h : ∀ i, i ∉ vs → σ2[i]? = σ[i]?) : wipe σ2 vs = wipe σ vs := by
  apply List.ext_getElem?
  intro i
  by_cases hi : i ∈ vs
  · rw [wipe_at σ2 vs i hi, wipe_at σ vs i hi, hl]
  · rw [wipe_out hi, wipe_out hi, h i hi]
def lcGo (b : VV → VSt → Option VSt) (t : TF) (e : EF) (ρ : VSt) : List VV → VH → Res (List VV)
  | [], h => .ok [] h
  | x :: xs, h => match b x ρ with
    | none => .no
    | some ρ' => (t ρ' h).bind fun k h1 => if k = true then (e ρ' h1).bind fun v h2 => if v.isObj = true then .no else (lcGo b t e ρ xs h2).bind fun vs h3 => .ok (v :: vs) h3 else lcGo b t e ρ xs h1
/-- [e for .. in .. if ..] as data -/
def eLc (own : List Nat) (it : AF) (b : VV → VSt → Option VSt) (t : TF) (e : EF) : EF := fun ρ h => (it ρ h).bind fun xs h1 => if xs.length > SZ then .no else match lcGo b t e (wp ρ own) xs h1 with
  | .ok vs h2 => .ok (.lst vs) h2
  | _ => .no
def tTrue : TF := fun _ h => .ok true h
theorem Stp.back {g g' : Gh} {H H' : Hp} {D : Addr} (s : Stp (g.keep D) H g' H') : Stp g H (g'.back g.kp) H' := ⟨s.io, s.fz, fun _ h => h, s.fH, fun p h => s.kH p (.inl h), s.tp⟩
theorem RVs.gback {c : Ct} {g : Gh} {H : Hp} {k : Addr → Prop} {vs : List VV} {us : List V} (h : RVs c g.fz H vs us) : RVs c (g.back k).fz H vs us := h
/-- the loop of a comprehension, whatever is made of the new list -/
theorem lc_run {c : Ct} {W0 : WX} {Wx : WX} {own : List Nat} {b : VV → VSt → Option VSt} {ft : TF} {fe : EF} {tg : TG} {J : It} {xs : List VV} {ρ : VSt} {σ : St} {g : Gh} {h : VH} {H1 : Hp} {D : Addr} {Q : VK} {K : PySem.W.Frag}
    (hW : ∀ a d s h, W0 a d s h → False) (ek : c.K = K) (pat : PatOk K tg b own) (dl : Deliv c g H1 xs J) (hsz : xs.length ≤ SZ) (rh : RH c g h H1) (rs : RS c g H1 ρ σ) (hD : H1 D = none)
    (fin : match lcGo b ft fe (wp ρ own) xs h with
      | .ok vs h' => ∀ g' H' us, Stp g H1 g' H' → RH c g' h' H' → H' D = some (.lst us) → ¬ g'.fz D → D ∉ g'.io → ¬ g'.kp D → RVs c g'.fz H' vs us → Q (.ref D) H'
      | _ => False) :
    ∃ Wv : Nat → Nat → Hp → Prop, (∃ m, Wv 0 m (upd H1 D (.lst []))) ∧ ∀ i m H, Wv i m H →
      (J.stop i H ∧ Q (.ref D) H) ∨ (J.go i H ∧ ∃ Nx : Hp → Prop, (∀ H', Nx H' → ∃ m', m' < m ∧ Wv (i + 1) m' H') ∧ ∀ x H', J.yld i H x H' → tg x (wipe σ own) H' fun σ2 H2 => wipe σ2 own = wipe σ own ∧ tT c W0 ft σ2 H2 fun bb H3 =>
        if bb = true then tE c W0 fe σ2 H3 fun y H4 => ∃ acc, H4 D = some (.lst acc) ∧ acc.length < sizeLine ∧ Nx (upd H4 D (.lst (acc ++ [y]))) else Nx H3) := by
  -- the invariant
  let P : Nat → Hp → Prop := fun i H => ∃ (gi : Gh) (hi : VH) (acc : List VV) (us : List V), acc.length ≤ i ∧ Stp g H1 gi H ∧ RH c gi hi H ∧ H D = some (.lst us) ∧ ¬ gi.fz D ∧ D ∉ gi.io ∧ ¬ gi.kp D ∧ RVs c gi.fz H acc us ∧
    (match lcGo b ft fe (wp ρ own) (xs.drop i) hi with
      | .ok vs h' => ∀ g' H' us, Stp gi H g' H' → RH c g' h' H' → H' D = some (.lst us) → ¬ g'.fz D → D ∉ g'.io → ¬ g'.kp D → RVs c g'.fz H' (acc ++ vs) us → Q (.ref D) H'
      | _ => False)
  refine ⟨fun i m H => m = xs.length - i ∧ i ≤ xs.length ∧ P i H, ⟨xs.length, by simp, Nat.zero_le _, ?_⟩, ?_⟩
  · refine ⟨g, h, [], [], Nat.le_refl _, .junk rh hD, rh.junk hD, upd_same, fun z => ?_, fun z => ?_, fun z => ?_, RVs.nil, ?_⟩
    · obtain ⟨o, e⟩ := rh.fz D z; rw [hD] at e; cases e
    · obtain ⟨o, e⟩ := rh.root z; rw [hD] at e; cases e
    · obtain ⟨o, e⟩ := rh.kp D z; rw [hD] at e; cases e
    · rw [List.drop_zero]
      generalize lcGo b ft fe (wp ρ own) xs h = r at fin ⊢
      cases r with
      | ok vs h' =>
        intro g' H' us st
        rw [List.nil_append]
        exact fin g' H' us ((Stp.junk rh hD).trans st)
      | no => exact fin
      | exc _ _ _ _ => exact fin
  · rintro i m H ⟨rfl, hi, gi, hh, acc, us, hacc, st, rhi, hDl, nf, ni, nk, rvs, fin⟩
    by_cases hlt : i < xs.length
    · refine .inr ⟨dl.go gi H st.f i hlt, P (i + 1), fun H' p' => ⟨xs.length - (i + 1), by omega, rfl, hlt, p'⟩, fun x H' y => ?_⟩
      have ed : xs.drop i = xs[i] :: xs.drop (i + 1) := List.drop_eq_getElem_cons hlt
      have rhk : RH c (gi.keep D) hh H := rhi.keep hDl nf ni
      have stk : Stp g H1 (gi.keep D) H := st.trans .keep
      obtain ⟨g1, st1, rh1, rt1⟩ := dl.yld (gi.keep D) H stk.f i xs[i] hh (List.getElem?_eq_getElem hlt) rhk x H' y
      rw [ed] at fin
      unfold lcGo at fin
      cases e : b xs[i] (wp ρ own) with
      | none => rw [e] at fin; exact fin.elim
      | some ρ' =>
        rw [e] at fin
        simp only at fin
        have rs1 : RS c g1 H' (wp ρ own) (wipe σ own) := ((rs.wipe own).stp stk).stp st1
        refine pat.run c g1 hh H' _ _ _ _ ρ' ek rh1 rs1 rt1 e _ fun σ2 rs2 o2 l2 => ⟨?_, ?_⟩
        · refine wipe_same (l2.trans (wipe_length _ _)) fun j hj => (o2 j hj).trans (wipe_out hj)
        · refine ⟨g1, ρ', hh, rh1, rs2, ?_⟩
          cases et : ft ρ' hh with
          | no => rw [et] at fin; exact fin.elim
          | exc _ _ _ _ => rw [et] at fin; exact fin.elim
          | ok k h1 =>
            rw [et] at fin
            intro g2 H2 bb st2 rh2 eb
            cases (show bb = k from eb)
            -- D is kept
            have hD2 : H2 D = some (.lst us) := by rw [st2.kH D (st1.kp D (.inr rfl)), st1.kH D (.inr rfl)]; exact hDl
            have kD2 : g2.kp D := st2.kp D (st1.kp D (.inr rfl))
            have s12 : Stp (gi.keep D) H g2 H2 := st1.trans st2
            cases k with
            | false =>
              rw [if_neg Bool.false_ne_true]
              have fin' : match lcGo b ft fe (wp ρ own) (xs.drop (i + 1)) h1 with
                | .ok vs h' => ∀ g' H' us, Stp gi H g' H' → RH c g' h' H' → H' D = some (.lst us) → ¬ g'.fz D → D ∉ g'.io → ¬ g'.kp D → RVs c g'.fz H' (acc ++ vs) us → Q (.ref D) H'
                | _ => False := by
                simp only [Res.bind, if_neg Bool.false_ne_true] at fin; exact fin
              refine ⟨g2.back gi.kp, h1, acc, us, Nat.le_succ_of_le hacc, st.trans s12.back, rh2.back (fun p z => s12.kp p (.inl z)), hD2, (rh2.kd D kD2).1, (rh2.kd D kD2).2, nk, RVs.gback (s12.rvs (show RVs c (gi.keep D).fz H acc us from rvs)), ?_⟩
              generalize lcGo b ft fe (wp ρ own) (xs.drop (i + 1)) h1 = r at fin' ⊢
              cases r with
              | ok vs h' => exact fun g' H' us' st' => fin' g' H' us' (s12.back.trans st')
              | no => exact fin'
              | exc _ _ _ _ => exact fin'
            | true =>
              rw [if_pos rfl]
              refine ⟨g2, ρ', h1, rh2, rs2.stp st2, ?_⟩
              simp only [Res.bind, if_pos rfl] at fin
              cases ee : fe ρ' h1 with
              | no => rw [ee] at fin; exact fin.elim
              | exc _ _ _ _ => rw [ee] at fin; exact fin.elim
              | ok v h2 =>
                rw [ee] at fin
                simp only at fin
                intro g3 H3 yv st3 rh3 rv3
                have s13 : Stp (gi.keep D) H g3 H3 := s12.trans st3
                have kD3 : g3.kp D := st3.kp D kD2
                have hD3 : H3 D = some (.lst us) := by rw [st3.kH D kD2]; exact hD2
                have rvs3 : RVs c g3.fz H3 acc us := s13.rvs (show RVs c (gi.keep D).fz H acc us from rvs)
                have nf3 := (rh3.kd D kD3).1
                have ni3 := (rh3.kd D kD3).2
                refine ⟨us, hD3, by rw [← rvs.len]; exact SZ_lt (by omega), ?_⟩
                cases ov : v.isObj with
                | true => rw [ov] at fin; simp at fin
                | false =>
                  simp only [ov, if_neg Bool.false_ne_true] at fin
                  -- write D
                  have sw : Stp (g3.back gi.kp) H3 (g3.back gi.kp) (upd H3 D (.lst (us ++ [yv]))) := Stp.wr (c := c) (g := g3.back gi.kp) nf3 nk (fun ys z => by rw [hD3] at z; cases z)
                  have rhb : RH c (g3.back gi.kp) h2 H3 := rh3.back (fun p z => s13.kp p (.inl z))
                  have rhw : RH c (g3.back gi.kp) h2 (upd H3 D (.lst (us ++ [yv]))) := by
                    refine ⟨rhb.len, rhb.nd, fun n o a q1 q2 => ?_, fun q z => ?_, fun q z => ?_, rhb.kd, rhb.tb.upd (by rw [hD3]; exact noTab_of (fun _ z => by cases z) (fun _ z => by cases z)), fun q z ps y => rhb.nt q z ps (by rw [upd_ne (show q ≠ D from fun e => z.elim (fun z => nf3 (e ▸ z)) (fun z => nk (e ▸ z)))] at y; exact y)⟩
                    · have na : a ≠ D := fun z => ni3 (z ▸ List.mem_of_getElem? q2)
                      exact RO.stp sw (fun h => h) (upd_ne na) (rhb.at' n o a q1 q2)
                    · rw [upd_ne (show q ≠ D from fun e => nf3 (e ▸ z))]; exact rhb.fz q z
                    · rw [upd_ne (show q ≠ D from fun e => nk (e ▸ z))]; exact rhb.kp q z
                  refine ⟨g3.back gi.kp, h2, acc ++ [v], us ++ [yv], by rw [List.length_append]; simp; omega, (st.trans s13.back).trans sw, rhw, upd_same, nf3, ni3, nk, ?_, ?_⟩
                  · exact sw.rvs (RVs.app (RVs.gback rvs3) (RVs.one (rv3.rv ov)))
                  · generalize lcGo b ft fe (wp ρ own) (xs.drop (i + 1)) h2 = r at fin ⊢
                    cases r with
                    | ok vs h' =>
                      intro g' H' us' st' rh' d1 d2 d3 d4 rv'
                      rw [List.append_assoc] at rv'
                      exact fin g' H' us' ((s13.back.trans sw).trans st') rh' d1 d2 d3 d4 rv'
                    | no => exact fin
                    | exc _ _ _ _ => exact fin
    · have e : i = xs.length := by omega
      subst e
      refine .inl ⟨dl.stop gi H st.f _ (Nat.le_refl _), ?_⟩
      rw [List.drop_length] at fin
      unfold lcGo at fin
      refine fin gi H us .refl rhi hDl nf ni nk ?_
      rw [List.append_nil]; exact rvs
section
variable {X : Cx} {W : WX}
abbrev W0 : WX := fun _ _ _ _ => False
theorem jts_nil : PTs X [] (tT (ct X) W tTrue) := ⟨fun pins s σ H Q I h => by
  obtain ⟨g, ρ, h0, rh, rs, p⟩ := h
  exact pts_nil.run pins s σ H Q I (show tYes σ H Q from p g H true .refl rh rfl)⟩
theorem jts_one {c : Expr} {f : TF} (h : PT X c (tT (ct X) W f)) : PTs X [c] (tT (ct X) W f) := pts_one h
theorem tLc_of {own : List Nat} {it : AF} {b : VV → VSt → Option VSt} {ft : TF} {fe : EF} {tg : TG} {mk : List VV → VH → Res VV} (pat : PatOk X.K tg b own)
    (hmk : ∀ (g : Gh) (h : VH) (H : Hp) (D : Addr) (vs : List VV) (us : List V) (σ : St) (Q : VK), RH (ct X) g h H → H D = some (.lst us) → ¬ g.fz D → D ∉ g.io → ¬ g.kp D → RVs (ct X) g.fz H vs us → Pst (ct X) W σ (RT (ct X)) g H Q (mk vs h) → Q (.ref D) H)
    {σ : St} {H : Hp} {Q : VK} (h : tE (ct X) W (fun ρ h => (it ρ h).bind fun xs h1 => if xs.length > SZ then .no else (match lcGo b ft fe (wp ρ own) xs h1 with
      | .ok vs h2 => mk vs h2
      | _ => .no)) σ H Q) :
    tLc (tI (ct X) W it) tg (tT (ct X) W0 ft) (tE (ct X) W0 fe) own σ H Q := by
  obtain ⟨g, ρ, h0, rh, rs, p⟩ := tG.bind (R := fun g H xs J => Deliv (ct X) g H xs J) (f := it) (k := fun (xs : List VV) ρ h1 => if xs.length > SZ then .no else (match lcGo b ft fe (wp ρ own) xs h1 with
      | .ok vs h2 => mk vs h2
      | _ => .no)) h
  refine ⟨g, ρ, h0, rh, rs, p.imp fun J H1 ⟨g1, ρ1, xs, h1, rh1, rs1, dl, p1⟩ D hD => ?_⟩
  by_cases hz : xs.length > SZ
  · rw [if_pos hz] at p1; exact p1.elim
  · rw [if_neg hz] at p1
    refine lc_run (Wx := W) (fun _ _ _ _ z => z) rfl pat dl (by omega) rh1 rs1 hD ?_
    generalize lcGo b ft fe (wp ρ1 own) xs h1 = r at p1 ⊢
    cases r with
    | ok vs h' => exact fun g' H' us st rh' d1 d2 d3 d4 rv' => hmk g' h' H' D vs us σ Q rh' d1 d2 d3 d4 rv' (Pst.step st p1)
    | no => exact p1
    | exc _ _ _ _ => exact p1
theorem mk_lst (g : Gh) (h : VH) (H : Hp) (D : Addr) (vs : List VV) (us : List V) (σ : St) (Q : VK) (rh : RH (ct X) g h H) (e : H D = some (.lst us)) (nf : ¬ g.fz D) (ni : D ∉ g.io) (nk : ¬ g.kp D) (rv : RVs (ct X) g.fz H vs us)
    (p : Pst (ct X) W σ (RT (ct X)) g H Q (.ok (.lst vs) h)) : Q (.ref D) H := by
  have st : Stp g H (g.frz D) H := .kill
  refine p (g.frz D) H (.ref D) st ⟨rh.len, rh.nd, fun n o a h1 h2 => ?_, fun q z => ?_, rh.kp, fun q z => ⟨fun y => y.elim (rh.kd q z).1 (fun e => nk (e ▸ z)), (rh.kd q z).2⟩, rh.tb, fun q z ps y => z.elim (fun z => z.elim (fun z => rh.nt q (.inl z) ps y) (fun z => by rw [z, e] at y; cases y)) (fun z => rh.nt q (.inr z) ps y)⟩ ?_
  · exact RO.stp st (fun x z => z.elim x (fun e => ni (e ▸ List.mem_of_getElem? h2))) rfl (rh.at' n o a h1 h2)
  · rcases z with z | z
    · exact rh.fz q z
    · rw [z]; exact ⟨_, e⟩
  · show RV _ _ _ _ _
    rw [RV]
    exact ⟨D, us, rfl, .inr rfl, e, st.rvs rv⟩
theorem j_lc {elt tg iter : Expr} {ifs : List Expr} {scope : Scope} {own : List (Str × Nat)} {pos : Pos} {it : AF} {g : TG} {b : VV → VSt → Option VSt} {ft : TF} {fe : EF} (hc : X.calm = true) (hN : X.N.Nodup) (hi : PI X tg iter (tI (ct X) W it)) (ok : BlkOk X.N X.env.scope scope own)
    (hg : ∀ (s : Shared) (H : Hp) (C : Addr) (cl : List (Str × Addr)) (fp : List Addr), PG (X.blk s H scope (compEnvC scope cl C X.env) fp) tg g) (pat : PatOk X.K g b (own.map (·.2)))
    (ht : ∀ (s : Shared) (H : Hp) (C : Addr) (cl : List (Str × Addr)) (fp : List Addr), PTs (X.blk s H scope (compEnvC scope cl C X.env) fp) ifs (tT (ct X) W0 ft))
    (he : ∀ (s : Shared) (H : Hp) (C : Addr) (cl : List (Str × Addr)) (fp : List Addr), PE (X.blk s H scope (compEnvC scope cl C X.env) fp) elt (tE (ct X) W0 fe)) (hs : ∀ x, foldedSetIterable iter X.env x = pure x := by intro _; rfl) :
    PE X (.ListComp elt [⟨tg, iter, ifs, 0⟩] scope pos) (tE (ct X) W (eLc (own.map (·.2)) it b ft fe)) :=
  PE.mono (pe_lc hc hN hi ok hg ht he hs) fun σ H Q h => by
    exact tLc_of (mk := fun vs h => .ok (.lst vs) h) pat mk_lst h
/-! statements -/
inductive SR where
  | no
  | nx (ρ : VSt) (h : VH)
  | ret (v : VV) (h : VH)
  | brk (ρ : VSt) (h : VH)
  | cnt (ρ : VSt) (h : VH)
  | exc (x : Str) (ns : List Str) (vs : List VV) (ρ : VSt) (h : VH)
abbrev SF := VSt → VH → SR
def PS1 (c : Ct) (W : WX) (g : Gh) (H : Hp) (D : Ends) : SR → Prop
  | .no => False
  | .nx ρ h => ∀ g' H' σ', Stp g H g' H' → RH c g' h H' → RS c g' H' ρ σ' → D.nx σ' H'
  | .ret v h => ∀ g' H' u, Stp g H g' H' → RH c g' h H' → RT c g' H' v u → D.rt u H'
  | .brk ρ h => ∀ g' H' σ', Stp g H g' H' → RH c g' h H' → RS c g' H' ρ σ' → D.bk σ' H'
  | .cnt ρ h => ∀ g' H' σ', Stp g H g' H' → RH c g' h H' → RS c g' H' ρ σ' → D.ct σ' H'
  | .exc x ns vs ρ h => ∀ g' H' σ' C d us, Stp g H g' H' → RH c g' h H' → RS c g' H' ρ σ' → c.mg x = some (.ref C) → (H' d = some (.xd (ns.zip us)) ∧ ¬ g'.fz d ∧ d ∉ g'.io) → ns.length = us.length → RVs c g'.fz H' vs us → W (.ref C) (some d) σ' H'
theorem PS1.step {c : Ct} {W : WX} {g g1 : Gh} {H H1 : Hp} {D : Ends} {r : SR} (s : Stp g H g1 H1) (h : PS1 c W g H D r) : PS1 c W g1 H1 D r := by
  cases r with
  | no => exact h
  | nx => exact fun g' H' σ' st => h g' H' σ' (s.trans st)
  | ret => exact fun g' H' σ' st => h g' H' σ' (s.trans st)
  | brk => exact fun g' H' σ' st => h g' H' σ' (s.trans st)
  | cnt => exact fun g' H' σ' st => h g' H' σ' (s.trans st)
  | exc => exact fun g' H' σ' C d us st => h g' H' σ' C d us (s.trans st)
def tS (c : Ct) (W : WX) (F : SF) : TS := fun D σ H => ∃ g ρ h, RH c g h H ∧ RS c g H ρ σ ∧ PS1 c W g H D (F ρ h)
/-- from an expression's result to a statement's -/
def Res.st {α : Type} (r : Res α) (ρ : VSt) (k : α → VH → SR) : SR := match r with
  | .no => .no
  | .ok a h => k a h
  | .exc x ns vs h => .exc x ns vs ρ h
theorem Pst.st {α β : Type} {R : Gh → Hp → α → β → Prop} {c : Ct} {W : WX} {σ : St} {g : Gh} {H : Hp} {D : Ends} {r : Res α} {ρ : VSt} {k : α → VH → SR} (rs : RS c g H ρ σ) (h : PS1 c W g H D (r.st ρ k)) :
    Pst c W σ R g H (fun u H1 => ∃ g1 v h1, Stp g H g1 H1 ∧ RH c g1 h1 H1 ∧ RS c g1 H1 ρ σ ∧ R g1 H1 v u ∧ PS1 c W g1 H1 D (k v h1)) r := by
  cases r with
  | no => exact h
  | ok v h' => exact fun g' H' u st rh rv => ⟨g', v, h', st, rh, rs.stp st, rv, PS1.step st h⟩
  | exc x ns vs h' => exact fun g' H' C d us st rh m e l rv => h g' H' σ C d us st rh (rs.stp st) m e l rv
def sSkip : SF := fun ρ h => .nx ρ h
def sSeq (a b : SF) : SF := fun ρ h => match a ρ h with
  | .nx ρ' h' => b ρ' h'
  | r => r
def sAsg (e : EF) (b : VV → VSt → Option VSt) : SF := fun ρ h => (e ρ h).st ρ fun v h1 => match b v ρ with
  | some ρ' => .nx ρ' h1
  | none => .no
def sSet (i : Nat) (e : EF) : SF := fun ρ h => (e ρ h).st ρ fun v h1 => .nx (ρ.set i (some v)) h1
def sIf (c : TF) (a b : SF) : SF := fun ρ h => (c ρ h).st ρ fun k h1 => if k = true then a ρ h1 else b ρ h1
def sRet (e : EF) : SF := fun ρ h => (e ρ h).st ρ fun v h1 => .ret v h1
def sExpr (e : EF) : SF := fun ρ h => (e ρ h).st ρ fun v h1 => .nx ρ h1
def forGo (b : VV → VSt → Option VSt) (body : SF) : List VV → VSt → VH → SR
  | [], ρ, h => .nx ρ h
  | x :: xs, ρ, h => match b x ρ with
    | none => .no
    | some ρ' => match body ρ' h with
      | .nx ρ2 h2 => forGo b body xs ρ2 h2
      | .cnt ρ2 h2 => forGo b body xs ρ2 h2
      | .brk ρ2 h2 => .nx ρ2 h2
      | r => r
def sFor (it : AF) (b : VV → VSt → Option VSt) (body : SF) : SF := fun ρ h => (it ρ h).st ρ fun xs h1 => forGo b body xs ρ h1
theorem js_nil : PSs X [] (tS (ct X) W sSkip) := PSs.mono pss_nil fun D σ H ⟨g, ρ, h, rh, rs, p⟩ => p g H σ .refl rh rs
theorem js_cons {st : Stmt} {rest : List Stmt} {fa fb : SF} (h1 : PS X st (tS (ct X) W fa)) (h2 : PSs X rest (tS (ct X) W fb)) : PSs X (st :: rest) (tS (ct X) W (sSeq fa fb)) :=
  PSs.mono (pss_cons h1 h2) fun D σ H ⟨g, ρ, h, rh, rs, p⟩ => by
    refine ⟨g, ρ, h, rh, rs, ?_⟩
    unfold sSeq at p
    cases e : fa ρ h with
    | nx ρ' h' =>
      rw [e] at p
      exact fun g' H' σ' st rh' rs' => ⟨g', ρ', h', rh', rs', PS1.step st p⟩
    | no => rw [e] at p; exact p
    | ret => rw [e] at p; exact p
    | brk => rw [e] at p; exact p
    | cnt => rw [e] at p; exact p
    | exc => rw [e] at p; exact p
theorem js_one {st : Stmt} {fa : SF} (h1 : PS X st (tS (ct X) W fa)) : PSs X [st] (tS (ct X) W fa) := pss_one h1
theorem js_set {i : Nat} {x : Str} {e : Expr} {f : EF} {pos pos' : Pos} (hN : X.N.Nodup) (hi : X.N[i]? = some x) (hx : Loc X.env.scope x) (he : PE X e (tE (ct X) W f)) (hs : swapsWith e (some (.Name x pos')) pos.line X.env = pure false := by rfl)
    (hf : X.fn x = true ∨ X.env.scope.names.lookup x = some .local := by first | exact .inl rfl | exact .inr rfl | assumption) :
    PS X (.Assign [.Name x pos'] e pos) (tS (ct X) W (sSet i f)) :=
  PS.mono (ps_set (i := i) hN hi hx he hs hf) fun D σ H ⟨g, ρ, h, rh, rs, p⟩ => by
    refine ⟨g, ρ, h, rh, rs, (Pst.st (R := RT (ct X)) rs p).imp fun u H1 ⟨g1, v, h1, st, rh1, rs1, rv1, p1⟩ => ?_⟩
    exact p1 g1 H1 _ .refl rh1 (rs1.set rv1 i)
theorem js_if {c : Expr} {a b : List Stmt} {fc : TF} {fa fb : SF} {pos : Pos} (hc : PT X c (tT (ct X) W fc)) (ha : PSs X a (tS (ct X) W fa)) (hb : PSs X b (tS (ct X) W fb)) : PS X (.If c a b pos) (tS (ct X) W (sIf fc fa fb)) :=
  PS.mono (ps_if hc ha hb) fun D σ H ⟨g, ρ, h, rh, rs, p⟩ => by
    refine ⟨g, ρ, h, rh, rs, (Pst.st (R := RB) rs p).imp fun u H1 ⟨g1, v, h1, st, rh1, rs1, rv1, p1⟩ => ?_⟩
    cases rv1
    cases u with
    | true => rw [if_pos rfl] at p1 ⊢; exact ⟨g1, ρ, h1, rh1, rs1, p1⟩
    | false => rw [if_neg Bool.false_ne_true] at p1 ⊢; exact ⟨g1, ρ, h1, rh1, rs1, p1⟩
theorem js_ret {e : Expr} {f : EF} {pos : Pos} (he : PE X e (tE (ct X) W f)) : PS X (.Return (some e) pos) (tS (ct X) W (sRet f)) :=
  PS.mono (ps_ret he) fun D σ H ⟨g, ρ, h, rh, rs, p⟩ => by
    refine ⟨g, ρ, h, rh, rs, (Pst.st (R := RT (ct X)) rs p).imp fun u H1 ⟨g1, v, h1, st, rh1, rs1, rv1, p1⟩ => ?_⟩
    exact p1 g1 H1 u .refl rh1 rv1
theorem js_expr {e : Expr} {f : EF} {pos : Pos} (he : PE X e (tE (ct X) W f)) (hs : swapsWith e none pos.line X.env = pure false := by rfl) : PS X (.Expr e pos) (tS (ct X) W (sExpr f)) :=
  PS.mono (ps_expr he hs) fun D σ H ⟨g, ρ, h, rh, rs, p⟩ => by
    refine ⟨g, ρ, h, rh, rs, (Pst.st (R := RT (ct X)) rs p).imp fun u H1 ⟨g1, v, h1, st, rh1, rs1, rv1, p1⟩ => ?_⟩
    exact p1 g1 H1 σ .refl rh1 rs1
theorem js_for {tg iter : Expr} {body : List Stmt} {it : AF} {g : TG} {b : VV → VSt → Option VSt} {own : List Nat} {fb : SF} {pos : Pos} (hp : PassesOwn (model X.prog X.w) X.A X.env X.xe) (hc : X.calm = true) (hi : PI X tg iter (tI (ct X) W it)) (hg : PG X tg g) (pat : PatOk X.K g b own) (hb : PSs X body (tS (ct X) W fb))
    (hs : ∀ x, foldedSetIterable iter X.env x = pure x := by intro _; rfl) : PS X (.For tg iter body [] pos) (tS (ct X) W (sFor it b fb)) :=
  PS.mono (ps_for hp hc hi hg hb hs) fun D σ H ⟨g, ρ, h, rh, rs, p⟩ => by
    refine ⟨g, ρ, h, rh, rs, (Pst.st (R := fun g H xs J => Deliv (ct X) g H xs J) rs p).imp fun J H1 ⟨g1, xs, h1, st, rh1, rs1, dl, p1⟩ => ?_⟩
    let P : Nat → St → Hp → Prop := fun i σ' H' => ∃ (gi : Gh) (ρi : VSt) (hi : VH), Stp g1 H1 gi H' ∧ RH (ct X) gi hi H' ∧ RS (ct X) gi H' ρi σ' ∧ PS1 (ct X) W gi H' D (forGo b fb (xs.drop i) ρi hi)
    refine ⟨fun i m σ' H' => m = xs.length - i ∧ i ≤ xs.length ∧ P i σ' H', ⟨xs.length, by simp, Nat.zero_le _, g1, ρ, h1, .refl, rh1, rs1, by rw [List.drop_zero]; exact p1⟩, ?_⟩
    rintro i m σ' H' ⟨rfl, hi, gi, ρi, hh, sti, rhi, rsi, pi⟩
    by_cases hlt : i < xs.length
    · have ed : xs.drop i = xs[i] :: xs.drop (i + 1) := List.drop_eq_getElem_cons hlt
      refine .inr ⟨dl.go gi H' sti.f i hlt, P (i + 1), fun σ2 H2 p2 => ⟨xs.length - (i + 1), by omega, rfl, hlt, p2⟩, fun x H2 y => ?_⟩
      obtain ⟨g2, st2, rh2, rt2⟩ := dl.yld gi H' sti.f i xs[i] hh (List.getElem?_eq_getElem hlt) rhi x H2 y
      rw [ed] at pi
      unfold forGo at pi
      cases e : b xs[i] ρi with
      | none => rw [e] at pi; exact pi.elim
      | some ρ' =>
        rw [e] at pi
        simp only at pi
        refine pat.run (ct X) g2 hh H2 ρi σ' xs[i] x ρ' rfl rh2 (rsi.stp st2) rt2 e _ fun σ3 rs3 _ _ => ⟨g2, ρ', hh, rh2, rs3, ?_⟩
        cases eb : fb ρ' hh with
        | no => rw [eb] at pi; exact pi
        | nx ρ2 h2 => rw [eb] at pi; exact fun g' H' σ' st rh' rs' => ⟨g', ρ2, h2, (sti.trans st2).trans st, rh', rs', PS1.step (st2.trans st) pi⟩
        | cnt ρ2 h2 => rw [eb] at pi; exact fun g' H' σ' st rh' rs' => ⟨g', ρ2, h2, (sti.trans st2).trans st, rh', rs', PS1.step (st2.trans st) pi⟩
        | brk ρ2 h2 => rw [eb] at pi; exact PS1.step (r := .nx ρ2 h2) st2 pi
        | ret v h2 => rw [eb] at pi; exact PS1.step (r := .ret v h2) st2 pi
        | exc x ns vs ρ2 h2 => rw [eb] at pi; exact PS1.step (r := .exc x ns vs ρ2 h2) st2 pi
    · have e : i = xs.length := by omega
      subst e
      rw [List.drop_length] at pi
      unfold forGo at pi
      exact .inl ⟨dl.stop gi H' sti.f _ (Nat.le_refl _), pi gi H' σ' .refl rhi rsi⟩
end
end J
namespace J
open PySem L2
open PyProof.Rows (envOfC)
/-! lists by value -/
def lstOf (h : VH) : VV → Option (List VV)
  | .lst xs => some xs
  | .scr xs => some xs
  | .obj n => match h[n]? with
    | some (.fl xs) => some xs
    | some (.fzn (.lst xs)) => some xs
    | _ => none
  | _ => none
/-- .. exact (not the script) -/
def lstOf' (h : VH) : VV → Option (List VV)
  | .lst xs => some xs
  | .obj n => match h[n]? with
    | some (.fl xs) => some xs
    | some (.fzn (.lst xs)) => some xs
    | _ => none
  | _ => none
theorem lstOf'_get {c : Ct} {g : Gh} {h : VH} {H : Hp} {v : VV} {u : V} {xs : List VV} (rh : RH c g h H) (rv : RT c g H v u) (e : lstOf' h v = some xs) : ∃ p us, u = .ref p ∧ H p = some (.lst us) ∧ RVs c g.fz H xs us := by
  cases v with
  | lst ys =>
    cases e
    have q := rv.rv rfl
    rw [RV] at q
    obtain ⟨p, us, a, b, d, r⟩ := q
    exact ⟨p, us, a, d, r⟩
  | obj n =>
    obtain ⟨a, ea, eu⟩ := rv
    unfold lstOf' at e
    simp only at e
    split at e
    · rename_i ys en
      cases e
      obtain ⟨_, us, d, r⟩ := rh.at' n _ a en ea
      exact ⟨a, us, eu, d, r⟩
    · rename_i ys en
      cases e
      obtain ⟨_, q⟩ := rh.at' n _ a en ea
      rw [RV] at q
      obtain ⟨p, us, z, b, d, r⟩ := q
      cases z
      exact ⟨a, us, eu, d, r⟩
    · cases e
  | _ => cases e
theorem lstOf_get {c : Ct} {g : Gh} {h : VH} {H : Hp} {v : VV} {u : V} {xs : List VV} (rh : RH c g h H) (rv : RT c g H v u) (e : lstOf h v = some xs) : ∃ p us, u = .ref p ∧ SqL c.K H p us ∧ RVs c g.fz H xs us := by
  cases v with
  | scr ys =>
    cases e
    have q := rv.rv rfl
    rw [RV] at q
    obtain ⟨p, us, a, d, r⟩ := q
    exact ⟨p, us, a, d.sq, r⟩
  | lst ys =>
    obtain ⟨p, us, a, b, r⟩ := lstOf'_get (xs := xs) rh rv e
    exact ⟨p, us, a, SqL.of b, r⟩
  | obj n =>
    obtain ⟨p, us, a, b, r⟩ := lstOf'_get (xs := xs) rh rv e
    exact ⟨p, us, a, SqL.of b, r⟩
  | _ => cases e
theorem tup_get {c : Ct} {g : Gh} {H : Hp} {u : V} {xs : List VV} (rv : RT c g H (.tup xs) u) : ∃ p us, u = .ref p ∧ TupAt c g.fz H p us ∧ RVs c g.fz H xs us := by
  have q := rv.rv rfl
  rw [RV] at q
  exact q
theorem int_get {c : Ct} {g : Gh} {H : Hp} {u : V} {i : Int} (rv : RT c g H (.int i) u) : u = .int i := by have q := rv.rv rfl; rw [RV] at q; exact q
theorem bl_get {c : Ct} {g : Gh} {H : Hp} {u : V} {i : Bool} (rv : RT c g H (.bl i) u) : u = .bl i := by have q := rv.rv rfl; rw [RV] at q; exact q
theorem str_get {c : Ct} {g : Gh} {H : Hp} {u : V} {i : Str} (rv : RT c g H (.str i) u) : u = .str i := by have q := rv.rv rfl; rw [RV] at q; exact q
theorem non_get {c : Ct} {g : Gh} {H : Hp} {u : V} (rv : RT c g H .non u) : u = .non := by have q := rv.rv rfl; rw [RV] at q; exact q
theorem ty_get {c : Ct} {g : Gh} {H : Hp} {u : V} {n : String} (rv : RT c g H (.ty n) u) : u = .ty n := by have q := rv.rv rfl; rw [RV] at q; exact q
def lstF : VV → Option (List VV)
  | .lst xs => some xs
  | .scr xs => some xs
  | _ => none
theorem lstF_get {c : Ct} {g : Gh} {H : Hp} {v : VV} {u : V} {xs : List VV} (rv : RT c g H v u) (e : lstF v = some xs) : ∃ p us, u = .ref p ∧ LstAt c g.fz H p us ∧ RVs c g.fz H xs us := by
  cases v with
  | scr ys =>
    cases e
    have q := rv.rv rfl
    rw [RV] at q
    exact q
  | lst ys =>
    cases e
    have q := rv.rv rfl
    rw [RV] at q
    obtain ⟨p, us, a, b, d, r⟩ := q
    exact ⟨p, us, a, .inl ⟨b, .inl d⟩, r⟩
  | _ => cases e
/-- .. whose items may be roots -/
def lstR (h : VH) : VV → Option (List VV)
  | .obj n => match h[n]? with
    | some (.lo xs) => some xs
    | _ => lstOf h (.obj n)
  | v => lstOf h v
theorem lstR_get {c : Ct} {g : Gh} {h : VH} {H : Hp} {v : VV} {u : V} {xs : List VV} (rh : RH c g h H) (rv : RT c g H v u) (e : lstR h v = some xs) : ∃ p us, u = .ref p ∧ SqL c.K H p us ∧ RTs c g H xs us := by
  have old : lstOf h v = some xs → ∃ p us, u = .ref p ∧ SqL c.K H p us ∧ RTs c g H xs us := fun e => by
    obtain ⟨p, us, a, b, r⟩ := lstOf_get rh rv e
    exact ⟨p, us, a, b, RTs.of_rvs r⟩
  cases v with
  | obj n =>
    unfold lstR at e
    simp only at e
    split at e
    · rename_i ys en
      cases e
      obtain ⟨a, ea, eu⟩ := rv
      obtain ⟨_, us, d, r⟩ := rh.at' n _ a en ea
      exact ⟨a, us, eu, SqL.of d, r⟩
    · exact old e
  | _ => exact old e
/-! iterables -/
theorem deliv_list {c : Ct} {g : Gh} {h : VH} {H : Hp} {p : Addr} {us : List V} {xs : List VV} (rd : LstAt c g.fz H p us) (rv : RVs c g.fz H xs us) : Deliv c g H xs (Itl c.K p) where
  go := fun g1 H1 st i hi => by
    obtain ⟨u, e, _⟩ := rv.get (List.getElem?_eq_getElem hi)
    exact ⟨us, u, (rd.stp st.fz st.fH).sq, e⟩
  stop := fun g1 H1 st i hi => ⟨us, (rd.stp st.fz st.fH).sq, by rw [← rv.len]; exact hi⟩
  yld := fun g1 H1 st i x h1 e rh u H' y => by
    obtain ⟨eH, hy⟩ := y
    subst eH
    obtain ⟨u', e', r⟩ := rv.get e
    have q := hy us ((rd.stp st.fz st.fH).sq)
    rw [e'] at q
    cases q
    exact ⟨g1, .refl, rh, RT.of_rv (st.rv r)⟩
theorem deliv_tup {c : Ct} {g : Gh} {h : VH} {H : Hp} {p : Addr} {us : List V} {xs : List VV} (rd : TupAt c g.fz H p us) (rv : RVs c g.fz H xs us) : Deliv c g H xs (Itt c.K p) where
  go := fun g1 H1 st i hi => by
    obtain ⟨u, e, _⟩ := rv.get (List.getElem?_eq_getElem hi)
    exact ⟨us, u, (TupAt.stp (z' := g.fz) st.tp rd).sq, e⟩
  stop := fun g1 H1 st i hi => ⟨us, (TupAt.stp (z' := g.fz) st.tp rd).sq, by rw [← rv.len]; exact hi⟩
  yld := fun g1 H1 st i x h1 e rh u H' y => by
    obtain ⟨eH, hy⟩ := y
    subst eH
    obtain ⟨u', e', r⟩ := rv.get e
    have q := hy us (TupAt.stp (z' := g.fz) st.tp rd).sq
    rw [e'] at q
    cases q
    exact ⟨g1, .refl, rh, RT.of_rv (st.rv r)⟩
def signs (s : Str) : List VV := s.cps.toList.map fun c => .str ⟨#[c]⟩
theorem deliv_str {c : Ct} {g : Gh} {H : Hp} {s : Str} : Deliv c g H (signs s) (Its s) where
  go := fun g1 H1 st i hi => by unfold signs at hi; simp at hi; exact hi
  stop := fun g1 H1 st i hi => by unfold signs at hi; simp at hi; exact hi
  yld := fun g1 H1 st i x h1 e rh u H' y => by
    obtain ⟨eH, k, hk, hu⟩ := y
    subst eH
    refine ⟨g1, .refl, rh, ?_⟩
    unfold signs at e
    rw [List.getElem?_map, Array.getElem?_toList, hk] at e
    cases e
    rw [hu]
    exact rt_str
def rngV (lo : Int) (n : Nat) : List VV := (List.range n).map fun (i : Nat) => .int (lo + (i : Int))
theorem deliv_rng {c : Ct} {g : Gh} {H : Hp} {lo : Int} {n : Nat} : Deliv c g H (rngV lo n) (Itr lo n) where
  go := fun g1 H1 st i hi => by unfold rngV at hi; simp at hi; exact hi
  stop := fun g1 H1 st i hi => by unfold rngV at hi; simp at hi; exact hi
  yld := fun g1 H1 st i x h1 e rh u H' y => by
    obtain ⟨eH, hu⟩ := y
    subst eH
    refine ⟨g1, .refl, rh, ?_⟩
    unfold rngV at e
    rw [List.getElem?_map] at e
    cases q : (List.range n)[i]? with
    | none => rw [q] at e; cases e
    | some j =>
      rw [q] at e
      cases e
      obtain ⟨hh, e2⟩ := List.getElem?_eq_some_iff.mp q
      rw [List.getElem_range] at e2
      subst e2
      rw [hu]
      exact rt_int
/-- items of a list, a tuple, a text -/
def iSeq (f : EF) : AF := fun ρ h => (f ρ h).bind fun v h1 => match v with
  | .lst xs => .ok xs h1
  | .scr xs => .ok xs h1
  | .tup xs => .ok xs h1
  | .str s => .ok (signs s) h1
  | _ => .no
def iRange1 (f : EF) : AF := fun ρ h => (f ρ h).bind fun v h1 => match v with
  | .int n => if -(2 ^ 62) ≤ n ∧ n < 2 ^ 62 then .ok (rngV 0 n.toNat) h1 else .no
  | _ => .no
def prs : List VV → List VV → List VV
  | x :: xs, y :: ys => .tup [x, y] :: prs xs ys
  | _, _ => []
def iZip (a : AF) : AF := fun ρ h => (a ρ h).bind fun v h1 => match v with
  | [.lst xs, .lst ys] => .ok (prs xs ys) h1
  | [.tup xs, .tup ys] => .ok (prs xs ys) h1
  | _ => .no
def enum : Nat → List VV → List VV
  | _, [] => []
  | n, x :: xs => .tup [.int n, x] :: enum (n + 1) xs
def iEnum (a : AF) : AF := fun ρ h => (a ρ h).bind fun v h1 => match v with
  | [.lst xs] => .ok (enum 0 xs) h1
  | [.scr xs] => .ok (enum 0 xs) h1
  | _ => .no
theorem prs_get : ∀ (xs ys : List VV) (i : Nat), (prs xs ys)[i]? = (match xs[i]?, ys[i]? with
    | some x, some y => some (.tup [x, y])
    | _, _ => none)
  | [], ys, i => by simp [prs]
  | x :: xs, [], i => by simp [prs]
  | x :: xs, y :: ys, 0 => by simp [prs]
  | x :: xs, y :: ys, i + 1 => by simp [prs, prs_get xs ys i]
theorem prs_len : ∀ (xs ys : List VV), (prs xs ys).length = min xs.length ys.length
  | [], ys => by simp [prs]
  | x :: xs, [] => by simp [prs]
  | x :: xs, y :: ys => by simp [prs, prs_len xs ys]
theorem enum_get : ∀ (n : Nat) (xs : List VV) (i : Nat), (enum n xs)[i]? = xs[i]?.map fun x => .tup [.int ((n + i : Nat) : Int), x]
  | n, [], i => by simp [enum]
  | n, x :: xs, 0 => by simp [enum]
  | n, x :: xs, i + 1 => by simp [enum, enum_get (n + 1) xs i]; congr 1; funext y; congr 3; omega
theorem enum_len : ∀ (n : Nat) (xs : List VV), (enum n xs).length = xs.length
  | _, [] => rfl
  | n, x :: xs => by simp [enum, enum_len (n + 1) xs]
theorem pair_new {c : Ct} {g : Gh} {h : VH} {H : Hp} {T : Addr} {xs : List VV} {us : List V} (rh : RH c g h H) (hT : H T = none) (rv : RVs c g.fz H xs us) :
    Stp g H (g.frz T) (upd H T (.tup us)) ∧ RH c (g.frz T) h (upd H T (.tup us)) ∧ RT c (g.frz T) (upd H T (.tup us)) (.tup xs) (.ref T) := by
  refine ⟨.new rh hT, rh.new hT, ?_⟩
  show RV _ _ _ _ _
  rw [RV]
  exact ⟨T, us, rfl, upd_same, (Stp.new rh hT).rvs rv⟩
theorem deliv_zip {c : Ct} {g : Gh} {H : Hp} {p q : Addr} {us ws : List V} {xs ys : List VV} (rd : LstAt c g.fz H p us) (rd' : LstAt c g.fz H q ws) (rv : RVs c g.fz H xs us) (rv' : RVs c g.fz H ys ws) : Deliv c g H (prs xs ys) (Itz c.K p q) where
  go := fun g1 H1 st i hi => by
    rw [prs_len] at hi
    obtain ⟨u, e, _⟩ := rv.get (List.getElem?_eq_getElem (show i < xs.length by omega))
    obtain ⟨w, e', _⟩ := rv'.get (List.getElem?_eq_getElem (show i < ys.length by omega))
    exact ⟨us, ws, u, w, (rd.stp st.fz st.fH).sq, (rd'.stp st.fz st.fH).sq, e, e'⟩
  stop := fun g1 H1 st i hi => by
    rw [prs_len, rv.len, rv'.len] at hi
    exact ⟨us, ws, (rd.stp st.fz st.fH).sq, (rd'.stp st.fz st.fH).sq, by omega⟩
  yld := fun g1 H1 st i x h1 e rh u H' y => by
    obtain ⟨T, a, b, eu, hT, eH, ha, hb⟩ := y
    subst eH eu
    rw [prs_get] at e
    cases ex : xs[i]? with
    | none => rw [ex] at e; cases e
    | some x1 =>
      cases ey : ys[i]? with
      | none => rw [ex, ey] at e; cases e
      | some y1 =>
        rw [ex, ey] at e
        cases e
        obtain ⟨u1, e1, r1⟩ := rv.get ex
        obtain ⟨w1, e2, r2⟩ := rv'.get ey
        have qa := ha us ((rd.stp st.fz st.fH).sq)
        have qb := hb ws ((rd'.stp st.fz st.fH).sq)
        rw [e1] at qa; cases qa
        rw [e2] at qb; cases qb
        obtain ⟨s1, s2, s3⟩ := pair_new (xs := [x1, y1]) rh hT (RVs.cons (st.rv r1) (RVs.one (st.rv r2)))
        exact ⟨_, s1, s2, s3⟩
theorem deliv_zipT {c : Ct} {g : Gh} {H : Hp} {p q : Addr} {us ws : List V} {xs ys : List VV} (rd : TupAt c g.fz H p us) (rd' : TupAt c g.fz H q ws) (rv : RVs c g.fz H xs us) (rv' : RVs c g.fz H ys ws) : Deliv c g H (prs xs ys) (RZ.ItzT c.K p q) where
  go := fun g1 H1 st i hi => by
    rw [prs_len] at hi
    obtain ⟨u, e, _⟩ := rv.get (List.getElem?_eq_getElem (show i < xs.length by omega))
    obtain ⟨w, e', _⟩ := rv'.get (List.getElem?_eq_getElem (show i < ys.length by omega))
    exact ⟨us, ws, u, w, (TupAt.stp (z' := g.fz) st.tp rd).sq, (TupAt.stp (z' := g.fz) st.tp rd').sq, e, e'⟩
  stop := fun g1 H1 st i hi => by
    rw [prs_len, rv.len, rv'.len] at hi
    exact ⟨us, ws, (TupAt.stp (z' := g.fz) st.tp rd).sq, (TupAt.stp (z' := g.fz) st.tp rd').sq, by omega⟩
  yld := fun g1 H1 st i x h1 e rh u H' y => by
    obtain ⟨T, a, b, eu, hT, eH, ha, hb⟩ := y
    subst eH eu
    rw [prs_get] at e
    cases ex : xs[i]? with
    | none => rw [ex] at e; cases e
    | some x1 =>
      cases ey : ys[i]? with
      | none => rw [ex, ey] at e; cases e
      | some y1 =>
        rw [ex, ey] at e
        cases e
        obtain ⟨u1, e1, r1⟩ := rv.get ex
        obtain ⟨w1, e2, r2⟩ := rv'.get ey
        have qa := ha us (TupAt.stp (z' := g.fz) st.tp rd).sq
        have qb := hb ws (TupAt.stp (z' := g.fz) st.tp rd').sq
        rw [e1] at qa; cases qa
        rw [e2] at qb; cases qb
        obtain ⟨s1, s2, s3⟩ := pair_new (xs := [x1, y1]) rh hT (RVs.cons (st.rv r1) (RVs.one (st.rv r2)))
        exact ⟨_, s1, s2, s3⟩
theorem deliv_enum {c : Ct} {g : Gh} {H : Hp} {p : Addr} {us : List V} {xs : List VV} (rd : LstAt c g.fz H p us) (rv : RVs c g.fz H xs us) : Deliv c g H (enum 0 xs) (Ite c.K p) where
  go := fun g1 H1 st i hi => by
    rw [enum_len] at hi
    obtain ⟨u, e, _⟩ := rv.get (List.getElem?_eq_getElem hi)
    exact ⟨us, u, (rd.stp st.fz st.fH).sq, e⟩
  stop := fun g1 H1 st i hi => by
    rw [enum_len, rv.len] at hi
    exact ⟨us, (rd.stp st.fz st.fH).sq, hi⟩
  yld := fun g1 H1 st i x h1 e rh u H' y => by
    obtain ⟨T, a, eu, hT, eH, ha⟩ := y
    subst eH eu
    rw [enum_get] at e
    cases ex : xs[i]? with
    | none => rw [ex] at e; cases e
    | some x1 =>
      rw [ex] at e
      cases e
      obtain ⟨u1, e1, r1⟩ := rv.get ex
      have qa := ha us ((rd.stp st.fz st.fH).sq)
      rw [e1] at qa; cases qa
      have ri : RV c g1.fz H1 (.int ((0 + i : Nat) : Int)) (.int (i : Nat)) := by rw [RV, Nat.zero_add]
      obtain ⟨s1, s2, s3⟩ := pair_new (xs := [.int ((0 + i : Nat) : Int), x1]) rh hT (RVs.cons ri (RVs.one (st.rv r1)))
      exact ⟨_, s1, s2, s3⟩
section
variable {X : Cx} {W : WX}
theorem ji_seq {tg l : Expr} {f : EF} (hl : PE X l (tE (ct X) W f)) : PI X tg l (tI (ct X) W (iSeq f)) :=
  PI.mono ((PI.or (pi_list hl) (PI.or (pi_tup hl) (pi_str hl)))) fun σ H R h => by
    obtain ⟨g, ρ, h0, rh, rs, p⟩ := h
    unfold iSeq at p
    cases e : f ρ h0 with
    | no => rw [e] at p; exact p.elim
    | exc x ns vs h' => exact .inl ⟨g, ρ, h0, rh, rs, by rw [e] at p ⊢; exact p⟩
    | ok v h1 =>
      rw [e] at p
      cases v with
      | lst xs =>
        refine .inl ⟨g, ρ, h0, rh, rs, ?_⟩
        rw [e]
        intro g' H' u st rh' rv
        obtain ⟨a, us, eu, ra, rvs⟩ := lstF_get (xs := xs) rv rfl
        exact ⟨a, eu, ⟨us, ra.sq⟩, p g' H' _ st rh' (deliv_list (h := h1) ra rvs)⟩
      | scr xs =>
        refine .inl ⟨g, ρ, h0, rh, rs, ?_⟩
        rw [e]
        intro g' H' u st rh' rv
        obtain ⟨a, us, eu, ra, rvs⟩ := lstF_get (xs := xs) rv rfl
        exact ⟨a, eu, ⟨us, ra.sq⟩, p g' H' _ st rh' (deliv_list (h := h1) ra rvs)⟩
      | tup xs =>
        refine .inr (.inl ⟨g, ρ, h0, rh, rs, ?_⟩)
        rw [e]
        intro g' H' u st rh' rv
        obtain ⟨a, us, eu, ra, rvs⟩ := tup_get rv
        exact ⟨a, eu, ⟨us, ra.sq⟩, p g' H' _ st rh' (deliv_tup (h := h1) ra rvs)⟩
      | str s =>
        refine .inr (.inr ⟨g, ρ, h0, rh, rs, ?_⟩)
        rw [e]
        intro g' H' u st rh' rv
        exact ⟨s, str_get rv, p g' H' _ st rh' deliv_str⟩
      | _ => exact p.elim
theorem ji_range1 {tg a : Expr} {f : EF} {p pos : Pos} (hg : Gl X "range") (hm : X.mg "range" = none) (ha : PE X a (tE (ct X) W f)) (hs : starEach [a] X.env = [(false, eval a X.env)] := by rfl) : PI X tg (.Call (.Name "range" p) [a] [] pos) (tI (ct X) W (iRange1 f)) :=
  PI.mono (pi_range1 hg hm (pa_cons ha pa_nil hs) hs) fun σ H R h => by
    obtain ⟨g, ρ, h0, rh, rs, p⟩ := h
    unfold iRange1 at p
    refine ⟨g, ρ, h0, rh, rs, ?_⟩
    cases e : f ρ h0 with
    | no => rw [e] at p; exact p.elim
    | exc x ns vs h' => rw [e] at p; exact p
    | ok v h1 =>
      rw [e] at p
      cases v with
      | int n =>
        simp only [Res.bind] at p
        by_cases hn : -(2 ^ 62) ≤ n ∧ n < 2 ^ 62
        · rw [if_pos hn] at p
          intro g' H' u st rh' rv
          exact ⟨n, by rw [int_get rv], hn.1, hn.2, p g' H' _ st rh' deliv_rng⟩
        · rw [if_neg hn] at p; exact p.elim
      | _ => exact p.elim
theorem ji_enum {a : Expr} {f : AF} {p pos tpos : Pos} {elts : List Expr} {kk : Nat} (hg : Gl X "enumerate") (hm : X.mg "enumerate" = none) (ha : PA X [a] (tA (ct X) W f)) (hs : starEach [a] X.env = [(false, eval a X.env)] := by rfl) :
    PI X (.Tuple elts kk tpos) (.Call (.Name "enumerate" p) [a] [] pos) (tI (ct X) W (iEnum f)) :=
  PI.mono (pi_enum hg hm ha hs) fun σ H R h => by
    obtain ⟨g, ρ, h0, rh, rs, p⟩ := h
    unfold iEnum at p
    refine ⟨g, ρ, h0, rh, rs, ?_⟩
    cases e : f ρ h0 with
    | no => rw [e] at p; exact p.elim
    | exc x ns vs h' => rw [e] at p; exact p
    | ok v h1 =>
      rw [e] at p
      simp only [Res.bind] at p
      split at p
      · intro g' H' u st rh' rv
        obtain ⟨u1, r1, rfl, a1, rfl⟩ := rv
        obtain ⟨a, us, eu, ra, rvs⟩ := lstF_get a1 rfl
        exact ⟨a, us, by rw [eu], ra.sq, p g' H' _ st rh' (deliv_enum ra rvs)⟩
      · intro g' H' u st rh' rv
        obtain ⟨u1, r1, rfl, a1, rfl⟩ := rv
        obtain ⟨a, us, eu, ra, rvs⟩ := lstF_get a1 rfl
        exact ⟨a, us, by rw [eu], ra.sq, p g' H' _ st rh' (deliv_enum ra rvs)⟩
      · exact p.elim
theorem ji_zip {a b : Expr} {f : AF} {p pos tpos : Pos} {elts : List Expr} {kk : Nat} (hg : Gl X "zip") (hm : X.mg "zip" = none) (ha : PA X [a, b] (tA (ct X) W f)) (hs : starEach [a, b] X.env = (false, eval a X.env) :: starEach [b] X.env := by rfl) (hpl : (backTo pos (starEach [b] X.env)).any (·.1) = false := by rfl) :
    PI X (.Tuple elts kk tpos) (.Call (.Name "zip" p) [a, b] [] pos) (tI (ct X) W (iZip f)) :=
  PI.mono (RZ.pi_zipA hg hm ha hs hpl) fun σ H R h => by
    obtain ⟨g, ρ, h0, rh, rs, p⟩ := h
    unfold iZip at p
    refine ⟨g, ρ, h0, rh, rs, ?_⟩
    cases e : f ρ h0 with
    | no => rw [e] at p; exact p.elim
    | exc x ns vs h' => rw [e] at p; exact p
    | ok v h1 =>
      rw [e] at p
      simp only [Res.bind] at p
      split at p
      · intro g' H' u st rh' rv
        obtain ⟨u1, r1, rfl, a1, u2, r2, rfl, a2, rfl⟩ := rv
        obtain ⟨a, us, eu, ra, rvs⟩ := lstF_get a1 rfl
        obtain ⟨b, ws, ew, rb, rws⟩ := lstF_get a2 rfl
        exact ⟨a, b, us, ws, by rw [eu, ew], .inl ⟨ra.sq, rb.sq, p g' H' _ st rh' (deliv_zip ra rb rvs rws)⟩⟩
      · intro g' H' u st rh' rv
        obtain ⟨u1, r1, rfl, a1, u2, r2, rfl, a2, rfl⟩ := rv
        obtain ⟨a, us, eu, ra, rvs⟩ := tup_get a1
        obtain ⟨b, ws, ew, rb, rws⟩ := tup_get a2
        exact ⟨a, b, us, ws, by rw [eu, ew], .inr ⟨ra.sq, rb.sq, p g' H' _ st rh' (deliv_zipT ra rb rvs rws)⟩⟩
      · exact p.elim
/-! defs and calls -/
abbrev FF := List VV → VH → Res VV
def spF (c : Ct) (n : Nat) (F : FF) : Sp := fun vs H Q E => ∃ g ws h, RH c g h H ∧ RTs c g H ws vs ∧ ws.length = n ∧ Pst c (fun a d _ H' => E a d H') [] (RT c) g H Q (F ws h)
/-- the roots that a def made and let go are forgotten -/
def lowV (n : Nat) : VV → Bool
  | .obj m => decide (m < n)
  | _ => true
def lowO (n : Nat) : VO → Bool
  | .ins _ _ vs => vs.all (lowV n)
  | .lo vs => vs.all (lowV n)
  | _ => true
def trim (n : Nat) (v : VV) (h : VH) : VH := if h.length = n then h else if lowV n v = true ∧ (h.take n).all (lowO n) = true then h.take n else h
def fnF (k : Nat) (B : SF) : FF := fun vs h => match B (vs.map some ++ List.replicate (k - vs.length) none) h with
  | .nx _ h' => .ok .non (trim h.length .non h')
  | .ret v h' => .ok v (trim h.length v h')
  | .exc x ns vs _ h' => .exc x ns vs h'
  | _ => .no
theorem RTs.start {c : Ct} {g : Gh} {H : Hp} {ws : List VV} {vs : List V} (r : RTs c g H ws vs) (k : Nat) : RS c g H (ws.map some ++ List.replicate (k - ws.length) none) (vs.map some ++ List.replicate (k - vs.length) none) := by
  have hl := r.len
  refine ⟨by simp [hl], fun i v e => ?_⟩
  by_cases hi : i < ws.length
  · rw [List.getElem?_append_left (by simpa using hi), List.getElem?_map] at e
    cases q : ws[i]? with
    | none => rw [q] at e; cases e
    | some w =>
      rw [q] at e
      cases e
      have : ∀ {ws : List VV} {vs : List V} {i : Nat} {v : VV}, RTs c g H ws vs → ws[i]? = some v → ∃ u, vs[i]? = some u ∧ RT c g H v u := by
        intro ws
        induction ws with
        | nil => intro vs i v _ e; simp at e
        | cons x xs ih =>
          intro vs i v r e
          obtain ⟨u, r', rfl, a, b⟩ := r
          cases i with
          | zero => simp at e; subst e; exact ⟨u, rfl, a⟩
          | succ i => exact ih (i := i) b (by simpa using e)
      obtain ⟨u, e2, ru⟩ := this r q
      refine ⟨u, ?_, ru⟩
      rw [List.getElem?_append_left (by rw [List.length_map, ← hl]; exact hi), List.getElem?_map, e2]; rfl
  · rw [List.getElem?_append_right (by simpa using hi), List.getElem?_replicate] at e
    split at e <;> cases e
theorem RT.low {c : Ct} {g g' : Gh} {H : Hp} {n : Nat} (hio : g'.io = g.io.take n) (hfz : g'.fz = g.fz) {v : VV} {u : V} (l : lowV n v = true) (r : RT c g H v u) : RT c g' H v u := by
  cases v with
  | obj m =>
    obtain ⟨a, e, eu⟩ := r
    refine ⟨a, ?_, eu⟩
    rw [hio, List.getElem?_take_of_lt (of_decide_eq_true l)]
    exact e
  | _ => exact RT.of_rv (by rw [hfz]; exact RT.rv r rfl)
theorem RTs.low {c : Ct} {g g' : Gh} {H : Hp} {n : Nat} (hio : g'.io = g.io.take n) (hfz : g'.fz = g.fz) : ∀ {vs : List VV} {us : List V}, vs.all (lowV n) = true → RTs c g H vs us → RTs c g' H vs us
  | [], us, _, r => r
  | x :: xs, us, l, r => by
    rw [List.all_cons, Bool.and_eq_true] at l
    obtain ⟨u, q, e, a, b⟩ := r
    exact ⟨u, q, e, a.low hio hfz l.1, RTs.low hio hfz l.2 b⟩
theorem trim_ok {c : Ct} {g g' : Gh} {h h' : VH} {H H' : Hp} {v : VV} {u : V} (rh : RH c g h H) (st : Stp g H g' H') (rh' : RH c g' h' H') (rv : RT c g' H' v u) :
    ∃ g2, Stp g H g2 H' ∧ RH c g2 (trim h.length v h') H' ∧ RT c g2 H' v u := by
  unfold trim
  by_cases e : h'.length = h.length
  · rw [if_pos e]; exact ⟨g', st, rh', rv⟩
  · rw [if_neg e]
    by_cases cc : lowV h.length v = true ∧ (h'.take h.length).all (lowO h.length) = true
    · rw [if_pos cc]
      have eio : g'.io.take h.length = g.io := by
        obtain ⟨l, hl⟩ := st.io
        rw [← hl, ← rh.len, List.take_left]
      refine ⟨{ io := g.io, fz := g'.fz, kp := g'.kp }, ⟨List.prefix_rfl, st.fz, st.kp, st.fH, st.kH, st.tp⟩, ?_, RT.low (g' := { io := g.io, fz := g'.fz, kp := g'.kp }) (n := h.length) eio.symm rfl cc.1 rv⟩
      have hle : h.length ≤ h'.length := by
        obtain ⟨l, hl⟩ := st.io
        have := congrArg List.length hl
        rw [List.length_append, rh.len, rh'.len] at this
        omega
      refine ⟨by show g.io.length = _; rw [List.length_take, rh.len]; omega, rh.nd, fun n o a h1 h2 => ?_, rh'.fz, rh'.kp, fun q z => ⟨(rh'.kd q z).1, fun y => (rh'.kd q z).2 ?_⟩, rh'.tb, rh'.nt⟩
      · have hn : n < h.length := by
          have := (List.getElem?_eq_some_iff.mp h1).1
          rw [List.length_take] at this; omega
        have h1' : h'[n]? = some o := by rw [List.getElem?_take_of_lt hn] at h1; exact h1
        have h2' : g'.io[n]? = some a := by
          have : g.io[n]? = some a := h2
          rw [← eio, List.getElem?_take_of_lt hn] at this
          exact this
        have ro := rh'.at' n o a h1' h2'
        have lo : lowO h.length o = true := List.all_eq_true.mp cc.2 o (List.mem_of_getElem? h1)
        cases o with
        | fzn v => exact ro
        | fl xs => exact ro
        | lo xs =>
          obtain ⟨q1, us, q3, q4⟩ := ro
          exact ⟨q1, us, q3, RTs.low (g' := { io := g.io, fz := g'.fz, kp := g'.kp }) (n := h.length) eio.symm rfl lo q4⟩
        | dT ks vs => exact ro
        | dK ks vs => exact ro
        | ins x ns vs =>
          obtain ⟨q1, C, dx, us, q3, q4, q5, q6⟩ := ro
          exact ⟨q1, C, dx, us, q3, q4, q5, RTs.low (g' := { io := g.io, fz := g'.fz, kp := g'.kp }) (n := h.length) eio.symm rfl lo q6⟩
      · have : q ∈ g.io := y
        rw [← eio] at this
        exact List.mem_of_mem_take this
    · rw [if_neg cc]; exact ⟨g', st, rh', rv⟩
end
section
variable {P : Program} {w : World} {K : PySem.W.Frag} {mg : Str → Option Value} {base : Heap}
/-- THE RULE for a def -/
theorem fn_ok {x qual : Str} {params : Arguments} {body : List Stmt} {scope : Scope} {dvs : List V} {kws : List (Str × V)} {f : Addr} {fd : FuncData} {N ps : List Str} {k n : Nat} {B : SF} (F : FunD K x qual params body scope dvs kws f fd) (S : FnScope N ps scope) (hn : n = N.length) (hp : ps.length ≤ n)
    (hbody : ∀ (cdv : Value) (A : Around) (outer : List Env) (s : Shared) (H : Hp) (E : XK), Room k (A.deeper (envOfC qual scope s.heap.objs.size f cdv)) →
      PSs (cxOf (L2N.CX P w) P w K mg base N qual scope f cdv A outer s H E) body (tS ⟨K, mg⟩ (fun a d _ H' => E a d H') B)) :
    FnOk P w K mg base (L2N.CX P w) (k + 1) f fd ps (spF ⟨K, mg⟩ ps.length (fnF n B)) := by
  refine F.ok S (fun vs H Q E h => ?_) (fun cdv A outer s H vs Q E hr h => ?_)
  · obtain ⟨g, ws, hh, rh, rt, l, _⟩ := h
    rw [← rt.len]; exact l
  · refine ⟨_, hbody cdv A outer s H E hr, ?_⟩
    obtain ⟨g, ws, hh, rh, rt, l, p⟩ := h
    have rs := rt.start n
    refine ⟨g, ws.map some ++ List.replicate (n - ws.length) none, hh, rh, ?_, ?_⟩
    · rw [hn] at rs ⊢; exact rs
    · unfold fnF at p
      generalize B (ws.map some ++ List.replicate (n - ws.length) none) hh = r at p ⊢
      cases r with
      | no => exact p
      | brk => exact p.elim
      | cnt => exact p.elim
      | nx ρ h' =>
        intro g' H' σ' st rh' rs'
        obtain ⟨g2, s2, rh2, rv2⟩ := trim_ok rh st rh' (rt_non (c := ⟨K, mg⟩))
        exact p g2 H' .non s2 rh2 rv2
      | ret v h' =>
        intro g' H' u st rh' rv
        obtain ⟨g2, s2, rh2, rv2⟩ := trim_ok rh st rh' rv
        exact p g2 H' u s2 rh2 rv2
      | exc x ns vs ρ h' => exact fun g' H' σ' C d us st rh' rs' m e l rv => p g' H' C d us st rh' m e l rv
end
section
variable {X : Cx} {W : WX}
def eFn (n : Nat) (F : FF) (dws : List VV) (a : AF) : EF := fun ρ h => (a ρ h).bind fun vs h1 => if (vs ++ dws).length = n then F (vs ++ dws) h1 else .no
theorem RTs.append {c : Ct} {g : Gh} {H : Hp} : ∀ {vs ws : List VV} {us ys : List V}, RTs c g H vs us → RTs c g H ws ys → RTs c g H (vs ++ ws) (us ++ ys)
  | [], ws, us, ys, r, q => by rw [show us = [] from r]; exact q
  | x :: xs, ws, us, ys, r, q => by
    obtain ⟨u, r', rfl, a, b⟩ := r
    exact ⟨u, _, rfl, a, RTs.append b q⟩
theorem pst_call {σ : St} {g : Gh} {H : Hp} {Q : VK} {r : Res VV} (h : Pst (ct X) W σ (RT (ct X)) g H Q r) : Pst (ct X) (fun a d _ H' => WE W σ a d H') [] (RT (ct X)) g H Q r := by
  cases r with
  | no => exact h
  | ok => exact h
  | exc => exact h
/-- from arguments to a def's promise -/
theorem tCall_of {n : Nat} {F : FF} {fa : AF} {dws : List VV} {dvs : List V} (hd : ∀ g H, RTs (ct X) g H dws dvs) {σ : St} {H : Hp} {Q : VK} (h : tE (ct X) W (eFn n F dws fa) σ H Q) :
    tCallSD (spF (ct X) n F) dvs (WE W) (tA (ct X) W fa) σ H Q := by
  obtain ⟨g, ρ, h0, rh, rs, p⟩ := h
  refine ⟨g, ρ, h0, rh, rs, ?_⟩
  unfold eFn at p
  cases e : fa ρ h0 with
  | no => rw [e] at p; exact p
  | exc => rw [e] at p; exact p
  | ok vs h1 =>
    rw [e] at p
    simp only [Res.bind] at p
    by_cases hl : (vs ++ dws).length = n
    · rw [if_pos hl] at p
      intro g' H' us st rh' rts
      exact ⟨g', vs ++ dws, h1, rh', RTs.append rts (hd g' H'), hl, pst_call (Pst.step st p)⟩
    · rw [if_neg hl] at p; exact p.elim
theorem j_call {k n : Nat} {f : Addr} {fd : FuncData} {ps : List Str} {Fm : FF} {dvs : List V} {dws : List VV} {ds : List Value} {x : Str} {p pos : Pos} {e : Expr} {es : List Expr} {fa : AF}
    (F : FnOk X.prog X.w X.K X.mg X.base (L2N.CX X.prog X.w) k f fd ps (spF (ct X) n Fm)) (hr : Room k X.A) (hg : Gl X x) (hm : X.mg x = some (.ref f)) (hk : PySem.W.keepIn X.K (.ref f) = true) (hb : Binds X.K fd ps ds) (hd : Vals dvs ds) (rd : ∀ g H, RTs (ct X) g H dws dvs) (tk : L2N.Takes X W)
    (ha : PA X (e :: es) (tA (ct X) W fa)) (hdb : (x == ("__debug__" : Str)) = false := by decide) (he : starEach (e :: es) X.env = (false, eval e X.env) :: starEach es X.env := by rfl) (hpl : (backTo pos (starEach es X.env)).any (·.1) = false := by rfl) :
    PE X (.Call (.Name x p) (e :: es) [] pos) (tE (ct X) W (eFn n Fm dws fa)) :=
  PE.mono (pe_callSD (E := WE W) F hr hg hm hk hb hd (fun σ => L2N.passAt tk σ) ha hdb he hpl) fun σ H Q h => tCall_of rd h
/-! more statements -/
def sPar (i j : Nat) (a : AF) : SF := fun ρ h => (a ρ h).st ρ fun vs h1 => match vs with
  | [v, w] => .nx ((ρ.set i (some v)).set j (some w)) h1
  | _ => .no
def sPar3 (i j l : Nat) (a : AF) : SF := fun ρ h => (a ρ h).st ρ fun vs h1 => match vs with
  | [u, v, w] => .nx (((ρ.set i (some u)).set j (some v)).set l (some w)) h1
  | _ => .no
/-! a root that is a list: written, read as data -/
def setI (h : VH) (o i v : VV) : Option VH := match o, i with
  | .obj n, .int k => match h[n]? with
    | some (.fl xs) => match ixN xs.length k with
      | some j => if v.isObj = true then none else some (h.set n (.fl (xs.set j v)))
      | none => none
    | _ => none
  | _, _ => none
theorem setI_ok {c : Ct} {g : Gh} {h h' : VH} {H : Hp} {o i v : VV} {uo ui uv : V} (rh : RH c g h H) (ro : RT c g H o uo) (ri : RT c g H i ui) (rv : RT c g H v uv) (e : setI h o i v = some h') (Q : Hp → Prop) (k : ∀ H', Stp g H g H' → RH c g h' H' → Q H') : rSetL uo ui uv H Q := by
  unfold setI at e
  split at e
  · rename_i n kk
    split at e
    · rename_i xs en
      split at e
      · rename_i j ej
        split at e
        · cases e
        · rename_i ov
          cases e
          obtain ⟨a, ea, eo⟩ := ro
          have hro := rh.at' n _ a en ea
          obtain ⟨nz, us, hl, rvs⟩ := hro
          have nk : ¬ g.kp a := fun z => (rh.kd a z).2 (List.mem_of_getElem? ea)
          have st : Stp g H g (upd H a (.lst (us.set j uv))) := Stp.wr (c := c) nz nk (fun ys z => by rw [hl] at z; cases z)
          refine ⟨a, us, kk, j, eo, int_get ri, hl, by rw [← rvs.len]; exact ej, k _ st (rh.wr ea nz (fun ys z => by rw [hl] at z; cases z) ?_)⟩
          exact ⟨nz, _, upd_same, st.rvs (RVs.set (rv.rv (by simpa using ov)) rvs)⟩
      · cases e
    · cases e
  · cases e
def sSetI (o i e : EF) : SF := fun ρ h => (e ρ h).st ρ fun v h1 => (o ρ h1).st ρ fun ov h2 => (i ρ h2).st ρ fun iv h3 => match setI h3 ov iv v with
  | some h4 => .nx ρ h4
  | none => .no
theorem js_setI {o i e : Expr} {fo fi fe : EF} {pos pos' : Pos} (he : PE X e (tE (ct X) W fe)) (ho : PE X o (tE (ct X) W fo)) (hi : PE X i (tE (ct X) W fi))
    (ha : ∀ v, assign (.Subscript o i pos') X.env v = (do
      let ov ← holding [v] (eval o X.env)
      let iv ← holding [v, ov] (eval i X.env)
      standAt pos'
      holding [v, ov, iv] (setItem ov iv v)
      release [v, ov, iv] []) := by intro _; rfl)
    (hs : swapsWithSole [.Subscript o i pos'] e pos.line X.env = pure false := by rfl) (hw : swappedStores [.Subscript o i pos'] e X.env = pure none := by rfl) (h1 : (assignEach [.Subscript o i pos'] X.env).map (·.2) = [assign (.Subscript o i pos') X.env] := by rfl) :
    PS X (.Assign [.Subscript o i pos'] e pos) (tS (ct X) W (sSetI fo fi fe)) :=
  PS.mono (ps_asg he (pg_sub ho hi set_list ha) hs hw h1) fun D σ H ⟨g, ρ, h, rh, rs, p⟩ => by
    refine ⟨g, ρ, h, rh, rs, (Pst.st (R := RT (ct X)) rs p).imp fun u H1 ⟨g1, v, h1, st, rh1, rs1, rv1, p1⟩ => ?_⟩
    refine ⟨g1, ρ, h1, rh1, rs1, (Pst.st (R := RT (ct X)) rs1 p1).imp fun u2 H2 ⟨g2, ov, h2, st2, rh2, rs2, rv2, p2⟩ => ?_⟩
    refine ⟨g2, ρ, h2, rh2, rs2, (Pst.st (R := RT (ct X)) rs2 p2).imp fun u3 H3 ⟨g3, iv, h3, st3, rh3, rs3, rv3, p3⟩ => ?_⟩
    cases e : setI h3 ov iv v with
    | none => rw [e] at p3; exact p3.elim
    | some h4 =>
      rw [e] at p3
      exact setI_ok rh3 (rv2.stp st3) rv3 ((rv1.stp st2).stp st3) e _ fun H' st' rh' => p3 g3 H' σ st' rh' (rs3.stp st')
def appV (h2 : VH) (ov v : VV) : Res VV := match ov with
    | .obj n => match h2[n]? with
      | some (.fl xs) => if xs.length ≥ SZ then .no else if v.isObj = true then .ok .non (h2.set n (.lo (xs ++ [v]))) else .ok .non (h2.set n (.fl (xs ++ [v])))
      | some (.lo xs) => if xs.length ≥ SZ then .no else .ok .non (h2.set n (.lo (xs ++ [v])))
      | _ => .no
    | _ => .no
theorem RTs.app {c : Ct} {g : Gh} {H : Hp} : ∀ {vs ws : List VV} {us ys : List V}, RTs c g H vs us → RTs c g H ws ys → RTs c g H (vs ++ ws) (us ++ ys)
  | [], ws, us, ys, h, k => by rw [show us = [] from h]; exact k
  | x :: xs, ws, us, ys, h, k => by
    obtain ⟨u, r, rfl, a, b⟩ := h
    exact ⟨u, _, rfl, a, RTs.app b k⟩
theorem RTs.one {c : Ct} {g : Gh} {H : Hp} {v : VV} {u : V} (q : RT c g H v u) : RTs c g H [v] [u] := ⟨u, [], rfl, q, rfl⟩
def eApp (o e : EF) : EF := fun ρ h => (o ρ h).bind fun ov h1 => match lstR h1 ov with
  | none => .no
  | some _ => (e ρ h1).bind fun v h2 => appV h2 ov v
theorem j_app {o e : Expr} {fo fe : EF} {apos cpos : Pos} (ho : PE X o (tE (ct X) W fo)) (ha : PE X e (tE (ct X) W fe)) (hs1 : starEach (e :: []) X.env = (false, eval e X.env) :: starEach [] X.env := by rfl)
    (hbase : attributeBase o "append" X.env (eval o X.env) = eval o X.env := by rfl)
    (hfew : ((backTo cpos (starEach [e] X.env)).all (fun x => !x.1) && (backToKw cpos (keywordEach [] X.env)).all (fun x => x.1.isSome)
      && decide ([e].length + ([] : List Keyword).length + (if ([] : List Keyword).isEmpty then 0 else 1) < 30)) = true := by rfl)
    (hline : (apos.endLine == cpos.line) = true := by rfl) (hplain : (backTo cpos (starEach [] X.env)).any (·.1) = false := by rfl) :
    PE X (.Call (.Attribute o "append" apos) [e] [] cpos) (tE (ct X) W (eApp fo fe)) :=
  PE.mono (pe_bm PySem.F.plainAttrs_list PySem.F.slot_list_append PySem.F.type_list_append mt_append ho (pa_cons ha pa_nil hs1) hbase hfew hline hs1 hplain) fun σ H Q ⟨g, ρ, h0, rh, rs, p⟩ => by
    refine ⟨g, ρ, h0, rh, rs, (Pst.bind (R := RT (ct X)) p).imp fun u H1 ⟨g1, ov, h1, st, rh1, rv1, p1⟩ => ?_⟩
    cases e : lstR h1 ov with
    | none => rw [e] at p1; exact p1.elim
    | some ys =>
      rw [e] at p1
      obtain ⟨a, us, eu, sq, rvs⟩ := lstR_get rh1 rv1 e
      refine ⟨by rw [eu]; exact .inl ⟨rfl, us, sq⟩, g1, ρ, h1, rh1, rs.stp st, (Pst.bind (R := RT (ct X)) p1).imp fun u2 H2 ⟨g2, v, h2, st2, rh2, rv2, p2⟩ => ?_⟩
      cases ov with
      | obj n =>
        unfold appV at p2
        simp only at p2
        obtain ⟨b, eb, eu'⟩ := rv1.stp st2
        split at p2
        · rename_i xs en
          obtain ⟨nz, ws, hl, rws⟩ := rh2.at' n _ b en eb
          split at p2
          · exact p2.elim
          · rename_i cc
            have nk : ¬ g2.kp b := fun z => (rh2.kd b z).2 (List.mem_of_getElem? eb)
            have nt : ∀ ys, H2 b ≠ some (.tup ys) := fun ys z => by rw [hl] at z; cases z
            have stw : Stp g2 H2 g2 (upd H2 b (.lst (ws ++ [u2]))) := Stp.wr (c := ct X) nz nk nt
            refine ⟨b, ws, u2, eu', rfl, hl, by rw [← rws.len]; exact SZ_lt (by omega), ?_⟩
            split at p2
            · exact p2 g2 _ .non stw (rh2.wr eb nz nt ⟨nz, _, upd_same, (RTs.app (RTs.of_rvs rws) (RTs.one rv2)).stp stw⟩) rt_non
            · rename_i cv
              exact p2 g2 _ .non stw (rh2.wr eb nz nt ⟨nz, _, upd_same, stw.rvs (RVs.app rws (RVs.one (rv2.rv (by simpa using cv))))⟩) rt_non
        · rename_i xs en
          obtain ⟨nz, ws, hl, rws⟩ := rh2.at' n _ b en eb
          split at p2
          · exact p2.elim
          · rename_i cc
            have nk : ¬ g2.kp b := fun z => (rh2.kd b z).2 (List.mem_of_getElem? eb)
            have nt : ∀ ys, H2 b ≠ some (.tup ys) := fun ys z => by rw [hl] at z; cases z
            have stw : Stp g2 H2 g2 (upd H2 b (.lst (ws ++ [u2]))) := Stp.wr (c := ct X) nz nk nt
            refine ⟨b, ws, u2, eu', rfl, hl, by rw [← rws.len]; exact SZ_lt (by omega), ?_⟩
            exact p2 g2 _ .non stw (rh2.wr eb nz nt ⟨nz, _, upd_same, (RTs.app rws (RTs.one rv2)).stp stw⟩) rt_non
        · exact p2.elim
      | _ => exact p2.elim
end
end J
namespace J
open PySem L2
/-! numbers -/
def isInt2 (f : Int → Int → Option VV) : Op2 := fun _ v w => match v, w with
  | .int i, .int j => f i j
  | _, _ => none
def opSub : Op2 := isInt2 fun i j => some (.int (i - j))
def opLt : Op2 := isInt2 fun i j => some (.bl (decide (i < j)))
def opLe : Op2 := isInt2 fun i j => some (.bl (decide (i ≤ j)))
def opGt : Op2 := isInt2 fun i j => some (.bl (decide (j < i)))
def opGe : Op2 := isInt2 fun i j => some (.bl (decide (j ≤ i)))
def opFdiv : Op2 := isInt2 fun i j => if j ≠ 0 ∧ j.natAbs.log2 < 9000 then some (.int (i.fdiv j)) else none
def opMod : Op2 := isInt2 fun i j => if j ≠ 0 then some (.int (i.fmod j)) else none
def mulOk (i j : Int) : Bool := decide (i.natAbs < 2 ^ 64) || decide (j.natAbs < 2 ^ 64) || decide (i.natAbs.log2 + j.natAbs.log2 < 1000000)
def opPow : Op2 := isInt2 fun i j => if 0 ≤ j ∧ j ≤ 1000000 ∧ i.natAbs < 2 ^ 64 then some (.int (i ^ j.toNat)) else none
def opNeg : Op1 := fun _ v => match v with
  | .int i => some (.int (-i))
  | _ => none
def opAdd : Op2 := fun h v w => match v, w with
  | .int i, .int j => some (.int (i + j))
  | .str x, .str y => if x.length + y.length ≤ SZ then some (.str (x ++ y)) else none
  | .tup xs, .tup ys => if xs.length + ys.length ≤ SZ then some (.tup (xs ++ ys)) else none
  | .lst xs, .lst ys => if xs.length + ys.length ≤ SZ then some (.lst (xs ++ ys)) else none
  | _, _ => none
def opMul : Op2 := fun h v w => match v, w with
  | .int i, .int j => if mulOk i j = true then some (.int (i * j)) else none
  | .lst xs, .int k => if -(2 ^ 63) ≤ k ∧ k < 2 ^ 63 ∧ xs.length * k.toNat ≤ SZ then some (.lst (List.replicate k.toNat xs).flatten) else none
  | _, _ => none
section
variable {X : Cx} {W : WX}
theorem opR_int {f : Value → Value → Sem Value} {C : Int → Int → Prop} {g : Int → Int → V} {o : Int → Int → Option VV} (h : OpR X f (rI C g)) (ho : ∀ i j r, o i j = some r → C i j ∧ ∀ c z H, RV c z H r (g i j)) : OpR X f (Rd2 (ct X) (isInt2 o)) :=
  OpR.imp h fun x y H Q ⟨g0, hh, v, w, r, rh, rv, rw', e, k⟩ => by
    unfold isInt2 at e
    split at e
    · rename_i i j
      obtain ⟨c, rr⟩ := ho i j r e
      exact ⟨i, j, int_get rv, int_get rw', c, k g0 H _ .refl rh (RT.of_rv (rr _ _ _))⟩
    · cases e
theorem opR_int0 {f : Value → Value → Sem Value} {g : Int → Int → V} {o : Int → Int → Option VV} (h : OpR X f (rI0 g)) (ho : ∀ i j r, o i j = some r → ∀ c z H, RV c z H r (g i j)) : OpR X f (Rd2 (ct X) (isInt2 o)) :=
  OpR.imp h fun x y H Q ⟨g0, hh, v, w, r, rh, rv, rw', e, k⟩ => by
    unfold isInt2 at e
    split at e
    · rename_i i j
      have rr := ho i j r e
      exact ⟨i, j, int_get rv, int_get rw', k g0 H _ .refl rh (RT.of_rv (rr _ _ _))⟩
    · cases e
theorem rv_int (c : Ct) (z : Addr → Prop) (H : Hp) (i : Int) : RV c z H (.int i) (.int i) := by rw [RV]
theorem rv_bl (c : Ct) (z : Addr → Prop) (H : Hp) (i : Bool) : RV c z H (.bl i) (.bl i) := by rw [RV]
theorem or_sub : OpR X (binaryOp .Sub) (Rd2 (ct X) opSub) := opR_int0 op_sub fun i j r e => by cases e; exact fun c z H => rv_int c z H _
theorem or_lt : OpR X (compareOp .Lt) (Rd2 (ct X) opLt) := opR_int0 op_lt fun i j r e => by cases e; exact fun c z H => rv_bl c z H _
theorem or_le : OpR X (compareOp .LtE) (Rd2 (ct X) opLe) := opR_int0 op_le fun i j r e => by cases e; exact fun c z H => rv_bl c z H _
theorem or_gt : OpR X (compareOp .Gt) (Rd2 (ct X) opGt) := opR_int0 op_gt fun i j r e => by cases e; exact fun c z H => rv_bl c z H _
theorem or_ge : OpR X (compareOp .GtE) (Rd2 (ct X) opGe) := opR_int0 op_ge fun i j r e => by cases e; exact fun c z H => rv_bl c z H _
theorem or_fdiv : OpR X (binaryOp .FloorDiv) (Rd2 (ct X) opFdiv) :=
  opR_int (C := fun _ j => j ≠ 0 ∧ j.natAbs.log2 < 9000) (g := fun i j => .int (i.fdiv j)) (opI fun _ _ _ _ _ _ _ hc q => PyProof.Rows.floordiv_int hc.1 q (.inl (PyProof.noPylong_of_log2 hc.2))) fun i j r e => by
    split at e
    · rename_i h; cases e; exact ⟨h, fun c z H => rv_int c z H _⟩
    · cases e
theorem or_mod : OpR X (binaryOp .Mod) (Rd2 (ct X) opMod) :=
  opR_int (C := fun _ j => j ≠ 0) (g := fun i j => .int (i.fmod j)) op_modN fun i j r e => by
    split at e
    · rename_i h; cases e; exact ⟨h, fun c z H => rv_int c z H _⟩
    · cases e
theorem or_pow : OpR X (binaryOp .Pow) (Rd2 (ct X) opPow) :=
  opR_int (C := CPow) (g := fun i j => .int (i ^ j.toNat)) op_pow fun i j r e => by
    split at e
    · rename_i h; cases e; exact ⟨h, fun c z H => rv_int c z H _⟩
    · cases e
/-- new frozen data -/
theorem new_lst {c : Ct} {g : Gh} {h : VH} {H : Hp} {p : Addr} {xs : List VV} {us : List V} (rh : RH c g h H) (hp : H p = none) (rv : RVs c g.fz H xs us) :
    Stp g H (g.frz p) (upd H p (.lst us)) ∧ RH c (g.frz p) h (upd H p (.lst us)) ∧ RT c (g.frz p) (upd H p (.lst us)) (.lst xs) (.ref p) := by
  refine ⟨.new rh hp, rh.new hp, ?_⟩
  show RV _ _ _ _ _
  rw [RV]
  exact ⟨p, us, rfl, .inr rfl, upd_same, (Stp.new rh hp).rvs rv⟩
/-- () + t -/
theorem op_catT0 : OpR X (binaryOp .Add) (fun x y H Q => ∃ a b ys, x = .ref a ∧ y = .ref b ∧ SqT X.K H a [] ∧ SqT X.K H b ys ∧ Q (.ref b) H) := by
  intro pins s σ H x y v u Q I rx ry h
  obtain ⟨a, b, ys, e1, e2, ha, hb, q⟩ := h
  subst e1; subst e2
  cases rx
  cases ry
  obtain ⟨its, r, ht, hz⟩ := I.tuple ha
  obtain ⟨its2, r2, ht2, hz2⟩ := I.tuple hb
  have e0 : its = [] := by cases r; rfl
  subst e0
  obtain ⟨⟨cls, dd, data, sl⟩, ho, hc, n, hd⟩ := id ht
  obtain ⟨⟨cls2, dd2, data2, sl2⟩, ho2, hc2, n2, hd2⟩ := id ht2
  simp only at hc hd hc2 hd2
  subst hc hd hc2 hd2
  exact PySem.concat_meets ⟨_, ho, rfl⟩ ⟨_, ho2, rfl⟩ noFill_tuple_add seq_tuple_add PySem.F.slot_tuple_add PySem.F.entry_tuple_add (PySem.F.args_tuple_add_2 _ _)
      (PyProof.Rows.tuple_addW0 a b (([] : List Value).toArray) its2.toArray n n2 dd dd2 sl sl2 (by simp)) ⟨ho, ho2, ⟨.ref b, H, I, rfl, q⟩⟩
theorem or_add : OpR X (binaryOp .Add) (Rd2 (ct X) opAdd) :=
  OpR.imp (OpR.or op_add (OpR.or op_add_str (OpR.or op_catT (OpR.or op_cat op_catT0)))) fun x y H Q ⟨g, h, v, w, r, rh, rv, rw', e, k⟩ => by
    unfold opAdd at e
    split at e
    · cases e
      exact .inl ⟨_, _, int_get rv, int_get rw', k g H _ .refl rh rt_int⟩
    · split at e
      · rename_i hl
        cases e
        exact .inr (.inl ⟨_, _, str_get rv, str_get rw', SZ_le hl, k g H _ .refl rh rt_str⟩)
      · cases e
    · split at e
      · rename_i xs ys hl
        cases e
        obtain ⟨p, us, ep, sp, rp⟩ := tup_get rv
        obtain ⟨q, ws, eq, sq, rq⟩ := tup_get rw'
        by_cases hx : us = []
        · subst hx
          have hx' : xs = [] := List.length_eq_zero_iff.mp rp.len
          subst hx'
          exact .inr (.inr (.inr (.inr ⟨p, q, ws, ep, eq, sp.sq, sq.sq, by rw [← eq]; exact k g H y .refl rh (by rw [List.nil_append]; exact rw')⟩)))
        · refine .inr (.inr (.inl ⟨p, q, us, ws, ep, eq, sp.sq, sq.sq, hx, by rw [← rp.len, ← rq.len]; exact SZ_le hl, fun z => ?_, fun _ p hp => ?_⟩))
          · subst z
            have hy' : ys = [] := List.length_eq_zero_iff.mp rq.len
            subst hy'
            rw [← ep]
            exact k g H x .refl rh (by rw [List.append_nil]; exact rv)
          · obtain ⟨s1, s2, s3⟩ := pair_new rh hp (RVs.app rp rq)
            exact k _ _ _ s1 s2 s3
      · cases e
    · split at e
      · rename_i hl
        cases e
        obtain ⟨p, us, ep, sp, rp⟩ := lstOf'_get rh rv rfl
        obtain ⟨q, ws, eq, sq, rq⟩ := lstOf'_get rh rw' rfl
        refine .inr (.inr (.inr (.inl ⟨p, q, us, ws, ep, eq, sp, sq, by rw [← rp.len, ← rq.len]; exact SZ_le hl, fun p hp => ?_⟩)))
        obtain ⟨s1, s2, s3⟩ := new_lst rh hp (RVs.app rp rq)
        exact k _ _ _ s1 s2 s3
      · cases e
    · cases e
theorem RVs.rep {c : Ct} {z : Addr → Prop} {H : Hp} {xs : List VV} {us : List V} (r : RVs c z H xs us) : ∀ n : Nat, RVs c z H (List.replicate n xs).flatten (List.replicate n us).flatten
  | 0 => RVs.nil
  | n + 1 => by
    rw [List.replicate_succ, List.replicate_succ, List.flatten_cons, List.flatten_cons]
    exact RVs.app r (RVs.rep r n)
theorem mulOk_ok {i j : Int} (h : mulOk i j = true) : IntMulOk i j := by
  unfold mulOk at h
  rw [Bool.or_eq_true, Bool.or_eq_true] at h
  rcases h with (h | h) | h
  · have := of_decide_eq_true h
    exact IntMulOk.of_left (intBits_le_64 (by omega) (by omega))
  · have := of_decide_eq_true h
    exact IntMulOk.of_right (intBits_le_64 (by omega) (by omega))
  · exact CMulW.ok (show CMulW i j from of_decide_eq_true (p := i.natAbs.log2 + j.natAbs.log2 < 1000000) h)
theorem or_mul : OpR X (binaryOp .Mult) (Rd2 (ct X) opMul) :=
  OpR.imp (OpR.or (opI (C := fun i j => mulOk i j = true) (g := fun i j => i * j) fun _ _ _ _ _ _ _ hc q => PyProof.Rows.mul_int q (mulOk_ok hc)) op_rep) fun x y H Q ⟨g, h, v, w, r, rh, rv, rw', e, k⟩ => by
    unfold opMul at e
    split at e
    · split at e
      · rename_i hm
        cases e
        exact .inl ⟨_, _, int_get rv, int_get rw', hm, k g H _ .refl rh rt_int⟩
      · cases e
    · split at e
      · rename_i hl
        cases e
        obtain ⟨p, us, ep, sp, rp⟩ := lstOf'_get rh rv rfl
        refine .inr ⟨p, _, us, ep, int_get rw', sp, hl.1, hl.2.1, by rw [← rp.len]; exact SZ_le hl.2.2, fun p hp => ?_⟩
        obtain ⟨s1, s2, s3⟩ := new_lst rh hp (RVs.rep rp _)
        exact k _ _ _ s1 s2 s3
      · cases e
    · cases e
/-! places -/
def opIx : Op2 := fun h v w => match v, w with
  | .tup xs, .int i => atI xs i
  | .str z, .int i => if z.length ≤ SZ then (atI z.cps.toList i).map fun c => .str ⟨#[c]⟩ else none
  | v, .int i => (lstR h v).bind fun xs => atI xs i
  | _, _ => none
theorem atI_rv {c : Ct} {z : Addr → Prop} {H : Hp} {xs : List VV} {us : List V} {i : Int} {v : VV} (r : RVs c z H xs us) (e : atI xs i = some v) : ∃ u, atI us i = some u ∧ RV c z H v u := by
  unfold atI at e ⊢
  rw [← r.len]
  cases q : ixN xs.length i with
  | none => rw [q] at e; cases e
  | some j => rw [q] at e; exact r.get e
theorem RTs.get {c : Ct} {g : Gh} {H : Hp} : ∀ {vs : List VV} {us : List V} {i : Nat} {v : VV}, RTs c g H vs us → vs[i]? = some v → ∃ u, us[i]? = some u ∧ RT c g H v u
  | [], us, i, v, h, e => by simp at e
  | x :: xs, us, i, v, h, e => by
    obtain ⟨u, r, rfl, a, b⟩ := h
    cases i with
    | zero => simp at e; subst e; exact ⟨u, rfl, a⟩
    | succ i => exact RTs.get (i := i) b (by simpa using e)
theorem atI_rt {c : Ct} {g : Gh} {H : Hp} {xs : List VV} {us : List V} {i : Int} {v : VV} (r : RTs c g H xs us) (e : atI xs i = some v) : ∃ u, atI us i = some u ∧ RT c g H v u := by
  unfold atI at e ⊢
  rw [← r.len]
  cases q : ixN xs.length i with
  | none => rw [q] at e; cases e
  | some j => rw [q] at e; exact r.get e
theorem ir_ix : IxR X (Rd2 (ct X) opIx) :=
  IxR.imp ix_seq fun x y H Q ⟨g, h, v, w, r, rh, rv, rw', e, k⟩ => by
    unfold opIx at e
    split at e
    · rename_i xs i
      obtain ⟨p, us, ep, sp, rp⟩ := tup_get rv
      obtain ⟨u, eu, ru⟩ := atI_rv rp e
      exact .inr (.inl ⟨p, us, i, u, ep, int_get rw', sp.sq, eu, k g H u .refl rh (RT.of_rv ru)⟩)
    · rename_i z i
      split at e
      · rename_i hz
        cases q : atI z.cps.toList i with
        | none => rw [q] at e; cases e
        | some cc =>
          rw [q] at e
          cases e
          exact .inr (.inr ⟨z, i, cc, str_get rv, int_get rw', SZ_le hz, q, k g H _ .refl rh rt_str⟩)
      · cases e
    · rename_i v i _ _
      obtain ⟨xs, e1, e2⟩ := Option.bind_eq_some_iff.mp e
      obtain ⟨p, us, ep, sp, rp⟩ := lstR_get rh rv e1
      obtain ⟨u, eu, ru⟩ := atI_rt rp e2
      exact .inl ⟨p, us, i, u, ep, int_get rw', sp, eu, k g H u .refl rh ru⟩
    · cases e
/-! slices: data -/
abbrev POF := VSt → VH → Res (Option Int)
def RO_ (_ : Gh) (_ : Hp) (a b : Option Int) : Prop := b = a
abbrev tO (c : Ct) (W : WX) (f : POF) : TO := tG c W RO_ f
def oNone : POF := fun _ h => .ok none h
def oSome (a : EF) : POF := fun ρ h => (a ρ h).bind fun v h1 => match v with
  | .int i => .ok (some i) h1
  | _ => .no
theorem PO.mono {e : Option Expr} {t t' : TO} (h : PO X e t) (m : ∀ σ H Q, t' σ H Q → t σ H Q) : PO X e t' := ⟨fun pins s σ H Q I q => h.run pins s σ H Q I (m σ H Q q)⟩
theorem jo_none : PO X none (tO (ct X) W oNone) := PO.mono po_none fun σ H Q ⟨g, ρ, h, rh, rs, p⟩ => p g H none .refl rh rfl
theorem jo_some {e : Expr} {f : EF} (h : PE X e (tE (ct X) W f)) : PO X (some e) (tO (ct X) W (oSome f)) :=
  PO.mono (po_some h) fun σ H Q ⟨g, ρ, h0, rh, rs, p⟩ => by
    refine ⟨g, ρ, h0, rh, rs, (Pst.bind (R := RT (ct X)) p).imp fun u H1 ⟨g1, v, h1, st, rh1, rv1, p1⟩ => ?_⟩
    cases v with
    | int i => exact ⟨i, int_get rv1, p1 g1 H1 _ .refl rh1 rfl⟩
    | _ => exact p1.elim
def cut (xs : List VV) (lo hi : Option Int) : List VV := (xs.drop (HT.sIx xs.length 0 lo)).take (HT.sIx xs.length xs.length hi - HT.sIx xs.length 0 lo)
theorem RVs.cut {c : Ct} {z : Addr → Prop} {H : Hp} {xs : List VV} {us : List V} (r : RVs c z H xs us) (lo hi : Option Int) : RVs c z H (J.cut xs lo hi) (cutV us lo hi) := by
  unfold J.cut cutV
  rw [r.len]
  exact RVs.take _ (RVs.drop _ r)
abbrev OpS := VH → VV → Option Int → Option Int → Option VV
def opSl : OpS := fun h v lo hi => match v with
  | .tup xs => some (.tup (cut xs lo hi))
  | .str z => if z.length ≤ SZ then some (.str (cutS z lo hi)) else none
  | v => (lstOf h v).map fun xs => .lst (cut xs lo hi)
def eSl (op : OpS) (a : EF) (lo hi : POF) : EF := fun ρ h => (a ρ h).bind fun v h1 => (lo ρ h1).bind fun l h2 => (hi ρ h2).bind fun u h3 => lift (op h3 v l u) h3
theorem j_sl {e : Expr} {lo hi : Option Expr} {p2 pos : Pos} {fe : EF} {fl fh : POF} (he : PE X e (tE (ct X) W fe)) (hl : PO X lo (tO (ct X) W fl)) (hu : PO X hi (tO (ct X) W fh)) : PE X (.Subscript e (.Slice lo hi none p2) pos) (tE (ct X) W (eSl opSl fe fl fh)) :=
  PE.mono (pe_slice (SlR.or sl_list (SlR.or sl_tupA sl_str)) he hl hu) fun σ H Q ⟨g, ρ, h0, rh, rs, p⟩ => by
    refine ⟨g, ρ, h0, rh, rs, (Pst.bind (R := RT (ct X)) p).imp fun u H1 ⟨g1, v, h1, st, rh1, rv1, p1⟩ => ?_⟩
    refine ⟨g1, ρ, h1, rh1, rs.stp st, (Pst.bind (R := RO_) p1).imp fun l H2 ⟨g2, l', h2, st2, rh2, el, p2⟩ => ?_⟩
    cases el
    refine ⟨g2, ρ, h2, rh2, (rs.stp st).stp st2, (Pst.bind (R := RO_) p2).imp fun l2 H3 ⟨g3, l2', h3, st3, rh3, el2, p3⟩ => ?_⟩
    cases el2
    have rv3 := (rv1.stp st2).stp st3
    unfold lift at p3
    cases er : opSl h3 v l l2 with
    | none => rw [er] at p3; exact p3.elim
    | some r =>
      rw [er] at p3
      unfold opSl at er
      split at er
      · cases er
        obtain ⟨p, us, ep, sp, rp⟩ := tup_get rv3
        refine .inr (.inl ⟨p, us, ep, sp.sq, fun hw => ?_, fun hne p hp => ?_⟩)
        · rw [← rp.len] at hw
          unfold J.cut at p3
          rw [hw.1, hw.2, List.drop_zero, Nat.sub_zero, List.take_length] at p3
          rw [← ep]
          exact p3 g3 H3 _ .refl rh3 rv3
        · obtain ⟨s1, s2, s3⟩ := pair_new rh3 hp (RVs.cut rp l l2)
          exact p3 _ _ _ s1 s2 s3
      · split at er
        · rename_i hz
          cases er
          exact .inr (.inr ⟨_, str_get rv3, SZ_le hz, p3 g3 H3 _ .refl rh3 rt_str⟩)
        · cases er
      · obtain ⟨xs, e1, e2⟩ := Option.map_eq_some_iff.mp er
        cases e2
        obtain ⟨p, us, ep, sp, rp⟩ := lstOf_get rh3 rv3 e1
        refine .inl ⟨p, us, ep, sp, fun p hp => ?_⟩
        obtain ⟨s1, s2, s3⟩ := new_lst rh3 hp (RVs.cut rp l l2)
        exact p3 _ _ _ s1 s2 s3
/-! == of data -/
mutual
def toD : VV → PyData
  | .non => .none
  | .bl b => .bool b
  | .int i => .int i
  | .str x => .str x
  | .tup xs => .tuple (toDs xs)
  | .lst xs => .list (toDs xs)
  | _ => .none
def toDs : List VV → List PyData
  | [] => []
  | x :: xs => toD x :: toDs xs
end
mutual
def isD : VV → Bool
  | .non => true
  | .bl _ => true
  | .int _ => true
  | .str _ => true
  | .tup xs => isDs xs
  | .lst xs => isDs xs
  | _ => false
def isDs : List VV → Bool
  | [] => true
  | x :: xs => isD x && isDs xs
end
mutual
theorem dp_of {c : Ct} {z : Addr → Prop} {H : Hp} : ∀ (v : VV) (u : V), RV c z H v u → isD v = true → Dp c.K H u (toD v)
  | .non, u, r, _ => by rw [RV] at r; subst r; rw [toD]; exact .non
  | .bl b, u, r, _ => by rw [RV] at r; subst r; rw [toD]; exact .bl b
  | .int b, u, r, _ => by rw [RV] at r; subst r; rw [toD]; exact .int b
  | .str b, u, r, _ => by rw [RV] at r; subst r; rw [toD]; exact .str b
  | .tup xs, u, r, d => by
    rw [RV] at r
    obtain ⟨p, us, e, t, q⟩ := r
    subst e
    rw [toD]
    rw [isD] at d
    exact .tup t.sq (dps_of xs us q d)
  | .lst xs, u, r, d => by
    rw [RV] at r
    obtain ⟨p, us, e, _, t, q⟩ := r
    subst e
    rw [toD]
    rw [isD] at d
    exact .lst (SqL.of t) (dps_of xs us q d)
  | .scr _, _, _, d => by rw [isD] at d <;> first | exact (Bool.false_ne_true d).elim | simp
  | .dT _ _, _, _, d => by rw [isD] at d <;> first | exact (Bool.false_ne_true d).elim | simp
  | .dK _ _, _, _, d => by rw [isD] at d <;> first | exact (Bool.false_ne_true d).elim | simp
  | .ins _ _ _, _, _, d => by rw [isD] at d <;> first | exact (Bool.false_ne_true d).elim | simp
  | .obj _, _, _, d => by rw [isD] at d <;> first | exact (Bool.false_ne_true d).elim | simp
  | .glb _, _, _, d => by rw [isD] at d <;> first | exact (Bool.false_ne_true d).elim | simp
  | .ty _, _, _, d => by rw [isD] at d <;> first | exact (Bool.false_ne_true d).elim | simp
theorem dps_of {c : Ct} {z : Addr → Prop} {H : Hp} : ∀ (vs : List VV) (us : List V), RVs c z H vs us → isDs vs = true → DpAll c.K H us (toDs vs)
  | [], us, r, _ => by rw [RVs] at r; subst r; rw [toDs]; exact .nil
  | x :: xs, us, r, d => by
    rw [RVs] at r
    obtain ⟨u, q, e, a, b⟩ := r
    subst e
    rw [isDs, Bool.and_eq_true] at d
    rw [toDs]
    exact .cons (dp_of x u a d.1) (dps_of xs q b d.2)
end
theorem noObj {v : VV} (h : isD v = true) : v.isObj = false := by
  cases v with
  | obj n => simp [isD] at h
  | _ => rfl
/-- == : scalars of one kind, else data -/
def eqD (v w : VV) : Option Bool := match v, w with
  | .int i, .int j => some (decide (i = j))
  | .str i, .str j => some (decide (i = j))
  | .bl i, .bl j => some (decide (i = j))
  | v, w => if isD v = true ∧ isD w = true ∧ SeqAt.shaped (toD v) = true ∧ SeqAt.shaped (toD w) = true then some (PyData.eqv (toD v) (toD w)) else none
def opEq : Op2 := fun _ v w => (eqD v w).map .bl
def opNe : Op2 := fun _ v w => (eqD v w).map fun b => .bl (!b)
theorem eqD_cases {c : Ct} {g : Gh} {H : Hp} {v w : VV} {x y : V} {b : Bool} (rv : RT c g H v x) (rw' : RT c g H w y) (e : eqD v w = some b) :
    (scal x y = true ∧ decide (x = y) = b) ∨ ∃ d e, Dp c.K H x d ∧ Dp c.K H y e ∧ SeqAt.shaped d = true ∧ SeqAt.shaped e = true ∧ PyData.eqv d e = b := by
  unfold eqD at e
  split at e
  · cases e
    rw [int_get rv, int_get rw']
    exact .inl ⟨rfl, by rw [dec_int, Bool.beq_eq_decide_eq]⟩
  · cases e
    rw [str_get rv, str_get rw']
    exact .inl ⟨rfl, by rw [dec_str, Bool.beq_eq_decide_eq]⟩
  · cases e
    rw [bl_get rv, bl_get rw']
    exact .inl ⟨rfl, by rw [dec_bl, Bool.beq_eq_decide_eq]⟩
  · split at e
    · rename_i hd
      cases e
      have n1 : v.isObj = false := noObj hd.1
      have n2 : w.isObj = false := noObj hd.2.1
      exact .inr ⟨_, _, dp_of _ _ (rv.rv n1) hd.1, dp_of _ _ (rw'.rv n2) hd.2.1, hd.2.2.1, hd.2.2.2, rfl⟩
    · cases e
theorem or_eq {k : Nat} (hr : Room k X.A) : OpR X (compareOp .Eq) (Rd2 (ct X) opEq) :=
  OpR.imp (OpR.or op_eq (op_eqD hr.units)) fun x y H Q ⟨g, h, v, w, r, rh, rv, rw', e, kk⟩ => by
    obtain ⟨b, e1, e2⟩ := Option.map_eq_some_iff.mp e
    cases e2
    rcases eqD_cases rv rw' e1 with ⟨q1, q2⟩ | ⟨d, e, q1, q2, q3, q4, q5⟩
    · exact .inl ⟨q1, by rw [q2]; exact kk g H _ .refl rh rt_bl⟩
    · exact .inr ⟨d, e, q1, q2, q3, q4, by rw [q5]; exact kk g H _ .refl rh rt_bl⟩
theorem or_ne {k : Nat} (hr : Room k X.A) : OpR X (compareOp .NotEq) (Rd2 (ct X) opNe) :=
  OpR.imp (OpR.or op_ne (op_neD hr.units)) fun x y H Q ⟨g, h, v, w, r, rh, rv, rw', e, kk⟩ => by
    obtain ⟨b, e1, e2⟩ := Option.map_eq_some_iff.mp e
    cases e2
    rcases eqD_cases rv rw' e1 with ⟨q1, q2⟩ | ⟨d, e, q1, q2, q3, q4, q5⟩
    · exact .inl ⟨q1, by rw [q2]; exact kk g H _ .refl rh rt_bl⟩
    · exact .inr ⟨d, e, q1, q2, q3, q4, by rw [q5]; exact kk g H _ .refl rh rt_bl⟩
/-- is None -/
def opIsN : Op2 := fun _ v w => match v, w with
  | .non, .non => some (.bl true)
  | v, .non => if v.isObj = true then none else some (.bl false)
  | _, _ => none
def opNotN : Op2 := fun _ v w => match v, w with
  | .non, .non => some (.bl false)
  | v, .non => if v.isObj = true then none else some (.bl true)
  | _, _ => none
theorem non_dec {c : Ct} {g : Gh} {H : Hp} {v : VV} {u : V} (rv : RT c g H v u) (no : v.isObj = false) (nn : v ≠ .non) : decide (u = V.non) = false := by
  have r := rv.rv no
  refine decide_eq_false fun z => ?_
  subst z
  cases v with
  | non => exact nn rfl
  | bl b => rw [RV] at r; cases r
  | int b => rw [RV] at r; cases r
  | str b => rw [RV] at r; cases r
  | tup xs => rw [RV] at r; obtain ⟨p, us, e, _⟩ := r; cases e
  | lst xs => rw [RV] at r; obtain ⟨p, us, e, _⟩ := r; cases e
  | scr xs => rw [RV] at r; obtain ⟨p, us, e, _⟩ := r; cases e
  | dT ks xs => rw [RV] at r; obtain ⟨p, us, e, _⟩ := r; cases e
  | dK ks xs => rw [RV] at r; obtain ⟨p, us, e, _⟩ := r; cases e
  | ins a ks xs => rw [RV] at r; obtain ⟨p, C, dx, us, e, _⟩ := r; cases e
  | obj n => cases no
  | glb x => rw [RV] at r; obtain ⟨a, _, e⟩ := r; cases e
  | ty n => rw [RV] at r; cases r
  | raw n => rw [RV] at r; cases r
theorem or_isN : OpR X (compareOp .Is) (Rd2 (ct X) opIsN) :=
  OpR.imp op_isN fun x y H Q ⟨g, h, v, w, r, rh, rv, rw', e, kk⟩ => by
    unfold opIsN at e
    split at e
    · cases e
      refine ⟨non_get rw', ?_⟩
      rw [non_get rv]
      exact kk g H _ .refl rh rt_bl
    · split at e
      · cases e
      · rename_i nv no
        cases e
        refine ⟨non_get rw', ?_⟩
        rw [non_dec rv (by simpa using no) (fun z => nv z)]
        exact kk g H _ .refl rh rt_bl
    · cases e
/-! calls of built-ins -/
def cLen : OpN := fun h vs => match vs with
  | [.tup xs] => some (.int xs.length)
  | [.str z] => if z.length ≤ SZ then some (.int z.length) else none
  | [v] => (lstR h v).map fun xs => .int xs.length
  | _ => none
theorem cr_len : CallR X (.builtin "len") (RdN (ct X) cLen) :=
  CallR.imp (CallR.or call_len_seq call_len_str) fun xs H Q ⟨g, h, vs, r, rh, rv, e, kk⟩ => by
    unfold cLen at e
    split at e
    · cases e
      obtain ⟨u, q, rfl, a, rfl⟩ := rv
      obtain ⟨p, us, ep, sp, rp⟩ := tup_get a
      exact .inl ⟨p, us, by rw [ep], .inr sp.sq, by rw [← rp.len]; exact kk g H _ .refl rh rt_int⟩
    · split at e
      · rename_i hz
        cases e
        obtain ⟨u, q, rfl, a, rfl⟩ := rv
        exact .inr ⟨_, by rw [str_get a], SZ_le hz, kk g H _ .refl rh rt_int⟩
      · cases e
    · obtain ⟨ys, e1, e2⟩ := Option.map_eq_some_iff.mp e
      cases e2
      obtain ⟨u, q, rfl, a, rfl⟩ := rv
      obtain ⟨p, us, ep, sp, rp⟩ := lstR_get rh a e1
      exact .inl ⟨p, us, by rw [ep], .inl sp, by rw [← rp.len]; exact kk g H _ .refl rh rt_int⟩
    · cases e
def intsOf : List VV → Option (List Int)
  | [] => some []
  | .int i :: xs => (intsOf xs).map fun l => i :: l
  | _ => none
def blsOf : List VV → Option (List Bool)
  | [] => some []
  | .bl i :: xs => (blsOf xs).map fun l => i :: l
  | _ => none
def strsOf : List VV → Option (List Str)
  | [] => some []
  | .str i :: xs => (strsOf xs).map fun l => i :: l
  | _ => none
theorem intsOf_rv {c : Ct} {z : Addr → Prop} {H : Hp} : ∀ {vs : List VV} {us : List V} {ns : List Int}, RVs c z H vs us → intsOf vs = some ns → us = ns.map V.int
  | [], us, ns, r, e => by cases e; rw [RVs] at r; exact r
  | x :: xs, us, ns, r, e => by
    rw [RVs] at r
    obtain ⟨u, q, rfl, a, b⟩ := r
    cases x with
    | int i =>
      rw [intsOf] at e
      obtain ⟨l, e1, rfl⟩ := Option.map_eq_some_iff.mp e
      rw [RV] at a
      rw [a, intsOf_rv b e1]; rfl
    | _ => simp [intsOf] at e
theorem blsOf_rv {c : Ct} {z : Addr → Prop} {H : Hp} : ∀ {vs : List VV} {us : List V} {ns : List Bool}, RVs c z H vs us → blsOf vs = some ns → us = ns.map V.bl
  | [], us, ns, r, e => by cases e; rw [RVs] at r; exact r
  | x :: xs, us, ns, r, e => by
    rw [RVs] at r
    obtain ⟨u, q, rfl, a, b⟩ := r
    cases x with
    | bl i =>
      rw [blsOf] at e
      obtain ⟨l, e1, rfl⟩ := Option.map_eq_some_iff.mp e
      rw [RV] at a
      rw [a, blsOf_rv b e1]; rfl
    | _ => simp [blsOf] at e
theorem strsOf_rv {c : Ct} {z : Addr → Prop} {H : Hp} : ∀ {vs : List VV} {us : List V} {ns : List Str}, RVs c z H vs us → strsOf vs = some ns → us = ns.map V.str
  | [], us, ns, r, e => by cases e; rw [RVs] at r; exact r
  | x :: xs, us, ns, r, e => by
    rw [RVs] at r
    obtain ⟨u, q, rfl, a, b⟩ := r
    cases x with
    | str i =>
      rw [strsOf] at e
      obtain ⟨l, e1, rfl⟩ := Option.map_eq_some_iff.mp e
      rw [RV] at a
      rw [a, strsOf_rv b e1]; rfl
    | _ => simp [strsOf] at e
def cAll : OpN := fun h vs => match vs with
  | [v] => (lstOf h v).bind fun xs => (blsOf xs).map fun ns => .bl (ns.all id)
  | _ => none
theorem cr_allJ (hc : X.calm = true) : CallR X (.builtin "all") (RdN (ct X) cAll) :=
  CallR.imp (cr_all hc) fun xs H Q ⟨g, h, vs, r, rh, rv, e, kk⟩ => by
    unfold cAll at e
    split at e
    · obtain ⟨ys, e1, e2⟩ := Option.bind_eq_some_iff.mp e
      obtain ⟨ns, e3, e4⟩ := Option.map_eq_some_iff.mp e2
      cases e4
      obtain ⟨u, q, rfl, a, rfl⟩ := rv
      obtain ⟨p, us, ep, sp, rp⟩ := lstOf_get rh a e1
      exact ⟨p, ns, by rw [ep], by rw [← blsOf_rv rp e3]; exact sp, kk g H _ .refl rh rt_bl⟩
    · cases e
/-- list(..), tuple(..): data -/
def cList : OpN := fun h vs => match vs with
  | [.tup xs] => some (.lst xs)
  | [v] => (lstOf h v).map fun xs => .lst xs
  | _ => none
theorem cr_listJ : CallR X (.type "list") (RdN (ct X) cList) :=
  CallR.imp call_list_of fun xs H Q ⟨g, h, vs, r, rh, rv, e, kk⟩ => by
    unfold cList at e
    split at e
    · cases e
      obtain ⟨u, q, rfl, a, rfl⟩ := rv
      obtain ⟨p, us, ep, sp, rp⟩ := tup_get a
      refine ⟨p, us, by rw [ep], .inr sp.sq, fun l hl => ?_⟩
      obtain ⟨s1, s2, s3⟩ := new_lst rh hl rp
      exact kk _ _ _ s1 s2 s3
    · obtain ⟨ys, e1, e2⟩ := Option.map_eq_some_iff.mp e
      cases e2
      obtain ⟨u, q, rfl, a, rfl⟩ := rv
      obtain ⟨p, us, ep, sp, rp⟩ := lstOf_get rh a e1
      refine ⟨p, us, by rw [ep], .inl sp, fun l hl => ?_⟩
      obtain ⟨s1, s2, s3⟩ := new_lst rh hl rp
      exact kk _ _ _ s1 s2 s3
    · cases e
def cTuple : OpN := fun h vs => match vs with
  | [.tup xs] => some (.tup xs)
  | [v] => (lstOf h v).map fun xs => .tup xs
  | _ => none
theorem cr_tupleJ : CallR X (.type "tuple") (RdN (ct X) cTuple) :=
  CallR.imp call_tuple_of fun xs H Q ⟨g, h, vs, r, rh, rv, e, kk⟩ => by
    unfold cTuple at e
    split at e
    · cases e
      obtain ⟨u, q, rfl, a, rfl⟩ := rv
      obtain ⟨p, us, ep, sp, rp⟩ := tup_get a
      exact ⟨p, us, by rw [ep], .inr ⟨sp.sq, by rw [← ep]; exact kk g H u .refl rh a⟩⟩
    · obtain ⟨ys, e1, e2⟩ := Option.map_eq_some_iff.mp e
      cases e2
      obtain ⟨u, q, rfl, a, rfl⟩ := rv
      obtain ⟨p, us, ep, sp, rp⟩ := lstOf_get rh a e1
      refine ⟨p, us, by rw [ep], .inl ⟨sp, fun l hl => ?_⟩⟩
      obtain ⟨s1, s2, s3⟩ := pair_new rh hl rp
      exact kk _ _ _ s1 s2 s3
    · cases e
/-- isinstance(x, T), T a built-in type, x data -/
def tyN (h : VH) : VV → Option String
  | .non => some "NoneType"
  | .bl _ => some "bool"
  | .int _ => some "int"
  | .str _ => some "str"
  | .tup _ => some "tuple"
  | .lst _ => some "list"
  | .obj n => match h[n]? with
    | some (.fl _) => some "list"
    | some (.fzn (.lst _)) => some "list"
    | _ => none
  | _ => none
theorem tyX_of {c : Ct} {g : Gh} {h : VH} {H : Hp} {v : VV} {u : V} {n : String} (rh : RH c g h H) (rv : RT c g H v u) (e : tyN h v = some n) : TyX c.K H u (.type n) := by
  cases v with
  | non => cases e; rw [non_get rv]; exact .base .non
  | bl b => cases e; rw [bl_get rv]; exact .base (.bl b)
  | int b => cases e; rw [int_get rv]; exact .base (.int b)
  | str b => cases e; rw [str_get rv]; exact .base (.str b)
  | tup xs =>
    cases e
    obtain ⟨p, us, ep, sp, rp⟩ := tup_get rv
    rw [ep]
    exact .base (.tup sp)
  | lst xs =>
    cases e
    obtain ⟨p, us, ep, sp, rp⟩ := lstOf'_get (xs := xs) rh rv rfl
    rw [ep]
    exact .base (.lst sp)
  | obj m =>
    unfold tyN at e
    simp only at e
    split at e
    · rename_i xs en
      cases e
      obtain ⟨p, us, ep, sp, rp⟩ := lstOf'_get (xs := xs) rh rv (by unfold lstOf'; simp only [en])
      rw [ep]
      exact .base (.lst sp)
    · rename_i xs en
      cases e
      obtain ⟨p, us, ep, sp, rp⟩ := lstOf'_get (xs := xs) rh rv (by unfold lstOf'; simp only [en])
      rw [ep]
      exact .base (.lst sp)
    · cases e
  | _ => cases e
def cIsi : OpN := fun h vs => match vs with
  | [v, .ty b] => (tyN h v).bind fun a => (kitB a b).map .bl
  | _ => none
theorem cr_isi : CallR X (.builtin "isinstance") (RdN (ct X) cIsi) :=
  CallR.imp call_isi fun xs H Q ⟨g, h, vs, r, rh, rv, e, kk⟩ => by
    unfold cIsi at e
    split at e
    · obtain ⟨n, e1, e2⟩ := Option.bind_eq_some_iff.mp e
      obtain ⟨b, e3, e4⟩ := Option.map_eq_some_iff.mp e2
      cases e4
      obtain ⟨u, q, rfl, a, u2, q2, rfl, a2, rfl⟩ := rv
      exact ⟨u, u2, _, _, b, rfl, by rw [ty_get a2]; exact .ty _, tyX_of rh a e1, kit_ty e3, kk g H _ .refl rh rt_bl⟩
    · cases e
end
end J
namespace J
open PySem L2
theorem fn_no {P : Program} {w : World} {K : PySem.W.Frag} {mg : Str → Option Value} {base : Heap} {CX : CXT} {k n : Nat} {f : Addr} {fd : FuncData} {ps : List Str} {c : Ct} (hn : ps.length = n) : FnOk P w K mg base CX k f fd ps (spF c n (fun _ _ => .no)) :=
  ⟨fun vs H Q E h => by obtain ⟨_, _, _, _, _, _, p⟩ := h; exact p.elim, fun A outer s H args us vs Q E hr e0 hb r hsp => by obtain ⟨_, _, _, _, _, _, p⟩ := hsp; exact p.elim⟩
/-- a law's end: its own function gives True at every script -/
theorem law_sp {K : PySem.W.Frag} {mg : Str → Option Value} {F : FF} {H : Hp} {a : Addr} {ns : List Int} (hT : LTab ⟨K, mg⟩ H) (hS : SqL K H a (ns.map V.int)) (hF : ∃ h', F [.scr (ns.map VV.int)] [] = .ok (.bl true) h') :
    spF ⟨K, mg⟩ 1 F [.ref a] H (fun v _ => v = .bl true) fun _ _ _ => False := by
  obtain ⟨h', e⟩ := hF
  have rvs : ∀ (z : Addr → Prop) (l : List Int), RVs ⟨K, mg⟩ z H (l.map VV.int) (l.map V.int) := by
    intro z l
    induction l with
    | nil => exact RVs.nil
    | cons x xs ih => exact RVs.cons (rv_int _ _ _ _) ih
  have fin : ∀ g : Gh, RH ⟨K, mg⟩ g [] H → RT ⟨K, mg⟩ g H (.scr (ns.map VV.int)) (.ref a) → spF ⟨K, mg⟩ 1 F [.ref a] H (fun v _ => v = .bl true) fun _ _ _ => False := by
    intro g rh rt
    refine ⟨g, [.scr (ns.map VV.int)], [], rh, ⟨.ref a, [], rfl, rt, rfl⟩, rfl, ?_⟩
    rw [e]
    exact fun g' H' u st rh' rv => bl_get rv
  rcases hS with hS | hS
  · refine fin ⟨[], fun q => q = a, fun _ => False⟩ ⟨rfl, List.nodup_nil, fun n o a h => by simp at h, fun q z => ?_, fun q z => z.elim, fun q z => z.elim, hT, fun q z ps y => ?_⟩ ?_
    · have z' : q = a := z
      subst z'
      rcases hS with hS | ⟨o, hS⟩
      · exact ⟨_, hS⟩
      · exact ⟨_, hS⟩
    · have z' : q = a := z.elim id (fun z => z.elim)
      subst z'
      rcases hS with hS | ⟨o, hS⟩ <;> (rw [hS] at y; cases y)
    · show RV _ _ _ _ _
      rw [RV]
      exact ⟨a, _, rfl, .inl ⟨rfl, hS⟩, rvs _ _⟩
  · refine fin ⟨[], fun _ => False, fun _ => False⟩ ⟨rfl, List.nodup_nil, fun n o a h => by simp at h, fun q z => z.elim, fun q z => z.elim, fun q z => z.elim, hT, fun q z => z.elim False.elim False.elim⟩ ?_
    show RV _ _ _ _ _
    rw [RV]
    exact ⟨a, _, rfl, .inr hS, rvs _ _⟩
theorem cx_no {P : Program} {w : World} {l : List Env} {H : Hp} {s : Shared} {e : Value} {s' : Shared} (h : L2N.CX P w l H s (fun _ _ _ => False) e s') : False := by
  obtain ⟨_, _, _, _, _, _, _, _, _, _, _, _, z⟩ := h
  exact z.elim
section
variable {X : Cx} {W : WX}
theorem j_globI {x : Str} {i : Int} {pos : Pos} (hg : Gl X x) (h : ∃ t, X.mg x = some (.int i t)) (hd : (x == ("__debug__" : Str)) = false := by decide) : PE X (.Name x pos) (tE (ct X) W (eC (.int i))) := by
  obtain ⟨t, h⟩ := h
  exact j_c (pe_glob (v := .int i) hg h ⟨t, rfl⟩ hd) fun _ _ => rt_int
theorem j_ty {x : Str} {n : String} {pos : Pos} (hg : Gl X x) (hm : X.mg x = none) (hv : bootBuiltins x = some (.type n)) (hn : x ≠ "__name__" := by decide) (hd : (x == ("__debug__" : Str)) = false := by decide) : PE X (.Name x pos) (tE (ct X) W (eC (.ty n))) :=
  j_c (pe_bltn (v := .ty n) hg hm hv rfl hn hd) fun _ _ => rt_ty
theorem jt_chain {o o' : Op2} {op op' : CmpOp} {a b c : Expr} {fa fb fc : EF} {pos : Pos} (ho : OpR X (compareOp op) (Rd2 (ct X) o)) (ho' : OpR X (compareOp op') (Rd2 (ct X) o')) (ha : PE X a (tE (ct X) W fa)) (hb : PE X b (tE (ct X) W fb)) (hc : PE X c (tE (ct X) W fc))
    (hm : lastMarks [op, op'] [b, c] = false := by with_unfolding_all rfl) : PT X (.Compare a [op, op'] [b, c] pos) (tT (ct X) W (tVal (eChain o o' fa fb fc))) :=
  PT.mono (pt_chain ho ho' ha hb hc hm) fun σ H Q h => by
    have := tChain_of (tVal_of h)
    exact this
end
open PyProof.Rows (envOfC)
/-- a def of the text -/
structure Dn (K : PySem.W.Frag) (mg : Str → Option Value) (x : Str) (st : Stmt) (dvs : List V) (kws : List (Str × V)) (f : Addr) (fd : FuncData) : Prop where
  F : FunD K x x (defArgs st) (defBody st) (defScope st) dvs kws f fd
  m : mg x = some (.ref f)
/-- a def that may be called with the last arguments left out (dws in their place) -/
structure Ok1 (P : Program) (w : World) (K : PySem.W.Frag) (mg : Str → Option Value) (base : Heap) (k : Nat) (x : Str) (n : Nat) (dws : List VV) (Fm : FF) : Prop where
  ex : ∃ (f : Addr) (fd : FuncData) (ps : List Str) (dvs : List V) (ds : List Value), mg x = some (.ref f) ∧ PySem.W.keepIn K (.ref f) = true ∧ FnOk P w K mg base (L2N.CX P w) k f fd ps (spF ⟨K, mg⟩ n Fm) ∧ Binds K fd ps ds ∧ Vals dvs ds ∧ ∀ g H, RTs ⟨K, mg⟩ g H dws dvs
section
variable {X : Cx} {W : WX}
theorem j_callO {k n : Nat} {Fm : FF} {dws : List VV} {x : Str} {p pos : Pos} {e : Expr} {es : List Expr} {fa : AF} (O : Ok1 X.prog X.w X.K X.mg X.base k x n dws Fm) (hr : Room k X.A) (hg : Gl X x) (tk : L2N.Takes X W)
    (ha : PA X (e :: es) (tA (ct X) W fa)) (hdb : (x == ("__debug__" : Str)) = false := by decide) (he : starEach (e :: es) X.env = (false, eval e X.env) :: starEach es X.env := by rfl) (hpl : (backTo pos (starEach es X.env)).any (·.1) = false := by rfl) :
    PE X (.Call (.Name x p) (e :: es) [] pos) (tE (ct X) W (eFn n Fm dws fa)) := by
  obtain ⟨f, fd, ps, dvs, ds, h1, h2, h3, h4, h5, h6⟩ := O.ex
  exact j_call h3 hr hg h1 h2 h4 h5 h6 tk ha hdb he hpl
end
section
variable {P : Program} {w : World} {K : PySem.W.Frag} {mg : Str → Option Value} {base : Heap}
/-- every parameter is given -/
theorem ok_of {x : Str} {st : Stmt} {f : Addr} {fd : FuncData} {ps : List Str} {k m : Nat} {Fm : FF} (D : Dn K mg x st [] [] f fd) (hF : FnOk P w K mg base (L2N.CX P w) k f fd ps (spF ⟨K, mg⟩ m Fm))
    (hb : ∀ (kV doc pm : Value) (an : Option Addr) (cdv ct : Value) (us : List Value), us.length = ps.length → bindArgs (PySem.W.fnOf x x (defArgs st) (defBody st) (defScope st) .none kV doc pm an cdv ct) ⟨us, []⟩ = pure (ps.zip us)) :
    Ok1 P w K mg base k x m [] Fm := by
  refine ⟨f, fd, ps, [], [], D.m, D.F.kp, hF, ?_, .nil, fun _ _ => rfl⟩
  obtain ⟨oc, od, dV, kV, doc, pm, an, cdv, ct, osl, e, lk, hcd, hD, _⟩ := D.F.ex
  subst e
  rcases hD with ⟨_, rfl⟩ | ⟨h, _⟩
  · exact .all (hb kV doc pm an cdv ct)
  · exact absurd rfl h
end
end J
namespace J
open PySem L2
/-! evaluation -/
/-- a step that is told, not seen through -/
theorem nr {α : Sort _} {a b : α} (h : a = b) : a = b := h
/-- a mark by which simp leaves a continuation alone -/
def Tg {γ : Type} (_ : γ) : Type := Unit
def tg {γ : Type} (k : γ) : Tg k := ()
section
variable {α β : Type}
def bnd (r : Res α) (k : α → VH → Res β) (_ : Tg k) : Res β := r.bind k
def sbd (r : Res α) (ρ : VSt) (k : α → VH → SR) (_ : Tg k) : SR := r.st ρ k
theorem bind_ok {a : α} {h : VH} {k : α → VH → Res β} : (Res.ok a h).bind k = k a h := nr rfl
theorem bnd_ok {a : α} {h : VH} {k : α → VH → Res β} {u : Tg k} : bnd (Res.ok a h) k u = k a h := nr rfl
theorem bnd_no {k : α → VH → Res β} {u : Tg k} : bnd (Res.no : Res α) k u = .no := nr rfl
theorem bnd_exc {x ns vs h} {k : α → VH → Res β} {u : Tg k} : bnd (Res.exc x ns vs h : Res α) k u = .exc x ns vs h := nr rfl
theorem sbd_ok {a : α} {h : VH} {ρ : VSt} {k : α → VH → SR} {u : Tg k} : sbd (Res.ok a h) ρ k u = k a h := nr rfl
theorem sbd_no {ρ : VSt} {k : α → VH → SR} {u : Tg k} : sbd (Res.no : Res α) ρ k u = .no := nr rfl
theorem sbd_exc {x ns vs h} {ρ : VSt} {k : α → VH → SR} {u : Tg k} : sbd (Res.exc x ns vs h : Res α) ρ k u = .exc x ns vs ρ h := nr rfl
end
def getV (o : Option (Option VV)) (h : VH) : Res VV := match o with
  | some (some v) => .ok v h
  | _ => .no
theorem getV_some {v : VV} {h : VH} : getV (some (some v)) h = .ok v h := nr rfl
section
variable {ρ : VSt} {h : VH}
theorem a_var {i : Nat} : eVar i ρ h = getV (ρ[i]?) h := nr rfl
theorem a_c {v : VV} : eC v ρ h = .ok v h := nr rfl
theorem a_bin {op a b} : eBin op a b ρ h = bnd (a ρ h) (fun v h1 => bnd (b ρ h1) (fun w h2 => lift (op h2 v w) h2) (tg _)) (tg _) := nr rfl
theorem a_un {op a} : eUn op a ρ h = bnd (a ρ h) (fun v h1 => lift (op h1 v) h1) (tg _) := nr rfl
theorem a_call {op a} : eCall op a ρ h = bnd (a ρ h) (fun v h1 => lift (op h1 v) h1) (tg _) := nr rfl
theorem a_nil : aNil ρ h = .ok [] h := nr rfl
theorem a_cons {a b} : aCons a b ρ h = bnd (a ρ h) (fun v h1 => bnd (b ρ h1) (fun w h2 => .ok (v :: w) h2) (tg _)) (tg _) := nr rfl
theorem a_tup {a} : eTup a ρ h = bnd (a ρ h) (fun vs h1 => if vs.any VV.isObj = true ∨ vs.length > SZ then .no else .ok (.tup vs) h1) (tg _) := nr rfl
theorem a_lst {a} : eLst a ρ h = bnd (a ρ h) (fun vs h1 => if vs.any VV.isObj = true ∨ vs.length > SZ then .no else .ok (.lst vs) h1) (tg _) := nr rfl
theorem a_lstO {a} : eLstO a ρ h = bnd (a ρ h) (fun vs h1 => if vs.any VV.isObj = true ∨ vs.length > SZ then .no else .ok (.obj h1.length) (h1 ++ [.fl vs])) (tg _) := nr rfl
def toB (v : VV) (h : VH) : Res Bool := match v with
  | .bl b => .ok b h
  | _ => .no
theorem toB_bl {b : Bool} : toB (.bl b) h = .ok b h := nr rfl
theorem a_val {a} : tVal a ρ h = bnd (a ρ h) toB (tg _) := nr rfl
theorem a_tand {a b} : tAnd a b ρ h = bnd (a ρ h) (fun v h1 => if v = true then b ρ h1 else .ok false h1) (tg _) := nr rfl
theorem a_tor {a b} : tOr a b ρ h = bnd (a ρ h) (fun v h1 => if v = true then .ok true h1 else b ρ h1) (tg _) := nr rfl
theorem a_tnot {a} : tNot a ρ h = bnd (a ρ h) (fun v h1 => .ok (!v) h1) (tg _) := nr rfl
theorem a_if {c a b} : eIf c a b ρ h = bnd (c ρ h) (fun v h1 => if v = true then a ρ h1 else b ρ h1) (tg _) := nr rfl
theorem a_and {a b} : eAnd a b ρ h = bnd (bnd (a ρ h) toB (tg _)) (fun v h1 => if v = true then b ρ h1 else .ok (.bl false) h1) (tg _) := by
  unfold eAnd
  cases a ρ h with
  | no => rfl
  | exc => rfl
  | ok v h1 =>
    simp only [bind_ok]
    cases v with
    | bl b => cases b <;> rfl
    | _ => rfl
theorem a_or {a b} : eOr a b ρ h = bnd (bnd (a ρ h) toB (tg _)) (fun v h1 => if v = true then .ok (.bl true) h1 else b ρ h1) (tg _) := by
  unfold eOr
  cases a ρ h with
  | no => rfl
  | exc => rfl
  | ok v h1 =>
    simp only [bind_ok]
    cases v with
    | bl b => cases b <;> rfl
    | _ => rfl
theorem a_not {a} : eNot a ρ h = bnd (bnd (a ρ h) toB (tg _)) (fun v h1 => .ok (.bl (!v)) h1) (tg _) := by
  unfold eNot
  cases a ρ h with
  | no => rfl
  | exc => rfl
  | ok v h1 =>
    simp only [bind_ok]
    cases v <;> rfl
theorem a_chain {o o' a b c} : eChain o o' a b c ρ h = bnd (a ρ h) (fun v h1 => bnd (b ρ h1) (fun w h2 => bnd (bnd (lift (o h2 v w) h2) toB (tg _)) (fun k h3 => if k = true then bnd (c ρ h3) (fun z h4 => lift (o' h4 w z) h4) (tg _) else .ok (.bl false) h3) (tg _)) (tg _)) (tg _) := by
  unfold eChain
  congr 1; funext v h1; congr 1; funext w h2
  cases lift (o h2 v w) h2 with
  | no => rfl
  | exc => rfl
  | ok v h1 =>
    simp only [bind_ok]
    cases v with
    | bl b => cases b <;> rfl
    | _ => rfl
theorem a_fn {n F dws a} : eFn n F dws a ρ h = bnd (a ρ h) (fun vs h1 => if (vs ++ dws).length = n then F (vs ++ dws) h1 else .no) (tg _) := nr rfl
def afterL (r : Res (List VV)) : Res VV := match r with
  | .ok vs h2 => .ok (.lst vs) h2
  | _ => .no
theorem afterL_ok {vs : List VV} : afterL (.ok vs h) = .ok (.lst vs) h := nr rfl
theorem a_lc' {own it b t e} : eLc own it b t e ρ h = bnd (it ρ h) (fun xs h1 => if xs.length > SZ then .no else afterL (lcGo b t e (wp ρ own) xs h1)) (tg _) := nr rfl
def seqItems (v : VV) (h : VH) : Res (List VV) := match v with
  | .lst xs => .ok xs h
  | .scr xs => .ok xs h
  | .tup xs => .ok xs h
  | .str s => .ok (signs s) h
  | _ => .no
theorem seqI_lst {xs} : seqItems (.lst xs) h = .ok xs h := nr rfl
theorem seqI_scr {xs} : seqItems (.scr xs) h = .ok xs h := nr rfl
theorem seqI_tup {xs} : seqItems (.tup xs) h = .ok xs h := nr rfl
theorem seqI_str {s} : seqItems (.str s) h = .ok (signs s) h := nr rfl
theorem a_seq {f} : iSeq f ρ h = bnd (f ρ h) seqItems (tg _) := nr rfl
def rng1 (v : VV) (h : VH) : Res (List VV) := match v with
  | .int n => if -(2 ^ 62) ≤ n ∧ n < 2 ^ 62 then .ok (rngV 0 n.toNat) h else .no
  | _ => .no
theorem rng1_int {n : Int} : rng1 (.int n) h = if -(2 ^ 62) ≤ n ∧ n < 2 ^ 62 then .ok (rngV 0 n.toNat) h else .no := nr rfl
theorem a_range1 {f} : iRange1 f ρ h = bnd (f ρ h) rng1 (tg _) := nr rfl
def zipI (v : List VV) (h : VH) : Res (List VV) := match v with
  | [.lst xs, .lst ys] => .ok (prs xs ys) h
  | [.tup xs, .tup ys] => .ok (prs xs ys) h
  | _ => .no
theorem zip_lst {xs ys} : zipI [.lst xs, .lst ys] h = .ok (prs xs ys) h := nr rfl
theorem zip_tup {xs ys} : zipI [.tup xs, .tup ys] h = .ok (prs xs ys) h := nr rfl
theorem a_zip {f} : iZip f ρ h = bnd (f ρ h) zipI (tg _) := nr rfl
theorem a_sl {op a lo hi} : eSl op a lo hi ρ h = bnd (a ρ h) (fun v h1 => bnd (lo ρ h1) (fun l h2 => bnd (hi ρ h2) (fun u h3 => lift (op h3 v l u) h3) (tg _)) (tg _)) (tg _) := nr rfl
theorem a_onone : oNone ρ h = .ok none h := nr rfl
def toO (v : VV) (h : VH) : Res (Option Int) := match v with
  | .int i => .ok (some i) h
  | _ => .no
theorem toO_int {i : Int} : toO (.int i) h = .ok (some i) h := nr rfl
theorem a_osome {a} : oSome a ρ h = bnd (a ρ h) toO (tg _) := nr rfl
theorem lift_some {v : VV} : lift (some v) h = .ok v h := nr rfl
theorem lift_none : lift none h = .no := nr rfl
/-! statements -/
def SR.thn (r : SR) (b : SF) (_ : Tg b) : SR := match r with
  | .nx ρ' h' => b ρ' h'
  | r => r
theorem thn_nx {b : SF} {u : Tg b} : (SR.nx ρ h).thn b u = b ρ h := nr rfl
theorem thn_ret {v} {b : SF} {u : Tg b} : (SR.ret v h).thn b u = .ret v h := nr rfl
theorem thn_no {b : SF} {u : Tg b} : (SR.no).thn b u = .no := nr rfl
theorem thn_brk {b : SF} {u : Tg b} : (SR.brk ρ h).thn b u = .brk ρ h := nr rfl
theorem thn_cnt {b : SF} {u : Tg b} : (SR.cnt ρ h).thn b u = .cnt ρ h := nr rfl
theorem thn_exc {x ns vs} {b : SF} {u : Tg b} : (SR.exc x ns vs ρ h).thn b u = .exc x ns vs ρ h := nr rfl
theorem s_skip : sSkip ρ h = .nx ρ h := nr rfl
theorem s_seq {a b} : sSeq a b ρ h = (a ρ h).thn b (tg _) := nr rfl
theorem s_set {i e} : sSet i e ρ h = sbd (e ρ h) ρ (fun v h1 => .nx (ρ.set i (some v)) h1) (tg _) := nr rfl
def onx (o : Option VSt) (h : VH) : SR := match o with
  | some ρ' => .nx ρ' h
  | none => .no
theorem onx_some {ρ' : VSt} : onx (some ρ') h = .nx ρ' h := nr rfl
theorem s_asg {e b} : sAsg e b ρ h = sbd (e ρ h) ρ (fun v h1 => onx (b v ρ) h1) (tg _) := nr rfl
theorem s_if {c a b} : sIf c a b ρ h = sbd (c ρ h) ρ (fun k h1 => if k = true then a ρ h1 else b ρ h1) (tg _) := nr rfl
theorem s_ret {e} : sRet e ρ h = sbd (e ρ h) ρ (fun v h1 => .ret v h1) (tg _) := nr rfl
theorem s_expr {e} : sExpr e ρ h = sbd (e ρ h) ρ (fun v h1 => .nx ρ h1) (tg _) := nr rfl
theorem s_for {it b body} : sFor it b body ρ h = sbd (it ρ h) ρ (fun xs h1 => forGo b body xs ρ h1) (tg _) := nr rfl
theorem for_nil {b body} : forGo b body [] ρ h = .nx ρ h := by rw [forGo]
def SR.trn (r : SR) (k : VSt → VH → SR) (_ : Tg k) : SR := match r with
  | .nx ρ2 h2 => k ρ2 h2
  | .cnt ρ2 h2 => k ρ2 h2
  | .brk ρ2 h2 => .nx ρ2 h2
  | r => r
theorem trn_nx {k} {u : Tg k} : (SR.nx ρ h).trn k u = k ρ h := nr rfl
def obd (o : Option VSt) (k : VSt → SR) (_ : Tg k) : SR := match o with
  | none => .no
  | some ρ' => k ρ'
theorem obd_some {ρ' : VSt} {k} {u : Tg k} : obd (some ρ') k u = k ρ' := nr rfl
theorem for_cons {b body x xs} : forGo b body (x :: xs) ρ h = obd (b x ρ) (fun ρ' => (body ρ' h).trn (fun ρ2 h2 => forGo b body xs ρ2 h2) (tg _)) (tg _) := by
  rw [forGo]
  cases b x ρ with
  | none => rfl
  | some ρ' => simp only [obd]; cases body ρ' h <;> rfl
theorem bNm_ap {i v} : bNm i v ρ = some (ρ.set i (some v)) := nr rfl
theorem s_par {i j a} : sPar i j a ρ h = sbd (a ρ h) ρ (fun vs h1 => match vs with
  | [v, w] => .nx ((ρ.set i (some v)).set j (some w)) h1
  | _ => .no) (tg _) := nr rfl
theorem s_par3 {i j l a} : sPar3 i j l a ρ h = sbd (a ρ h) ρ (fun vs h1 => match vs with
  | [u, v, w] => .nx (((ρ.set i (some u)).set j (some v)).set l (some w)) h1
  | _ => .no) (tg _) := nr rfl
def onh (o : Option VH) (ρ : VSt) : SR := match o with
  | some h4 => .nx ρ h4
  | none => .no
theorem onh_some {h' : VH} : onh (some h') ρ = .nx ρ h' := nr rfl
theorem s_setI {o i e} : sSetI o i e ρ h = sbd (e ρ h) ρ (fun v h1 => sbd (o ρ h1) ρ (fun ov h2 => sbd (i ρ h2) ρ (fun iv h3 => onh (setI h3 ov iv v) ρ) (tg _)) (tg _)) (tg _) := nr rfl
def SR.fin (r : SR) (n : Nat) : Res VV := match r with
  | .nx _ h' => .ok .non (trim n .non h')
  | .ret v h' => .ok v (trim n v h')
  | .exc x ns vs _ h' => .exc x ns vs h'
  | _ => .no
theorem fn_ap {k B vs} : fnF k B vs h = (B (vs.map some ++ List.replicate (k - vs.length) none) h).fin h.length := by
  unfold fnF
  cases B (vs.map some ++ List.replicate (k - vs.length) none) h <;> rfl
theorem fin_ret {v n} (hl : h.length = n) : (SR.ret v h).fin n = .ok v h := by
  show Res.ok v (trim n v h) = _
  unfold trim
  rw [if_pos hl]
/-! operations -/
theorem o_sub {i j : Int} : opSub h (.int i) (.int j) = some (.int (i - j)) := nr rfl
theorem o_add {i j : Int} : opAdd h (.int i) (.int j) = some (.int (i + j)) := nr rfl
theorem o_lt {i j : Int} : opLt h (.int i) (.int j) = some (.bl (decide (i < j))) := nr rfl
theorem o_le {i j : Int} : opLe h (.int i) (.int j) = some (.bl (decide (i ≤ j))) := nr rfl
theorem o_gt {i j : Int} : opGt h (.int i) (.int j) = some (.bl (decide (j < i))) := nr rfl
theorem o_ge {i j : Int} : opGe h (.int i) (.int j) = some (.bl (decide (j ≤ i))) := nr rfl
theorem o_neg {i : Int} : opNeg h (.int i) = some (.int (-i)) := nr rfl
theorem o_eqI {i j : Int} : opEq h (.int i) (.int j) = some (.bl (decide (i = j))) := nr rfl
theorem o_neI {i j : Int} : opNe h (.int i) (.int j) = some (.bl (!decide (i = j))) := nr rfl
theorem o_eqB {i j : Bool} : opEq h (.bl i) (.bl j) = some (.bl (decide (i = j))) := nr rfl
theorem o_neB {i j : Bool} : opNe h (.bl i) (.bl j) = some (.bl (!decide (i = j))) := nr rfl
theorem o_eqS {i j : Str} : opEq h (.str i) (.str j) = some (.bl (decide (i = j))) := nr rfl
theorem o_fdiv {i j : Int} (h0 : j ≠ 0) (h1 : j.natAbs.log2 < 9000) : opFdiv h (.int i) (.int j) = some (.int (i.fdiv j)) := by
  show (if _ then _ else _) = _; rw [if_pos ⟨h0, h1⟩]
theorem o_mod {i j : Int} (h0 : j ≠ 0) : opMod h (.int i) (.int j) = some (.int (i.fmod j)) := by
  show (if _ then _ else _) = _; rw [if_pos h0]
theorem o_mul {i j : Int} (h0 : mulOk i j = true) : opMul h (.int i) (.int j) = some (.int (i * j)) := by
  show (if _ then _ else _) = _; rw [if_pos h0]
theorem o_pow {i j : Int} (h0 : 0 ≤ j ∧ j ≤ 1000000 ∧ i.natAbs < 2 ^ 64) : opPow h (.int i) (.int j) = some (.int (i ^ j.toNat)) := by
  show (if _ then _ else _) = _; rw [if_pos h0]
theorem o_mul_r {i j : Int} (h0 : j.natAbs < 18446744073709551616) : opMul h (.int i) (.int j) = some (.int (i * j)) := by
  refine o_mul ?_
  unfold mulOk
  rw [decide_eq_true (p := j.natAbs < 2 ^ 64) (by omega)]; simp
theorem o_mul_l {i j : Int} (h0 : i.natAbs < 18446744073709551616) : opMul h (.int i) (.int j) = some (.int (i * j)) := by
  refine o_mul ?_
  unfold mulOk
  rw [decide_eq_true (p := i.natAbs < 2 ^ 64) (by omega)]; simp
end
/-! loops by what holds -/
inductive F2 {α β : Type} (P : α → β → Prop) : List α → List β → Prop
  | nil : F2 P [] []
  | cons {a b as bs} : P a b → F2 P as bs → F2 P (a :: as) (b :: bs)
theorem F2.len {α β : Type} {P : α → β → Prop} {as : List α} {bs : List β} (h : F2 P as bs) : as.length = bs.length := by
  induction h with
  | nil => rfl
  | cons _ _ ih => simp [ih]
theorem for_inv {b : VV → VSt → Option VSt} {body : SF} (I : VSt → VH → Prop) : ∀ {xs : List VV} {ρ : VSt} {h : VH}, I ρ h → (∀ x ∈ xs, ∀ ρ h, I ρ h → ∃ ρ' ρ2 h2, b x ρ = some ρ' ∧ body ρ' h = .nx ρ2 h2 ∧ I ρ2 h2) → ∃ ρ2 h2, forGo b body xs ρ h = .nx ρ2 h2 ∧ I ρ2 h2
  | [], ρ, h, hi, _ => ⟨ρ, h, rfl, hi⟩
  | x :: xs, ρ, h, hi, hx => by
    obtain ⟨ρ', ρ2, h2, e1, e2, hi2⟩ := hx x List.mem_cons_self ρ h hi
    obtain ⟨ρ3, h3, e3, hi3⟩ := for_inv I (xs := xs) hi2 fun y hy => hx y (List.mem_cons_of_mem _ hy)
    refine ⟨ρ3, h3, ?_, hi3⟩
    rw [for_cons, e1, obd_some, e2, trn_nx, e3]
end J
namespace J
open PySem L2
theorem ix_root {h : VH} {n : Nat} {xs : List VV} {k : Int} (e : h[n]? = some (.fl xs)) : opIx h (.obj n) (.int k) = atI xs k := by
  unfold opIx
  simp only [lstR, lstOf, e, Option.bind_some]
theorem set_root {h : VH} {n : Nat} {xs : List VV} {k : Int} {j : Nat} {v : VV} (e : h[n]? = some (.fl xs)) (ej : ixN xs.length k = some j) (hv : v.isObj = false) : setI h (.obj n) (.int k) v = some (h.set n (.fl (xs.set j v))) := by
  unfold setI
  simp only [e, ej, hv, Bool.false_eq_true, if_false]
theorem get_set {h : VH} {n : Nat} {v : VO} (hn : n < h.length) : (h.set n v)[n]? = some v := List.getElem?_set_self hn
theorem lt_of_get {α : Type} {h : List α} {n : Nat} {v : α} (e : h[n]? = some v) : n < h.length := (List.getElem?_eq_some_iff.mp e).1
section
variable {a b c d e : VV}
theorem at5_0 : atI [a, b, c, d, e] 0 = some a := nr rfl
theorem at5_1 : atI [a, b, c, d, e] 1 = some b := nr rfl
theorem at5_2 : atI [a, b, c, d, e] 2 = some c := nr rfl
theorem at5_3 : atI [a, b, c, d, e] 3 = some d := nr rfl
theorem at5_4 : atI [a, b, c, d, e] 4 = some e := nr rfl
end
theorem x_lst {h : VH} {xs : List VV} {k : Int} : opIx h (.lst xs) (.int k) = atI xs k := nr rfl
theorem x_tup {h : VH} {xs : List VV} {k : Int} : opIx h (.tup xs) (.int k) = atI xs k := nr rfl
theorem len_lst {h : VH} {xs : List VV} : cLen h [.lst xs] = some (.int xs.length) := nr rfl
theorem len_tup {h : VH} {xs : List VV} : cLen h [.tup xs] = some (.int xs.length) := nr rfl
theorem list_lst {h : VH} {xs : List VV} : cList h [.lst xs] = some (.lst xs) := nr rfl
theorem list_tup {h : VH} {xs : List VV} : cList h [.tup xs] = some (.lst xs) := nr rfl
theorem tuple_lst {h : VH} {xs : List VV} : cTuple h [.lst xs] = some (.tup xs) := nr rfl
theorem atI_in {xs : List VV} {k : Nat} {v : VV} (e : xs[k]? = some v) : atI xs (k : Int) = some v := atI_nat e
end J
namespace J
open PySem L2
theorem kit_NoneType_list : kitB "NoneType" "list" = some false := by decide +kernel
theorem isi_NoneType_list {h : VH} : cIsi h [.non, .ty "list"] = some (.bl false) := by show ((kitB "NoneType" "list").map VV.bl) = _; rw [kit_NoneType_list]; rfl
theorem kit_NoneType_tuple : kitB "NoneType" "tuple" = some false := by decide +kernel
theorem isi_NoneType_tuple {h : VH} : cIsi h [.non, .ty "tuple"] = some (.bl false) := by show ((kitB "NoneType" "tuple").map VV.bl) = _; rw [kit_NoneType_tuple]; rfl
theorem kit_NoneType_bool : kitB "NoneType" "bool" = some false := by decide +kernel
theorem isi_NoneType_bool {h : VH} : cIsi h [.non, .ty "bool"] = some (.bl false) := by show ((kitB "NoneType" "bool").map VV.bl) = _; rw [kit_NoneType_bool]; rfl
theorem kit_NoneType_int : kitB "NoneType" "int" = some false := by decide +kernel
theorem isi_NoneType_int {h : VH} : cIsi h [.non, .ty "int"] = some (.bl false) := by show ((kitB "NoneType" "int").map VV.bl) = _; rw [kit_NoneType_int]; rfl
theorem kit_NoneType_str : kitB "NoneType" "str" = some false := by decide +kernel
theorem isi_NoneType_str {h : VH} : cIsi h [.non, .ty "str"] = some (.bl false) := by show ((kitB "NoneType" "str").map VV.bl) = _; rw [kit_NoneType_str]; rfl
theorem kit_bool_list : kitB "bool" "list" = some false := by decide +kernel
theorem isi_bool_list {h : VH} {b : Bool} : cIsi h [(.bl b), .ty "list"] = some (.bl false) := by show ((kitB "bool" "list").map VV.bl) = _; rw [kit_bool_list]; rfl
theorem kit_bool_tuple : kitB "bool" "tuple" = some false := by decide +kernel
theorem isi_bool_tuple {h : VH} {b : Bool} : cIsi h [(.bl b), .ty "tuple"] = some (.bl false) := by show ((kitB "bool" "tuple").map VV.bl) = _; rw [kit_bool_tuple]; rfl
theorem kit_bool_bool : kitB "bool" "bool" = some true := by decide +kernel
theorem isi_bool_bool {h : VH} {b : Bool} : cIsi h [(.bl b), .ty "bool"] = some (.bl true) := by show ((kitB "bool" "bool").map VV.bl) = _; rw [kit_bool_bool]; rfl
theorem kit_bool_int : kitB "bool" "int" = some true := by decide +kernel
theorem isi_bool_int {h : VH} {b : Bool} : cIsi h [(.bl b), .ty "int"] = some (.bl true) := by show ((kitB "bool" "int").map VV.bl) = _; rw [kit_bool_int]; rfl
theorem kit_bool_str : kitB "bool" "str" = some false := by decide +kernel
theorem isi_bool_str {h : VH} {b : Bool} : cIsi h [(.bl b), .ty "str"] = some (.bl false) := by show ((kitB "bool" "str").map VV.bl) = _; rw [kit_bool_str]; rfl
theorem kit_int_list : kitB "int" "list" = some false := by decide +kernel
theorem isi_int_list {h : VH} {i : Int} : cIsi h [(.int i), .ty "list"] = some (.bl false) := by show ((kitB "int" "list").map VV.bl) = _; rw [kit_int_list]; rfl
theorem kit_int_tuple : kitB "int" "tuple" = some false := by decide +kernel
theorem isi_int_tuple {h : VH} {i : Int} : cIsi h [(.int i), .ty "tuple"] = some (.bl false) := by show ((kitB "int" "tuple").map VV.bl) = _; rw [kit_int_tuple]; rfl
theorem kit_int_bool : kitB "int" "bool" = some false := by decide +kernel
theorem isi_int_bool {h : VH} {i : Int} : cIsi h [(.int i), .ty "bool"] = some (.bl false) := by show ((kitB "int" "bool").map VV.bl) = _; rw [kit_int_bool]; rfl
theorem kit_int_int : kitB "int" "int" = some true := by decide +kernel
theorem isi_int_int {h : VH} {i : Int} : cIsi h [(.int i), .ty "int"] = some (.bl true) := by show ((kitB "int" "int").map VV.bl) = _; rw [kit_int_int]; rfl
theorem kit_int_str : kitB "int" "str" = some false := by decide +kernel
theorem isi_int_str {h : VH} {i : Int} : cIsi h [(.int i), .ty "str"] = some (.bl false) := by show ((kitB "int" "str").map VV.bl) = _; rw [kit_int_str]; rfl
theorem kit_str_list : kitB "str" "list" = some false := by decide +kernel
theorem isi_str_list {h : VH} {x : Str} : cIsi h [(.str x), .ty "list"] = some (.bl false) := by show ((kitB "str" "list").map VV.bl) = _; rw [kit_str_list]; rfl
theorem kit_str_tuple : kitB "str" "tuple" = some false := by decide +kernel
theorem isi_str_tuple {h : VH} {x : Str} : cIsi h [(.str x), .ty "tuple"] = some (.bl false) := by show ((kitB "str" "tuple").map VV.bl) = _; rw [kit_str_tuple]; rfl
theorem kit_str_bool : kitB "str" "bool" = some false := by decide +kernel
theorem isi_str_bool {h : VH} {x : Str} : cIsi h [(.str x), .ty "bool"] = some (.bl false) := by show ((kitB "str" "bool").map VV.bl) = _; rw [kit_str_bool]; rfl
theorem kit_str_int : kitB "str" "int" = some false := by decide +kernel
theorem isi_str_int {h : VH} {x : Str} : cIsi h [(.str x), .ty "int"] = some (.bl false) := by show ((kitB "str" "int").map VV.bl) = _; rw [kit_str_int]; rfl
theorem kit_str_str : kitB "str" "str" = some true := by decide +kernel
theorem isi_str_str {h : VH} {x : Str} : cIsi h [(.str x), .ty "str"] = some (.bl true) := by show ((kitB "str" "str").map VV.bl) = _; rw [kit_str_str]; rfl
theorem kit_tuple_list : kitB "tuple" "list" = some false := by decide +kernel
theorem isi_tuple_list {h : VH} {xs : List VV} : cIsi h [(.tup xs), .ty "list"] = some (.bl false) := by show ((kitB "tuple" "list").map VV.bl) = _; rw [kit_tuple_list]; rfl
theorem kit_tuple_tuple : kitB "tuple" "tuple" = some true := by decide +kernel
theorem isi_tuple_tuple {h : VH} {xs : List VV} : cIsi h [(.tup xs), .ty "tuple"] = some (.bl true) := by show ((kitB "tuple" "tuple").map VV.bl) = _; rw [kit_tuple_tuple]; rfl
theorem kit_tuple_bool : kitB "tuple" "bool" = some false := by decide +kernel
theorem isi_tuple_bool {h : VH} {xs : List VV} : cIsi h [(.tup xs), .ty "bool"] = some (.bl false) := by show ((kitB "tuple" "bool").map VV.bl) = _; rw [kit_tuple_bool]; rfl
theorem kit_tuple_int : kitB "tuple" "int" = some false := by decide +kernel
theorem isi_tuple_int {h : VH} {xs : List VV} : cIsi h [(.tup xs), .ty "int"] = some (.bl false) := by show ((kitB "tuple" "int").map VV.bl) = _; rw [kit_tuple_int]; rfl
theorem kit_tuple_str : kitB "tuple" "str" = some false := by decide +kernel
theorem isi_tuple_str {h : VH} {xs : List VV} : cIsi h [(.tup xs), .ty "str"] = some (.bl false) := by show ((kitB "tuple" "str").map VV.bl) = _; rw [kit_tuple_str]; rfl
theorem kit_list_list : kitB "list" "list" = some true := by decide +kernel
theorem isi_list_list {h : VH} {xs : List VV} : cIsi h [(.lst xs), .ty "list"] = some (.bl true) := by show ((kitB "list" "list").map VV.bl) = _; rw [kit_list_list]; rfl
theorem kit_list_tuple : kitB "list" "tuple" = some false := by decide +kernel
theorem isi_list_tuple {h : VH} {xs : List VV} : cIsi h [(.lst xs), .ty "tuple"] = some (.bl false) := by show ((kitB "list" "tuple").map VV.bl) = _; rw [kit_list_tuple]; rfl
theorem kit_list_bool : kitB "list" "bool" = some false := by decide +kernel
theorem isi_list_bool {h : VH} {xs : List VV} : cIsi h [(.lst xs), .ty "bool"] = some (.bl false) := by show ((kitB "list" "bool").map VV.bl) = _; rw [kit_list_bool]; rfl
theorem kit_list_int : kitB "list" "int" = some false := by decide +kernel
theorem isi_list_int {h : VH} {xs : List VV} : cIsi h [(.lst xs), .ty "int"] = some (.bl false) := by show ((kitB "list" "int").map VV.bl) = _; rw [kit_list_int]; rfl
theorem kit_list_str : kitB "list" "str" = some false := by decide +kernel
theorem isi_list_str {h : VH} {xs : List VV} : cIsi h [(.lst xs), .ty "str"] = some (.bl false) := by show ((kitB "list" "str").map VV.bl) = _; rw [kit_list_str]; rfl
theorem all_true {h : VH} {n : Nat} : cAll h [.lst (List.replicate n (.bl true))] = some (.bl true) := by
  have : ∀ n, blsOf (List.replicate n (.bl true)) = some (List.replicate n true) := by
    intro n
    induction n with
    | zero => rfl
    | succ n ih => rw [List.replicate_succ, blsOf, ih]; rfl
  show ((blsOf (List.replicate n (.bl true))).map fun ns => VV.bl (ns.all id)) = _
  rw [this]
  simp
theorem lc_const {b : VV → VSt → Option VSt} {t : TF} {e : EF} {ρ : VSt} {h : VH} {v : VV} (hv : v.isObj = false) : ∀ {xs : List VV}, (∀ x ∈ xs, ∃ ρ', b x ρ = some ρ' ∧ t ρ' h = .ok true h ∧ e ρ' h = .ok v h) → lcGo b t e ρ xs h = .ok (List.replicate xs.length v) h
  | [], _ => rfl
  | x :: xs, hx => by
    obtain ⟨ρ', h1, h2, h3⟩ := hx x List.mem_cons_self
    rw [lcGo, h1]
    simp only [h2, bind_ok, h3, hv, Bool.false_eq_true, if_false, if_true, lc_const hv fun y hy => hx y (List.mem_cons_of_mem _ hy), List.length_cons, List.replicate_succ]
theorem prs_same : ∀ xs : List VV, prs xs xs = xs.map fun x => .tup [x, x]
  | [] => rfl
  | x :: xs => by rw [prs, prs_same xs]; rfl
mutual
def dep : VV → Nat
  | .tup xs => deps xs + 1
  | .lst xs => deps xs + 1
  | _ => 0
def deps : List VV → Nat
  | [] => 0
  | x :: xs => max (dep x) (deps xs)
end
mutual
def wide : VV → Nat
  | .tup xs => max xs.length (wides xs)
  | .lst xs => max xs.length (wides xs)
  | _ => 0
def wides : List VV → Nat
  | [] => 0
  | x :: xs => max (wide x) (wides xs)
end
theorem mem_deps : ∀ {xs : List VV} {x : VV}, x ∈ xs → dep x ≤ deps xs ∧ wide x ≤ wides xs
  | [], _, h => by simp at h
  | y :: ys, x, h => by
    rw [deps, wides]
    rcases List.mem_cons.mp h with rfl | h
    · omega
    · have := mem_deps h; omega
theorem mem_isDs : ∀ {xs : List VV} {x : VV}, isDs xs = true → x ∈ xs → isD x = true
  | [], _, _, h => by simp at h
  | y :: ys, x, d, h => by
    rw [isDs, Bool.and_eq_true] at d
    rcases List.mem_cons.mp h with rfl | h
    · exact d.1
    · exact mem_isDs d.2 h
end J
namespace J
open PySem L2
theorem intsOf_map : ∀ l : List Int, intsOf (l.map VV.int) = some l
  | [] => rfl
  | x :: xs => by rw [List.map_cons, intsOf, intsOf_map xs]; rfl
theorem blsOf_map : ∀ l : List Bool, blsOf (l.map VV.bl) = some l
  | [] => rfl
  | x :: xs => by rw [List.map_cons, blsOf, blsOf_map xs]; rfl
theorem all_bls {h : VH} {l : List Bool} : cAll h [.lst (l.map VV.bl)] = some (.bl (l.all id)) := by
  show (blsOf (l.map VV.bl)).map (fun ns => VV.bl (ns.all id)) = _
  rw [blsOf_map]; rfl
theorem isDs_ints : ∀ l : List Int, isDs (l.map VV.int) = true
  | [] => by simp [isDs]
  | x :: xs => by simp [isDs, isD, isDs_ints xs]
/-- == of lists of ints -/
theorem toDs_ints : ∀ l : List Int, toDs (l.map VV.int) = l.map PyData.int
  | [] => by simp [toDs]
  | x :: xs => by simp [toDs, toD, toDs_ints xs]
theorem eqvAll_ints : ∀ l m : List Int, PyData.eqvAll (l.map PyData.int) (m.map PyData.int) = decide (l = m)
  | [], [] => by simp [PyData.eqvAll]
  | [], y :: ys => by simp [PyData.eqvAll]
  | x :: xs, [] => by simp [PyData.eqvAll]
  | x :: xs, y :: ys => by
    simp only [List.map_cons, PyData.eqvAll, PyData.eqv, eqvAll_ints xs ys]
    by_cases h1 : x = y <;> by_cases h2 : xs = ys <;> simp [h1, h2]
theorem canLay_ints : ∀ l : List Int, PyData.canLayAll0 (l.map PyData.int) = true
  | [] => by simp [PyData.canLayAll0]
  | x :: xs => by simp [PyData.canLayAll0, PyData.canLay0, canLay_ints xs]
end J
namespace J
open PySem L2
theorem depth_ints : ∀ l : List Int, PyData.depthAll (l.map PyData.int) = 0
  | [] => by simp [PyData.depthAll]
  | x :: xs => by simp [PyData.depthAll, PyData.depth, depth_ints xs]
end J
namespace J
open PySem L2
end J
namespace J
open PySem L2
open PyProof.Rows (envOfC)
/-! loops of a comprehension's block, whatever a turn does -/
/-- what the slots knew they still know -/
def Knows (σ σ' : St) : Prop := σ.length = σ'.length ∧ ∀ (i : Nat) (v : V), σ[i]? = some (some v) → σ'[i]? = some (some v)
theorem Knows.refl {σ : St} : Knows σ σ := ⟨rfl, fun _ _ h => h⟩
theorem own_loop {Y : Cx} {node tg : Expr} {k m0 : Nat} {it : Addr} {acc : Value} {ce : Env} {p : Pos} {body : Value → Sem Unit} {J : It} {fp : List Addr} {tn : Nat → Heap → Prop} {pins : List (Addr × Obj)} {τ : St} {R : Result → Shared → Prop} {s : Shared} {G : Hp} (M : Nat → Nat → Hp → Prop)
    (hY : Y.calm = true) (T : Turn Y.prog Y.w Y.K tg J fp it tn)
    (hct : compTurn node k (.ref it) acc ce = (do
      standAt p
      match ← pyNext (.ref it) with
      | none => pure (.done .next)
      | some v =>
        letOwnedTupleGo tg (.ref it) v
        body v
        again (.compLoop node k (.ref it) acc ce)))
    (hq : (Code.compLoop node k (.ref it) acc ce).quiet = true) (hden : (model Y.prog Y.w).den (.compLoop node k (.ref it) acc ce) = (compTurn node k (.ref it) acc ce).onRaise (fun x => do noteFrame x ce; theTreesLotGoes x))
    (hund : Y.A.under (.compLoop node k (.ref it) acc ce) = Y.A)
    (I : Inv Y pins τ G s) (st : tn 0 s.heap) (hfp : ∀ (b : Addr) (G' : Hp), b ∈ fp → G' b = none → FpOk Y pins G' b) (nf : ∀ b ∈ fp, G b = none) (m1 : M 0 m0 G)
    (fate : ∀ (i m : Nat) (G1 : Hp), M i m G1 → (J.stop i G1 ∧ ∀ s', Inv Y pins τ G1 s' → R (.ok .next) s') ∨
      (J.go i G1 ∧ ∀ x G2, J.yld i G1 x G2 → ∀ (ps : List (Addr × Obj)) (s2 : Shared) (u : Value), Inv Y ps τ G2 s2 → RelV x u →
        wpAny (model Y.prog Y.w) Y.A (body u) (fun _ s3 => ∃ τ3 G3, Inv Y ps τ3 G3 s3 ∧ Knows τ τ3 ∧ ∃ m', m' < m ∧ M (i + 1) m' G3) (fun _ _ => False) s2)) :
    codeAny (model Y.prog Y.w) Y.A (.compLoop node k (.ref it) acc ce) R s := by
  refine codeAny_loop hq (fun n s' => ∃ i G', Inv Y pins τ G' s' ∧ tn i s'.heap ∧ (∀ b ∈ fp, G' b = none) ∧ M i n G') ?_ m0 ⟨0, G, I, st, nf, m1⟩
  rintro n s1 ⟨i, G1, I1, st1, nf1, mm⟩
  rw [hund, hden]
  refine wpAny_noted ?_
  rw [hct]
  refine wpAny_bind (wpAny_standAt (wpAny_bind ?_))
  rcases fate i n G1 mm with ⟨hstop, fin⟩ | ⟨hgo, step⟩
  · refine thnF (T.done Y rfl rfl rfl hY i pins s1 τ G1 (fun _ _ => False) I1 (fun b hb => hfp b G1 hb (nf1 b hb)) st1 hstop) fun r s2 z => ?_
    obtain ⟨z1, z2⟩ := z
    subst z1
    exact wpAny_pure (fin s2 z2)
  · refine thnF (T.item Y rfl rfl rfl hY i pins s1 τ G1 (fun _ _ => False) I1 (fun b hb => hfp b G1 hb (nf1 b hb)) st1 hgo) fun r s2 z => ?_
    obtain ⟨u, z1, z2⟩ := z
    subst z1
    refine wpAny_bind (thnF z2 fun _ s3 y => ?_)
    obtain ⟨x, G3, I3, rx, yl, st3, nf3⟩ := y
    have I3p := I3.pinned (fun b hb => hfp b G3 hb (nf3 b hb)) (T.obj _ _ st3)
    refine wpAny_bind (thnF (step x G3 yl _ s3 u I3p rx) fun _ s4 y => ?_)
    obtain ⟨τ4, G4, I4, kn, m', lt, mm'⟩ := y
    have held : ∀ b ∈ fp, ∀ o, s3.heap.get? b = some o → s4.heap.get? b = some o ∧ G4 b = none := by
      intro b hb o e
      have q := I4.pin (b, o) (List.mem_append_right _ (List.mem_append_right _ (mem_pinsAt hb e)))
      exact ⟨q.1, q.2.1⟩
    refine wpAny_pure ⟨rfl, m', lt, i + 1, G4, I4.unpinned.weak kn.1 kn.2, T.keep _ _ _ st3 fun b hb o e => (held b hb o e).1, fun b hb => ?_, mm'⟩
    obtain ⟨o, e, _⟩ := T.obj _ _ st3 b hb
    exact (held b hb o e).2
/-- into a comprehension's block and out of it -/
theorem blk_enter {X : Cx} {pins : List (Addr × Obj)} {s : Shared} {σ : St} {H : Hp} {Q : VK} {node tg iter : Expr} {ifs : List Expr} {gs : List Comprehension} {scope : Scope} {own : List (Str × Nat)} {pos' : Pos} {wi : TI} {new : Sem Value} {o0 : Obj} {O : Addr → HO}
    (L : It → Addr → Hp → Prop) (hcl : clausesOf node = ⟨tg, iter, ifs, 0⟩ :: gs) (hN : X.N.Nodup) (I : Inv X pins σ H s) (hi : PI X tg iter wi) (ok : BlkOk X.N X.env.scope scope own) (hs : ∀ x, foldedSetIterable iter X.env x = pure x)
    (hnew : ∀ (s : Shared) (E Q : Value → Shared → Prop), Q (.ref s.heap.objs.size) { s with heap := s.heap.push o0 } → wpAny (model X.prog X.w) X.A new Q E s)
    (hO : ∀ (h : Heap) (G : Hp), sysModules < h.objs.size → ObjOk X.prog X.w G (h.push o0) h.objs.size (O h.objs.size))
    (hst : ∀ (it acc : Value) (env : Env) (R : Result → Shared → Prop) (s : Shared), codeAny (model X.prog X.w) X.A (.compLoop node 0 it acc env) R s →
      wpAny (model X.prog X.w) X.A (pyIter it) (fun it' s' => codeAny (model X.prog X.w) X.A (.compLoop node 0 it' acc env) R s') (notedBy (model X.prog X.w) X.A env fun x s' => R (.error x) s') s → codeAny (model X.prog X.w) X.A (.compStart node 0 it acc env) R s)
    (h : wi σ H fun Jt H1 => ∀ D, H1 D = none → L Jt D (upd H1 D (O D)))
    (loop : ∀ (s3 : Shared) (H3 : Hp) (C : Addr) (cl : List (Str × Addr)) (fp : List Addr) (it D : Addr) (tn : Nat → Heap → Prop) (Jt : It) (s4 : Shared) (R : Result → Shared → Prop), L Jt D H3 → Inv (X.blk s3 H3 scope (compEnvC scope cl C X.env) fp) [] (wipe σ (own.map (·.2))) H3 s4 →
      Turn X.prog X.w X.K tg Jt fp it tn → tn 0 s4.heap → (∀ b ∈ fp, H3 b = none) → (∀ (b : Addr) (G : Hp), b ∈ fp → G b = none → FpOk (X.blk s3 H3 scope (compEnvC scope cl C X.env) fp) [] G b) →
      (∀ G s', Inv (X.blk s3 H3 scope (compEnvC scope cl C X.env) fp) [] (wipe σ (own.map (·.2))) G s' → Q (.ref D) G → R (.ok .next) s') →
      codeAny (model X.prog X.w) X.A (.compLoop node 0 (.ref it) (.ref D) (compEnvC scope cl C X.env)) R s4) :
    wpAny (model X.prog X.w) X.A (comprehension node scope X.env pos' new false (eval iter X.env) none) (EP X pins σ Q) X.xe s := by
  have hfree : ∀ y ∈ scope.names, y.2 = .free → ∃ c, X.env.cells.lookup y.1 = some c := by
    intro y hy e
    exact (ok.free y hy e).elim (fun k => I.ok.has _ (.inl k)) (fun k => I.ok.has _ (.inr k))
  refine wpAny_comprehension_free (use := none) hcl hs (closure_ok hfree) ok.kind (by intro y hy e; rw [ok.uniq y hy, e]) (thn (hi.run pins s σ H _ I h) fun xv s1 hx => thn hx fun itv s2 h2 => ?_)
  obtain ⟨it, fp, tn, Jt, H2, e, I2, T, st2, f2, lp⟩ := h2
  subst e
  refine hnew s2 _ _ (newEnv_comp ?_)
  have nD : H2 s2.heap.objs.size = none := I2.hok.fresh (Nat.le_refl _)
  have lp' := lp s2.heap.objs.size nD
  have I3 : Inv X pins σ (upd H2 s2.heap.objs.size (O s2.heap.objs.size)) { s2 with heap := s2.heap.push o0 } :=
    I2.laid (t' := s2.toks) (fun b o e => Heap.get?_push_of_some _ e) (Nat.le_refl _) (hO _ _ I2.big)
  have old : ∀ b ∈ fp, b < s2.heap.objs.size := by
    intro b hb
    obtain ⟨o, e, _⟩ := T.obj _ _ st2 b hb
    exact Heap.lt_size e
  have f3 : ∀ b ∈ fp, FpOk X pins (upd H2 s2.heap.objs.size (O s2.heap.objs.size)) b ∧ b < (s2.heap.push o0).objs.size := by
    intro b hb
    refine ⟨⟨?_, (f2 b hb).2⟩, by rw [Heap.size_push]; exact Nat.lt_succ_of_lt (old b hb)⟩
    rw [upd_ne (Nat.ne_of_lt (old b hb))]
    exact (f2 b hb).1
  have st3 : tn 0 (s2.heap.push o0) := T.keep _ _ _ st2 fun b _ o e => Heap.get?_push_of_some _ e
  have I4 := block_start I3 ok hN f3
  generalize hH3 : upd H2 s2.heap.objs.size (O s2.heap.objs.size) = H3 at I3 I4 f3 lp'
  have f3' : ∀ b ∈ fp, FpOk X pins H3 b ∧ b < ({ s2 with heap := s2.heap.push o0 } : Shared).heap.objs.size := f3
  have st3' : tn 0 ({ s2 with heap := s2.heap.push o0 } : Shared).heap := st3
  generalize ({ s2 with heap := s2.heap.push o0 } : Shared) = s3 at I3 I4 f3' st3' ⊢
  generalize s2.heap.objs.size = D at lp' ⊢
  clear f3 st3 nD hH3
  have st4 : tn 0 (pushCells (s3.heap.push { cls := .type "dict", data := .dict #[] }) scope.names) := T.keep _ _ _ st3' fun b _ o e => pushCells_keeps _ _ _ _ (Heap.get?_push_of_some _ e)
  have nfp : ∀ b ∈ fp, H3 b = none := fun b hb => (f3' b hb).1.1
  have stat : ∀ (b : Addr) (G : Hp), b ∈ fp → G b = none → FpOk (X.blk s3 H3 scope (compEnvC scope (cellsFrom (s3.heap.objs.size + 1) scope.names (cloFrom X.env.cells scope.names [])) s3.heap.objs.size X.env) fp) [] G b := by
    intro b G hb gn
    refine ⟨gn, (I4.ok.exf b hb).1, I4.ok.exfs b hb, .inl hb, fun x c e => (I4.ok.exf b hb).2 x c e, fun p hp => ?_⟩
    cases (show p ∈ ([] : List (Addr × Obj)) ++ [] from hp)
  have go := loop s3 H3 s3.heap.objs.size (cellsFrom (s3.heap.objs.size + 1) scope.names (cloFrom X.env.cells scope.names [])) fp it D tn Jt _ (compPost (model X.prog X.w) X.A X.xe none (EP X pins σ Q) (.ref D) s3.heap.objs.size) lp' I4 T st4 nfp stat fun G s' I5 q => ?_
  · exact hst _ _ _ _ _ go (T.self X.A 0 _ _ _ st4 go)
  · have cL : (X.blk s3 H3 scope (compEnvC scope (cellsFrom (s3.heap.objs.size + 1) scope.names (cloFrom X.env.cells scope.names [])) s3.heap.objs.size X.env) fp).env.locals = s3.heap.objs.size := rfl
    have I6 : Inv X pins σ G s' := I3.call' (ch := fp) I5.os I5.base I5.hok I5.bare fun b hb => by
      obtain ⟨-, q1, q2, q3, q4, q5⟩ := (f3' b hb).1
      exact ⟨q3, q1, q4, q5⟩
    have nC : G s3.heap.objs.size = none := by
      rw [← cL]; exact I5.free
    obtain ⟨m, hn, _⟩ := I5.loc
    rw [cL] at hn
    obtain ⟨q0, q1, q2, q3, q4, q5⟩ := I3.fpOk (H' := G) (Nat.le_refl _) nC
    exact ⟨m, hn, fun h' sb => ⟨.ref D, G, I6.turned (t' := s'.toks) (fun b o hb e => (sb.2 b hb).trans e) q0 q1 q3 q4 q5, rfl, q⟩⟩
end J
namespace J
open PySem L2
open PyProof.Rows (envOfC)
/-! an accumulator that grows by turns -/
/-- D is nobody's -/
structure Dz (g : Gh) (D : Addr) : Prop where
  nf : ¬ g.fz D
  ni : D ∉ g.io
  nk : ¬ g.kp D
def accGo {α : Type} (b : VV → VSt → Option VSt) (stp : VSt → VH → α → Res α) (ρ : VSt) : List VV → VH → α → Res α
  | [], h, a => .ok a h
  | x :: xs, h, a => match b x ρ with
    | none => .no
    | some ρ' => (stp ρ' h a).bind fun a' h' => accGo b stp ρ xs h' a'
/-- what a turn's inner part does to the accumulator at D -/
def StepOk {α : Type} (Y : Cx) (τ : St) (inner : Sem Unit) (D : Addr) (Ra : Gh → Hp → α → HO → Prop) (stp : VSt → VH → α → Res α) : Prop :=
  ∀ (ps : List (Addr × Obj)) (s : Shared) (σ : St) (H : Hp) (g : Gh) (ρ : VSt) (h : VH) (a a' : α) (h' : VH), Inv Y ps σ H s → Knows τ σ → RH (ct Y) g h H → RS (ct Y) g H ρ σ → Dz g D → (∃ o, H D = some o ∧ Ra g H a o) → stp ρ h a = .ok a' h' →
    wpAny (model Y.prog Y.w) Y.A inner (fun _ s' => ∃ σ' H' g', Inv Y ps σ' H' s' ∧ Knows τ σ' ∧ Stp g H g' H' ∧ RH (ct Y) g' h' H' ∧ Dz g' D ∧ ∃ o, H' D = some o ∧ Ra g' H' a' o) (fun _ _ => False) s
theorem acc_loop {α : Type} {Y : Cx} {node tg : Expr} {k : Nat} {it D : Addr} {ce : Env} {p : Pos} {inner : Sem Unit} {Jt : It} {fp : List Addr} {tn : Nat → Heap → Prop} {pins : List (Addr × Obj)} {τ : St} {R : Result → Shared → Prop} {s : Shared} {H : Hp} {Ra : Gh → Hp → α → HO → Prop} {stp : VSt → VH → α → Res α}
    {b : VV → VSt → Option VSt} {tgT : TG} {own : List Nat} {g : Gh} {h h' : VH} {a a' : α} {xs : List VV} {ρ : VSt}
    (hY : Y.calm = true) (hxe : ∀ e s, Y.xe e s → False) (he : Y.env = ce) (T : Turn Y.prog Y.w Y.K tg Jt fp it tn) (hct : compTurn node k (.ref it) (.ref D) ce = (do
      standAt p
      match ← pyNext (.ref it) with
      | none => pure (.done .next)
      | some v =>
        letOwnedTupleGo tg (.ref it) v
        (do assign tg ce v; inner)
        again (.compLoop node k (.ref it) (.ref D) ce)))
    (hq : (Code.compLoop node k (.ref it) (.ref D) ce).quiet = true) (hden : (model Y.prog Y.w).den (.compLoop node k (.ref it) (.ref D) ce) = (compTurn node k (.ref it) (.ref D) ce).onRaise (fun x => do noteFrame x ce; theTreesLotGoes x))
    (hund : Y.A.under (.compLoop node k (.ref it) (.ref D) ce) = Y.A)
    (pg : PG Y tg tgT) (pat : PatOk Y.K tgT b own) (hown : ∀ i ∈ own, ∀ v, τ[i]? ≠ some (some v)) (ok : StepOk Y τ inner D Ra stp)
    (hRa : ∀ g H g' H' a o, Stp g H g' H' → Ra g H a o → Ra g' H' a o)
    (I : Inv Y pins τ H s) (st : tn 0 s.heap) (hfp : ∀ (b : Addr) (G' : Hp), b ∈ fp → G' b = none → FpOk Y pins G' b) (nf : ∀ b ∈ fp, H b = none)
    (rh : RH (ct Y) g h H) (rs : RS (ct Y) g H ρ τ) (dz : Dz g D) (hD : ∃ o, H D = some o ∧ Ra g H a o) (dl : Deliv (ct Y) g H xs Jt) (res : accGo b stp ρ xs h a = .ok a' h')
    (fin : ∀ G' s' g', Inv Y pins τ G' s' → Stp g H g' G' → RH (ct Y) g' h' G' → Dz g' D → (∃ o, G' D = some o ∧ Ra g' G' a' o) → R (.ok .next) s')
    (hRt : ∀ g H a o, Ra g H a o → ∀ ps, o ≠ .tbl ps := by rintro g H a o ⟨_, rfl, _⟩ ps z; first | cases z | (unfold SetO at z; cases z)) :
    codeAny (model Y.prog Y.w) Y.A (.compLoop node k (.ref it) (.ref D) ce) R s := by
  subst he
  refine own_loop (m0 := xs.length) (body := fun v => do assign tg Y.env v; inner) (fun i m G => m = xs.length - i ∧ i ≤ xs.length ∧ ∃ gi hi ai, Stp g H gi G ∧ RH (ct Y) gi hi G ∧ Dz gi D ∧ (∃ o, G D = some o ∧ Ra gi G ai o) ∧ accGo b stp ρ (xs.drop i) hi ai = .ok a' h') hY T hct hq hden hund I st hfp nf ⟨by simp, Nat.zero_le _, g, h, a, .refl, rh, dz, hD, by rw [List.drop_zero]; exact res⟩ ?_
  rintro i m G1 ⟨rfl, hi, gi, hh, ai, sti, rhi, dzi, ⟨oi, hDi, rai⟩, resi⟩
  by_cases hlt : i < xs.length
  · refine .inr ⟨dl.go gi G1 sti.f i hlt, fun x G2 yl ps s2 u I2 rx => ?_⟩
    have ed : xs.drop i = xs[i] :: xs.drop (i + 1) := List.drop_eq_getElem_cons hlt
    rw [ed] at resi
    unfold accGo at resi
    -- D stays while the iterator yields
    have rhk : RH (ct Y) (gi.keep D) hh G1 := rhi.keep hDi dzi.nf dzi.ni (hRt _ _ _ _ rai)
    obtain ⟨g1, st1, rh1, rt1⟩ := dl.yld (gi.keep D) G1 (sti.trans .keep).f i xs[i] hh (List.getElem?_eq_getElem hlt) rhk x G2 yl
    have kD : g1.kp D := st1.kp D (.inr rfl)
    have hD2 : G2 D = G1 D := st1.kH D (.inr rfl)
    have st1b : Stp gi G1 (g1.back gi.kp) G2 := st1.back
    have rh1b : RH (ct Y) (g1.back gi.kp) hh G2 := rh1.back fun q z => st1.kp q (.inl z)
    have dz1 : Dz (g1.back gi.kp) D := ⟨(rh1.kd D kD).1, (rh1.kd D kD).2, dzi.nk⟩
    have rs1 : RS (ct Y) (g1.back gi.kp) G2 ρ τ := (rs.stp sti).stp st1b
    have rt1b : RT (ct Y) (g1.back gi.kp) G2 xs[i] x := rt1.back rfl rfl
    cases eb : b xs[i] ρ with
    | none => rw [eb] at resi; cases resi
    | some ρ' =>
      rw [eb] at resi
      simp only at resi
      cases es : stp ρ' hh ai with
      | no => rw [es] at resi; cases resi
      | exc _ _ _ _ => rw [es] at resi; cases resi
      | ok a2 h2 =>
        rw [es] at resi
        simp only [Res.bind] at resi
        have tgt := pat.run (ct Y) (g1.back gi.kp) hh G2 ρ τ xs[i] x ρ' rfl rh1b rs1 rt1b eb (fun σ' G' => G' = G2 ∧ RS (ct Y) (g1.back gi.kp) G2 ρ' σ' ∧ (∀ j, j ∉ own → σ'[j]? = τ[j]?) ∧ σ'.length = τ.length) fun σ' r o l => ⟨rfl, r, o, l⟩
        refine wpAny_bind (wpAny_mono (pg.run ps s2 τ G2 x u _ I2 rx tgt) (fun _ s3 z => ?_) fun e s z => (hxe e s z).elim)
        obtain ⟨σ3, G3, I3, eG, rs3, o3, l3⟩ := z
        subst eG
        have kn : Knows τ σ3 := ⟨l3.symm, fun j v e => by
          by_cases hj : j ∈ own
          · exact absurd e (hown j hj v)
          · rw [o3 j hj]; exact e⟩
        refine wpAny_mono (ok ps s3 σ3 G3 (g1.back gi.kp) ρ' hh ai a2 h2 I3 kn rh1b rs3 dz1 ⟨oi, hD2.trans hDi, hRa _ _ _ _ _ _ st1b rai⟩ es) (fun _ s4 z => ?_) fun _ _ z => z
        obtain ⟨σ4, G4, g4, I4, kn4, st4, rh4, dz4, hD4⟩ := z
        exact ⟨σ4, G4, I4, kn4, xs.length - (i + 1), by omega, rfl, hlt, g4, h2, a2, (sti.trans st1b).trans st4, rh4, dz4, hD4, resi⟩
  · have e : i = xs.length := by omega
    subst e
    rw [List.drop_length] at resi
    unfold accGo at resi
    cases resi
    exact .inl ⟨dl.stop gi G1 sti.f _ (Nat.le_refl _), fun s' I' => fin G1 s' gi I' sti rhi dzi ⟨oi, hDi, rai⟩⟩
end J
namespace J
open PySem L2
open PyProof.Rows (envOfC)
open PpSet (compTurn_set)
theorem ev_keep {Y : Cx} {e : Expr} {f : EF} {ps : List (Addr × Obj)} {s : Shared} {σ : St} {H : Hp} {g : Gh} {ρ : VSt} {h h1 : VH} {D : Addr} {o : HO} {v : VV} (hxe : ∀ e s, Y.xe e s → False) (pe : PE Y e (tE (ct Y) W0 f)) (I : Inv Y ps σ H s) (rh : RH (ct Y) g h H) (rs : RS (ct Y) g H ρ σ) (dz : Dz g D) (hD : H D = some o) (er : f ρ h = .ok v h1) (nt : ∀ ps, o ≠ .tbl ps := by intro _ z; subst_vars; first | cases z | (unfold SetO at z; cases z)) :
    wpAny (model Y.prog Y.w) Y.A (eval e Y.env) (fun u s' => ∃ H' g' x, Inv Y ps σ H' s' ∧ RelV x u ∧ Stp g H g' H' ∧ RH (ct Y) g' h1 H' ∧ RT (ct Y) g' H' v x ∧ Dz g' D ∧ H' D = some o) (fun _ _ => False) s := by
  refine wpAny_mono (pe.run ps s σ H (fun x H' => ∃ g', Stp g H g' H' ∧ RH (ct Y) g' h1 H' ∧ RT (ct Y) g' H' v x ∧ Dz g' D ∧ H' D = some o) I ⟨g.keep D, ρ, h, rh.keep hD dz.nf dz.ni nt, rs.stp .keep, ?_⟩) (fun u s' ⟨x, H', I', rx, g', a1, a2, a3, a4, a5⟩ => ⟨H', g', x, I', rx, a1, a2, a3, a4, a5⟩) fun e s z => (hxe e s z).elim
  rw [er]
  intro g' H' u st rh' rv
  have kD : g'.kp D := st.kp D (.inr rfl)
  exact ⟨g'.back g.kp, st.back, rh'.back fun q z => st.kp q (.inl z), rv.back rfl rfl, ⟨(rh'.kd D kD).1, (rh'.kd D kD).2, dz.nk⟩, (st.kH D (.inr rfl)).trans hD⟩
theorem ct_set (elt target iter : Expr) (scope : Scope) (pos : Pos) (it acc : Value) (env : Env) :
    compTurn (.SetComp elt [⟨target, iter, [], 0⟩] scope pos) 0 it acc env = (do
      standAt iter.pos
      match ← pyNext it with
      | none => pure (.done .next)
      | some v =>
        letOwnedTupleGo target it v
        (do assign target env v; (do let v ← eval elt env; standAt elt.pos; let _ ← call (.builtin "set.add") [acc, v]))
        again (.compLoop (.SetComp elt [⟨target, iter, [], 0⟩] scope pos) 0 it acc env)) := by
  rw [compTurn_set]
  simp only [List.forIn_nil, pure_bind, bind_assoc, if_true]
  rfl
theorem ct_dict_out (kx vx t0 i0 t1 i1 : Expr) (scope : Scope) (pos : Pos) (it acc : Value) (env : Env) :
    compTurn (.DictComp kx vx [⟨t0, i0, [], 0⟩, ⟨t1, i1, [], 0⟩] scope pos) 0 it acc env = (do
      standAt i0.pos
      match ← pyNext it with
      | none => pure (.done .next)
      | some v =>
        letOwnedTupleGo t0 it v
        (do assign t0 env v; (do let x ← eval i1 env; standAt i1.pos; let x ← foldedSetIterable i1 env x; let _ ← runOwn (.compStart (.DictComp kx vx [⟨t0, i0, [], 0⟩, ⟨t1, i1, [], 0⟩] scope pos) 1 (← holding [x] (pyIter x)) acc env) env))
        again (.compLoop (.DictComp kx vx [⟨t0, i0, [], 0⟩, ⟨t1, i1, [], 0⟩] scope pos) 0 it acc env)) := by
  unfold compTurn
  simp only [List.forIn_nil, pure_bind, bind_assoc, if_true]
  rfl
theorem ct_dict_in (kx vx t0 i0 t1 i1 : Expr) (scope : Scope) (pos : Pos) (it : Value) (D : Addr) (env : Env) :
    compTurn (.DictComp kx vx [⟨t0, i0, [], 0⟩, ⟨t1, i1, [], 0⟩] scope pos) 1 it (.ref D) env = (do
      standAt i1.pos
      match ← pyNext it with
      | none => pure (.done .next)
      | some v =>
        letOwnedTupleGo t1 it v
        (do assign t1 env v; (do let kv ← eval kx env; let vv ← holding [kv] (eval vx env); standAt { kx.pos with endLine := vx.pos.endLine, endCol := vx.pos.endCol }; holding [kv, vv] (dictSet D kv vv)))
        again (.compLoop (.DictComp kx vx [⟨t0, i0, [], 0⟩, ⟨t1, i1, [], 0⟩] scope pos) 1 it (.ref D) env)) := by
  unfold compTurn
  simp only [List.forIn_nil, pure_bind, bind_assoc, if_true]
  rfl
theorem cs_dict_in {prog : Program} {w : World} {A : Around} {R : Result → Shared → Prop} {s : Shared} {kx vx t0 i0 t1 i1 : Expr} {scope : Scope} {pos : Pos} {it acc : Value} {env : Env}
    (h0 : codeAny (model prog w) A (.compLoop (.DictComp kx vx [⟨t0, i0, [], 0⟩, ⟨t1, i1, [], 0⟩] scope pos) 1 it acc env) R s)
    (h : wpAny (model prog w) A (pyIter it) (fun it' s' => codeAny (model prog w) A (.compLoop (.DictComp kx vx [⟨t0, i0, [], 0⟩, ⟨t1, i1, [], 0⟩] scope pos) 1 it' acc env) R s') (notedBy (model prog w) A env fun x s' => R (.error x) s') s) :
    codeAny (model prog w) A (.compStart (.DictComp kx vx [⟨t0, i0, [], 0⟩, ⟨t1, i1, [], 0⟩] scope pos) 1 it acc env) R s := by
  apply codeAny_of_tree
  show wpAny _ _ ((compStart (.DictComp kx vx [⟨t0, i0, [], 0⟩, ⟨t1, i1, [], 0⟩] scope pos) 1 it acc env).onRaise (fun x => do noteFrame x env; standAt theWindowsPlace)) _ _ s
  apply wpAny_notedAt
  unfold compStart
  show wpAny _ _ (ask >>= _) _ _ s
  apply wpAny_bind
  apply wpAny_askSetting
  apply wpAny_ite
  split
  · first
      | exact wpAny_pure ⟨rfl, h0⟩
      | exact wpAny_bind (wpAny_pure (wpAny_pure ⟨rfl, h0⟩))
  · apply wpAny_bind
    apply wpAny_rule
    first
      | (apply wpAny_bind; apply wpAny_standAt; apply wpAny_bind; exact wpAny_mono h (fun it' s' q => wpAny_pure ⟨rfl, q⟩) fun _ _ q => q)
      | (show wpAny _ _ (standAt i1.pos >>= _) _ _ s; apply wpAny_bind; apply wpAny_standAt; apply wpAny_bind; exact wpAny_mono h (fun it' s' q => wpAny_pure ⟨rfl, q⟩) fun _ _ q => q)
def noX {α : Type} : Res α → Res α
  | .ok a h => .ok a h
  | _ => .no
/-- a comprehension whose accumulator is any one thing -/
theorem acc_PE {α : Type} {X : Cx} {W : WX} {node tg iter : Expr} {gs : List Comprehension} {scope : Scope} {own : List (Str × Nat)} {pos' p : Pos} {new : Sem Value} {o0 : Obj} {O : Addr → HO} {Ra : Addr → Gh → Hp → α → HO → Prop} {stp : VSt → VH → α → Res α} {b : VV → VSt → Option VSt} {tgT : TG} {it : AF} {a0 : α} {inner : Addr → Env → Sem Unit} {own1 : List Nat}
    (heval : eval node X.env = comprehension node scope X.env pos' new false (eval iter X.env) none)
    (hcl : clausesOf node = ⟨tg, iter, [], 0⟩ :: gs) (hc : X.calm = true) (hN : X.N.Nodup) (hi : PI X tg iter (tI (ct X) W it)) (ok : BlkOk X.N X.env.scope scope own) (hs : ∀ x, foldedSetIterable iter X.env x = pure x)
    (hnew : ∀ (s : Shared) (E Q : Value → Shared → Prop), Q (.ref s.heap.objs.size) { s with heap := s.heap.push o0 } → wpAny (model X.prog X.w) X.A new Q E s)
    (hO : ∀ (h : Heap) (G : Hp), sysModules < h.objs.size → ObjOk X.prog X.w G (h.push o0) h.objs.size (O h.objs.size))
    (hst : ∀ (it acc : Value) (env : Env) (R : Result → Shared → Prop) (s : Shared), codeAny (model X.prog X.w) X.A (.compLoop node 0 it acc env) R s →
      wpAny (model X.prog X.w) X.A (pyIter it) (fun it' s' => codeAny (model X.prog X.w) X.A (.compLoop node 0 it' acc env) R s') (notedBy (model X.prog X.w) X.A env fun x s' => R (.error x) s') s → codeAny (model X.prog X.w) X.A (.compStart node 0 it acc env) R s)
    (hct : ∀ (it D : Addr) (ce : Env), compTurn node 0 (.ref it) (.ref D) ce = (do
      standAt p
      match ← pyNext (.ref it) with
      | none => pure (.done .next)
      | some v =>
        letOwnedTupleGo tg (.ref it) v
        (do assign tg ce v; inner D ce)
        again (.compLoop node 0 (.ref it) (.ref D) ce)))
    (hq : ∀ (it D : Addr) (ce : Env), (Code.compLoop node 0 (.ref it) (.ref D) ce).quiet = true)
    (hden : ∀ (it D : Addr) (ce : Env), (model X.prog X.w).den (.compLoop node 0 (.ref it) (.ref D) ce) = (compTurn node 0 (.ref it) (.ref D) ce).onRaise (fun x => do noteFrame x ce; theTreesLotGoes x))
    (hund : ∀ (it D : Addr) (ce : Env), X.A.under (.compLoop node 0 (.ref it) (.ref D) ce) = X.A)
    (hg : ∀ (s : Shared) (H : Hp) (C : Addr) (cl : List (Str × Addr)) (fp : List Addr), PG (X.blk s H scope (compEnvC scope cl C X.env) fp) tg tgT) (pat : PatOk X.K tgT b own1) (hown1 : ∀ i ∈ own1, i ∈ own.map (·.2))
    (hRa : ∀ D g H g' H' a o, Stp g H g' H' → Ra D g H a o → Ra D g' H' a o) (hR0 : ∀ D g H, Ra D g H a0 (O D))
    (hok : ∀ (s : Shared) (H : Hp) (C : Addr) (cl : List (Str × Addr)) (fp : List Addr) (D : Addr) (τ : St), (∀ i ∈ own.map (·.2), ∀ v, τ[i]? ≠ some (some v)) → StepOk (X.blk s H scope (compEnvC scope cl C X.env) fp) τ (inner D (compEnvC scope cl C X.env)) D (Ra D) stp)
    (hRt : ∀ D g H a o, Ra D g H a o → ∀ ps, o ≠ .tbl ps := by rintro D g H a o ⟨_, rfl, _⟩ ps z; first | cases z | (unfold SetO at z; cases z)) :
    PE X node (tG (ct X) W (fun g H a u => ∃ D o, u = .ref D ∧ Dz g D ∧ H D = some o ∧ Ra D g H a o) (fun ρ h => (it ρ h).bind fun xs h1 => noX (accGo b stp (wp ρ (own.map (·.2))) xs h1 a0))) := by
  refine ⟨fun pins s σ H Q I h => ?_⟩
  rw [heval]
  refine blk_enter (O := O) (Q := Q) (fun Jt D H3 => ∃ g1 ρ1 xs h1, RH (ct X) g1 h1 H3 ∧ RS (ct X) g1 H3 ρ1 σ ∧ Deliv (ct X) g1 H3 xs Jt ∧ Dz g1 D ∧ (∃ o, H3 D = some o ∧ Ra D g1 H3 a0 o) ∧
    Pst (ct X) W σ (fun g H a u => ∃ D o, u = .ref D ∧ Dz g D ∧ H D = some o ∧ Ra D g H a o) g1 H3 Q (noX (accGo b stp (wp ρ1 (own.map (·.2))) xs h1 a0))) hcl hN I hi ok hs hnew hO hst ?_ ?_
  · obtain ⟨g, ρ, h0, rh, rs, pp⟩ := tG.bind (R := fun g H xs J => Deliv (ct X) g H xs J) (f := it) (k := fun (xs : List VV) ρ h1 => noX (accGo b stp (wp ρ (own.map (·.2))) xs h1 a0)) h
    refine ⟨g, ρ, h0, rh, rs, pp.imp fun Jt H1 ⟨g1, ρ1, xs, h1, rh1, rs1, dl, p1⟩ D hD => ?_⟩
    have st : Stp g1 H1 g1 (upd H1 D (O D)) := .junk rh1 hD
    refine ⟨g1, ρ1, xs, h1, rh1.junk hD, rs1.stp st, ⟨fun g' H' f => dl.go g' H' (st.f.trans f), fun g' H' f => dl.stop g' H' (st.f.trans f), fun g' H' f => dl.yld g' H' (st.f.trans f)⟩, ⟨fun z => ?_, fun z => ?_, fun z => ?_⟩, ⟨_, upd_same, hR0 D g1 _⟩, Pst.step st p1⟩
    · obtain ⟨o, e⟩ := rh1.fz D z; rw [hD] at e; cases e
    · obtain ⟨o, e⟩ := rh1.root z; rw [hD] at e; cases e
    · obtain ⟨o, e⟩ := rh1.kp D z; rw [hD] at e; cases e
  · rintro s3 H3 C cl fp itA D tn Jt s4 R ⟨g1, ρ1, xs, h1, rh1, rs1, dl, dz, hD, pp⟩ I4 T st4 nfp stat fin
    have wn : ∀ i ∈ own.map (·.2), ∀ v, (wipe σ (own.map (·.2)))[i]? ≠ some (some v) := fun i hi v e => (wipe_some e).2 hi
    cases er : accGo b stp (wp ρ1 (own.map (·.2))) xs h1 a0 with
    | no => rw [er] at pp; exact pp.elim
    | exc _ _ _ _ => rw [er] at pp; exact pp.elim
    | ok a' h' =>
      rw [er] at pp
      refine acc_loop (Y := X.blk s3 H3 scope (compEnvC scope cl C X.env) fp) (ρ := wp ρ1 (own.map (·.2))) (a := a0) hc (fun _ _ z => z) rfl T (hct itA D _) (hq itA D _) (hden itA D _) (hund itA D _) (hg s3 H3 C cl fp) pat (fun i hi => wn i (hown1 i hi)) (hok s3 H3 C cl fp D _ wn) (hRa D) I4 st4 stat nfp rh1 (rs1.wipe _) dz hD dl er ?_ (hRt D)
      intro G' s' g' I' st' rh' dz' ⟨o, e1, e2⟩
      exact fin G' s' I' (pp g' G' (.ref D) st' rh' ⟨D, o, rfl, dz', e1, e2⟩)
end J
namespace J
open PySem L2
open PyProof.Rows (envOfC)
theorem RH.wrD {c : Ct} {g : Gh} {h : VH} {H : Hp} {D : Addr} {O : HO} (rh : RH c g h H) (dz : Dz g D) (nt : ∀ us, H D ≠ some (.tup us)) (nb : NoTab D (H D)) : RH c g h (upd H D O) := by
  have stw : Stp g H g (upd H D O) := Stp.wr (c := c) dz.nf dz.nk nt
  refine ⟨rh.len, rh.nd, fun n o' b q1 q2 => ?_, fun q z => ?_, fun q z => ?_, rh.kd, rh.tb.upd nb, fun q z ps y => rh.nt q z ps (by rw [upd_ne (show q ≠ D from fun e => z.elim (fun z => dz.nf (e ▸ z)) (fun z => dz.nk (e ▸ z)))] at y; exact y)⟩
  · have nb : b ≠ D := fun e => dz.ni (e ▸ List.mem_of_getElem? q2)
    exact RO.stp stw (fun x => x) (upd_ne nb) (rh.at' n o' b q1 q2)
  · rw [upd_ne (show q ≠ D from fun e => dz.nf (e ▸ z))]; exact rh.fz q z
  · rw [upd_ne (show q ≠ D from fun e => dz.nk (e ▸ z))]; exact rh.kp q z
theorem noTab_setO {w : World} {D : Addr} {S : Int → Bool} {n : Nat} : NoTab D (some (SetO w D S n)) := by
  refine ⟨fun _ z => (by unfold SetO at z; cases z), fun q z => ?_⟩
  unfold SetO LamX.CodeO at z
  have e := HO.ext.inj (Option.some.inj z)
  let ob : Obj := { cls := .none, data := .fields #[.none, .str q 0] }
  let h0 : Heap := { objs := Array.replicate (D + 1) ob }
  have g0 : h0.get? D = some ob := by
    show (match (Array.replicate (D + 1) ob)[D]? with | some ⟨_, _, .freed, _⟩ => none | o => o) = some ob
    rw [Array.getElem?_replicate, if_pos (Nat.lt_succ_self D)]
  have k := congrFun e h0
  have y : SetR w h0 D S n := by
    rw [k]
    exact ⟨ob, _, 0, g0, rfl, rfl⟩
  obtain ⟨o, _, _, _, ho, hr⟩ := y
  rw [g0] at ho
  cases ho
  simp [ob] at hr
/-! len({e for x in xs}), ints -/
def stSet (fe : EF) : VSt → VH → List Int → Res (List Int) := fun ρ h a => (fe ρ h).bind fun v h1 => match v with
  | .int i => if a.length ≥ 4000 then .no else .ok (if i ∈ a then a else a ++ [i]) h1
  | _ => .no
def RaSet (w : World) (D : Addr) (_ : Gh) (_ : Hp) (a : List Int) (o : HO) : Prop := ∃ S, o = SetO w D S a.length ∧ ∀ j, S j = decide (j ∈ a)
theorem addI_ok {Y : Cx} {ps : List (Addr × Obj)} {σ : St} {H : Hp} {s : Shared} {E : Value → Shared → Prop} {D : Addr} {S : Int → Bool} {n : Nat} {i : Int} {t : Tok} {Q : Value → Shared → Prop} (I : Inv Y ps σ H s) (hD : H D = some (SetO Y.w D S n)) (room : n + 1 < scanBound)
    (h : ∀ s', Inv Y ps σ (upd H D (SetO Y.w D (fun j => S j || decide (j = i)) (if S i = true then n else n + 1))) s' → Q .none s') : wpAny (model Y.prog Y.w) Y.A (call (.builtin "set.add") [.ref D, .int i t]) Q E s := by
  have R := setO_get I hD
  refine setR_add R room fun h' sb new => h _ ?_
  have he : ∃ u, h'.get? D = some u := by
    obtain ⟨o, _, _, _, ho, _⟩ := new
    exact ⟨o, ho⟩
  exact I.write (e := D) (t' := s.toks + 1) (by rw [hD]; trivial) (.inl rfl) (fun b u hb hu => (sb.2 b hb).trans hu) he (setO_new new)
theorem step_set {Y : Cx} {τ : St} {elt : Expr} {fe : EF} {D : Addr} (hxe : ∀ e s, Y.xe e s → False) (pe : PE Y elt (tE (ct Y) W0 fe)) :
    StepOk Y τ (do let v ← eval elt Y.env; standAt elt.pos; let _ ← call (.builtin "set.add") [.ref D, v]) D (RaSet Y.w D) (stSet fe) := by
  intro ps s σ H g ρ h a a' h' I kn rh rs dz ⟨o, hD, S, eo, hS⟩ es
  unfold stSet at es
  cases ee : fe ρ h with
  | no => rw [ee] at es; cases es
  | exc _ _ _ _ => rw [ee] at es; cases es
  | ok v h1 =>
    rw [ee] at es
    simp only [Res.bind] at es
    split at es
    · rename_i i
      split at es
      · cases es
      · rename_i room
        cases es
        refine wpAny_bind (wpAny_mono (ev_keep hxe pe I rh rs dz hD ee) (fun u s1 z => ?_) fun _ _ z => z)
        obtain ⟨H1, g1, x, I1, rx, st1, rh1, rv1, dz1, hD1⟩ := z
        have ex := int_get rv1
        subst ex
        obtain ⟨t, rfl⟩ := (show ∃ t, u = Value.int i t from rx)
        rw [eo] at hD1
        refine wpAny_bind (wpAny_standAt (wpAny_bind (addI_ok I1 hD1 (show a.length + 1 < 4096 by omega) fun s2 I2 => wpAny_pure ?_)))
        have stw : Stp g1 H1 g1 (upd H1 D (SetO Y.w D (fun j => S j || decide (j = i)) (if S i = true then a.length else a.length + 1))) := Stp.wr (c := ct Y) dz1.nf dz1.nk (fun ys z => by rw [hD1] at z; cases z)
        refine ⟨σ, _, g1, I2, kn, st1.trans stw, ?_, dz1, _, upd_same, (fun j => S j || decide (j = i)), ?_, fun j => ?_⟩
        · exact rh1.wrD dz1 (fun ys z => by rw [hD1] at z; cases z) (by rw [hD1]; exact noTab_setO)
        · have e1 : (if S i = true then a.length else a.length + 1) = (if i ∈ a then a else a ++ [i]).length := by
            rw [hS i]
            by_cases m : i ∈ a
            · simp [m]
            · simp [m]
          rw [e1]
        · show (S j || decide (j = i)) = _
          rw [hS j]
          by_cases m : i ∈ a
          · rw [if_pos m]
            by_cases e : j = i
            · subst e; simp [m]
            · simp [e]
          · rw [if_neg m]
            simp
    · cases es
section
variable {X : Cx} {W : WX}
def rLenSO (w : World) : List V → Hp → VK → Prop := fun xs H Q => ∃ (D : Addr) (S : Int → Bool) (n : Nat), xs = [.ref D] ∧ H D = some (SetO w D S n) ∧ Q (.int n) H
theorem call_lenSO : CallR X (.builtin "len") (rLenSO X.w) := by
  intro pins s σ H xs us Q I r h
  obtain ⟨D, S, n, rfl, hD, q⟩ := h
  obtain ⟨u, rfl, ru⟩ := vals1 r
  cases ru
  obtain ⟨o, es, ep, t, ho, hx, hd, g, nd, hm, hb, hf, hn, _⟩ := setO_get I hD
  subst hn
  have hb' : es.size < 4096 := hb
  exact call_len_set ho hx hd hf (by omega) ⟨.int es.size, H, (I.tok _).tok _, ⟨_, rfl⟩, q⟩
def eLenSc (own : List Nat) (it : AF) (b : VV → VSt → Option VSt) (fe : EF) : EF := fun ρ h => (it ρ h).bind fun xs h1 => (noX (accGo b (stSet fe) (wp ρ own) xs h1 [])).bind fun a h2 => .ok (.int a.length) h2
theorem res_assoc {α β γ : Type} {r : Res α} {k : α → VH → Res β} {m : β → VH → Res γ} : (r.bind k).bind m = r.bind fun a h => (k a h).bind m := by cases r <;> rfl
theorem j_lenSc {elt tg iter : Expr} {scope : Scope} {own : List (Str × Nat)} {p pos cpos : Pos} {it : AF} {tgT : TG} {b : VV → VSt → Option VSt} {fe : EF} (hc : X.calm = true) (hN : X.N.Nodup) (hg : Gl X "len") (hm : X.mg "len" = none) (hi : PI X tg iter (tI (ct X) W it)) (ok : BlkOk X.N X.env.scope scope own)
    (hgt : ∀ (s : Shared) (H : Hp) (C : Addr) (cl : List (Str × Addr)) (fp : List Addr), PG (X.blk s H scope (compEnvC scope cl C X.env) fp) tg tgT) (pat : PatOk X.K tgT b (own.map (·.2)))
    (he : ∀ (s : Shared) (H : Hp) (C : Addr) (cl : List (Str × Addr)) (fp : List Addr), PE (X.blk s H scope (compEnvC scope cl C X.env) fp) elt (tE (ct X) W0 fe)) (hs : ∀ x, foldedSetIterable iter X.env x = pure x := by intro _; rfl)
    (hst1 : starEach [.SetComp elt [⟨tg, iter, [], 0⟩] scope pos] X.env = (false, eval (.SetComp elt [⟨tg, iter, [], 0⟩] scope pos) X.env) :: starEach [] X.env := by rfl) (hpl : (backTo cpos (starEach [] X.env)).any (·.1) = false := by rfl) :
    PE X (.Call (.Name "len" p) [.SetComp elt [⟨tg, iter, [], 0⟩] scope pos] [] cpos) (tE (ct X) W (eLenSc (own.map (·.2)) it b fe)) := by
  have key := acc_PE (X := X) (W := W) (node := .SetComp elt [⟨tg, iter, [], 0⟩] scope pos) (new := newSet (.type "set")) (O := fun D => SetO X.w D (fun _ => false) 0) (Ra := RaSet X.w) (stp := stSet fe) (a0 := []) (p := iter.pos)
    (inner := fun D env => do let v ← eval elt env; standAt elt.pos; let _ ← call (.builtin "set.add") [.ref D, v]) (PpSet.eval_SetComp elt _ scope pos) rfl hc hN hi ok hs (fun s E Q h => PpSet.newSet_ok h) (fun h G hb => setO_new (setR_fresh X.w)) (fun it acc env R s a b => PpSet.codeAny_compStart_set a b)
    (fun it D ce => ct_set elt tg iter scope pos (.ref it) (.ref D) ce) (fun _ _ _ => rfl) (fun _ _ _ => rfl) (fun _ _ _ => rfl) hgt pat (fun i hi => hi) (fun D g H g' H' a o _ h => h) (fun D g H => ⟨_, rfl, fun j => by simp⟩)
    (fun s H C cl fp D τ _ => step_set (Y := X.blk s H scope (compEnvC scope cl C X.env) fp) (fun _ _ z => z) (he s H C cl fp))
  refine PE.mono (pe_callB (call_lenSO (X := X)) hg hm rfl (pa_cons key pa_nil hst1) (by decide) (by decide) hst1 hpl) fun σ H Q h => ?_
  have h2 := tG.bind (R := fun g H (a : List Int) u => ∃ D o, u = V.ref D ∧ Dz g D ∧ H D = some o ∧ RaSet X.w D g H a o) (f := fun ρ h => (it ρ h).bind fun xs h1 => noX (accGo b (stSet fe) (wp ρ (own.map (·.2))) xs h1 [])) (k := fun (a : List Int) ρ h2 => .ok (VV.int a.length) h2) (R' := RT (ct X)) (W := W) (Q := Q) (by
    obtain ⟨g, ρ, h0, rh, rs, pp⟩ := h
    refine ⟨g, ρ, h0, rh, rs, ?_⟩
    unfold eLenSc at pp
    show Pst (ct X) W σ (RT (ct X)) g H Q (((it ρ h0).bind fun xs h1 => noX (accGo b (stSet fe) (wp ρ (own.map (·.2))) xs h1 [])).bind fun a h2 => .ok (VV.int a.length) h2)
    rw [res_assoc]
    exact pp)
  obtain ⟨g, ρ, h0, rh, rs, pp⟩ := h2
  refine ⟨g, ρ, h0, rh, rs, pp.imp fun u H1 ⟨g1, ρ1, a, h1, rh1, rs1, ⟨D, o, eu, dz, hD, S, eo, _⟩, p1⟩ => ?_⟩
  subst eu eo
  exact ⟨D, S, a.length, rfl, hD, p1 g1 H1 (.int a.length) .refl rh1 rt_int⟩
end
end J
namespace J
open PySem L2
open PyProof.Rows (envOfC)
/-! dicts whose keys are tuples -/
def keyA : VV → Option Key
  | .int i => some (.inl i)
  | .str x => some (.inr x)
  | _ => none
def keyL : List VV → Option (List Key)
  | [] => some []
  | x :: xs => (keyA x).bind fun a => (keyL xs).map fun r => a :: r
def keyV : VV → Option (List Key)
  | .tup xs => keyL xs
  | _ => none
theorem keyL_vals {c : Ct} {z : Addr → Prop} {H : Hp} : ∀ {xs : List VV} {us : List V} {k : List Key}, RVs c z H xs us → keyL xs = some k → us = k.map kV
  | [], us, k, r, e => by
    cases e
    rw [RVs] at r
    rw [r]; rfl
  | x :: xs, us, k, r, e => by
    rw [RVs] at r
    obtain ⟨u, q, rfl, a, b⟩ := r
    unfold keyL at e
    obtain ⟨y, e1, e2⟩ := Option.bind_eq_some_iff.mp e
    obtain ⟨l, e3, e4⟩ := Option.map_eq_some_iff.mp e2
    subst e4
    rw [keyL_vals b e3, List.map_cons]
    congr 1
    cases x with
    | int i => cases e1; rw [RV] at a; exact a
    | str i => cases e1; rw [RV] at a; exact a
    | _ => cases e1
theorem keyV_at {c : Ct} {g : Gh} {H : Hp} {v : VV} {u : V} {k : List Key} (r : RT c g H v u) (e : keyV v = some k) : ∃ b, u = .ref b ∧ H b = some (.tup (k.map kV)) := by
  cases v with
  | tup xs =>
    obtain ⟨p, us, rfl, ta, rs⟩ := tup_get r
    refine ⟨p, rfl, ?_⟩
    rw [← keyL_vals rs e]
    exact ta
  | _ => cases e
def hasK (ks : List (List Key)) (k : List Key) : Bool := ks.any fun x => decide (x = k)
/-- in its place, or at the end -/
def putVs {α : Type} (ks : List (List Key)) (vs : List α) (k : List Key) (v : α) : List α := if hasK ks k = true then (ks.zip vs).map (fun p => if p.1 = k then v else p.2) else vs ++ [v]
def putKs (ks : List (List Key)) (k : List Key) : List (List Key) := if hasK ks k = true then ks else ks ++ [k]
theorem zip_any {ks : List (List Key)} {us : List V} (hl : ks.length = us.length) (k : List Key) : ((ks.zip us).any fun kv => decide (kv.1 = k)) = hasK ks k := by
  unfold hasK
  induction ks generalizing us with
  | nil => simp
  | cons x xs ih =>
    cases us with
    | nil => cases hl
    | cons u us =>
      simp only [List.zip_cons_cons, List.any_cons, ih (Nat.succ.inj hl)]
theorem zip_put {ks : List (List Key)} {us : List V} (hl : ks.length = us.length) (k : List Key) (u : V) : putK (ks.zip us) k u = (putKs ks k).zip (putVs ks us k u) := by
  unfold putK putKs putVs
  rw [zip_any hl]
  by_cases m : hasK ks k = true
  · rw [if_pos m, if_pos m, if_pos m]
    clear m
    induction ks generalizing us with
    | nil => rfl
    | cons x xs ih =>
      cases us with
      | nil => cases hl
      | cons w us =>
        simp only [List.zip_cons_cons, List.map_cons, ih (Nat.succ.inj hl)]
        congr 1
        split <;> rfl
  · rw [if_neg m, if_neg m, if_neg m, List.zip_append hl]
    rfl
theorem put_len {α : Type} {ks : List (List Key)} {vs : List α} (hl : ks.length = vs.length) (k : List Key) (v : α) : (putKs ks k).length = (putVs ks vs k v).length := by
  unfold putKs putVs
  split
  · simp [hl]
  · simp [hl]
theorem RVs.put {c : Ct} {z : Addr → Prop} {H : Hp} {ks : List (List Key)} {vs : List VV} {us : List V} {k : List Key} {v : VV} {u : V} (hl : ks.length = us.length) (r : RVs c z H vs us) (q : RV c z H v u) : RVs c z H (putVs ks vs k v) (putVs ks us k u) := by
  unfold putVs
  split
  · rename_i m
    clear m
    induction ks generalizing vs us with
    | nil => simp only [List.zip_nil_left, List.map_nil]; exact RVs.nil
    | cons x xs ih =>
      cases us with
      | nil => cases hl
      | cons w us =>
        cases vs with
        | nil => rw [RVs] at r; cases r
        | cons y ys =>
          rw [RVs] at r
          obtain ⟨a1, a2, e, a3, a4⟩ := r
          cases e
          simp only [List.zip_cons_cons, List.map_cons]
          refine RVs.cons ?_ (ih (Nat.succ.inj hl) a4)
          by_cases e : x = k
          · rw [if_pos e, if_pos e]; exact q
          · rw [if_neg e, if_neg e]; exact a3
  · exact RVs.app r (RVs.one q)
theorem dict_setT {X : Cx} {pins : List (Addr × Obj)} {σ : St} {H : Hp} {s : Shared} {E : Value → Shared → Prop} {D b : Addr} {kvs : List (List Key × V)} {k : List Key} {v : V} {r : Value} {Q : Unit → Shared → Prop} (hu : X.A.units < cLine) (I : Inv X pins σ H s) (hD : H D = some (.dT kvs)) (hz : kvs.length < sizeLine)
    (eb : H b = some (.tup (k.map kV))) (rv : RelV v r) (h : ∀ s', Inv X pins σ (upd H D (.dT (putK kvs k v))) s' → Q () s') : wpAny (model X.prog X.w) X.A (dictSet D (.ref b) r) Q E s := by
  obtain ⟨z, hd, xs, rel, dd⟩ := dt_of I.hok hD
  have z1 : xs.length ≤ sizeLine := by rw [← Paired.length rel]; exact z
  have z2 : (putK kvs k v).length ≤ sizeLine := Nat.le_trans (length_putK kvs k v) (by omega)
  refine wpAny_dictSet_heap (hsz := z1) (show (tupleKind (mixKind X.prog X.w)).room X.A from hu) (key_of I.hok eb) dd fun h' dd' hs => h _ ?_
  obtain ⟨q, es, ep, hq, q2, q3, q4, _, q5⟩ := dd'
  exact d_write I (by rw [hD]; exact True.intro) hs ⟨q, hq⟩ ⟨z2, hd, _, (rel.put k eb rv).keeps (fun c ys ec => by rw [upd_ne (ne_of ec hD (fun z => nomatch z))]; exact ec), q, es, ep, hq, q2, q3, q4, q5⟩
end J
namespace J
open PySem L2
open PyProof.Rows (envOfC)
/-! {k: v for x in xs for y in ys}, keys tuples -/
abbrev DA := List (List Key) × List VV
def stDict (fk fv : EF) : VSt → VH → DA → Res DA := fun ρ h a => (fk ρ h).bind fun kv h1 => (fv ρ h1).bind fun v h2 => match keyV kv with
  | some k => if v.isObj = true ∨ a.1.length ≥ SZ then .no else .ok (putKs a.1 k, putVs a.1 a.2 k v) h2
  | none => .no
def stIn {α : Type} (it1 : AF) (b1 : VV → VSt → Option VSt) (vs1 : List Nat) (stp : VSt → VH → α → Res α) : VSt → VH → α → Res α := fun ρ h a => (it1 ρ h).bind fun xs h1 => accGo b1 stp (wp ρ vs1) xs h1 a
def RaD (c : Ct) (_ : Addr) (g : Gh) (H : Hp) (a : DA) (o : HO) : Prop := ∃ us, o = .dT (a.1.zip us) ∧ a.1.length = us.length ∧ RVs c g.fz H a.2 us
theorem RaD.nt {c : Ct} {D : Addr} {g : Gh} {H : Hp} {a : DA} {o : HO} (h : RaD c D g H a o) (ps : Array Value) : o ≠ .tbl ps := by
  obtain ⟨us, rfl, _⟩ := h
  intro z
  cases z
theorem RaD.stp {c : Ct} {D : Addr} {g g' : Gh} {H H' : Hp} {a : DA} {o : HO} (s : Stp g H g' H') (h : RaD c D g H a o) : RaD c D g' H' a o := by
  obtain ⟨us, e, l, r⟩ := h
  exact ⟨us, e, l, s.rvs r⟩
theorem step_dict {Y : Cx} {τ : St} {kx vx : Expr} {fk fv : EF} {D : Addr} {p : Pos} (hu : Y.A.units < cLine) (hxe : ∀ e s, Y.xe e s → False) (pk : PE Y kx (tE (ct Y) W0 fk)) (pv : PE Y vx (tE (ct Y) W0 fv)) :
    StepOk Y τ (do let kv ← eval kx Y.env; let vv ← holding [kv] (eval vx Y.env); standAt p; holding [kv, vv] (dictSet D kv vv)) D (RaD (ct Y) D) (stDict fk fv) := by
  intro ps s σ H g ρ h a a' h' I kn rh rs dz ⟨o, hD, ra⟩ es
  unfold stDict at es
  cases e1 : fk ρ h with
  | no => rw [e1] at es; cases es
  | exc _ _ _ _ => rw [e1] at es; cases es
  | ok kv h1 =>
    rw [e1] at es
    simp only [Res.bind] at es
    cases e2 : fv ρ h1 with
    | no => rw [e2] at es; cases es
    | exc _ _ _ _ => rw [e2] at es; cases es
    | ok v h2 =>
      rw [e2] at es
      simp only at es
      cases e3 : keyV kv with
      | none => rw [e3] at es; cases es
      | some k =>
        rw [e3] at es
        simp only at es
        split at es
        · cases es
        · rename_i cc
          cases es
          rw [not_or] at cc
          refine wpAny_bind (wpAny_mono (ev_keep hxe pk I rh rs dz hD e1 ra.nt) (fun u s1 z => ?_) fun _ _ z => z)
          obtain ⟨H1, g1, x, I1, rx, st1, rh1, rv1, dz1, hD1⟩ := z
          refine wpAny_bind (wpAny_holding (wpAny_mono (ev_keep hxe pv I1 rh1 (rs.stp st1) dz1 hD1 e2 ra.nt) (fun w s2 z => ?_) fun _ _ z => z))
          obtain ⟨H2, g2, y, I2, ry, st2, rh2, rv2, dz2, hD2⟩ := z
          obtain ⟨b, eb, hb⟩ := keyV_at (rv1.stp st2) e3
          subst eb
          obtain rfl : u = Value.ref b := rx
          obtain ⟨us, eo, hl, rvs⟩ := ra
          subst eo
          refine wpAny_bind (wpAny_standAt (wpAny_holding (dict_setT hu I2 hD2 (by rw [List.length_zip, ← hl, Nat.min_self]; exact SZ_lt (by omega)) hb ry fun s3 I3 => ?_)))
          have stw : Stp g2 H2 g2 (upd H2 D (.dT (putK (a.1.zip us) k y))) := Stp.wr (c := ct Y) dz2.nf dz2.nk (fun ys z => by rw [hD2] at z; cases z)
          refine ⟨σ, _, g2, I3, kn, (st1.trans st2).trans stw, rh2.wrD dz2 (fun ys z => by rw [hD2] at z; cases z) (by rw [hD2]; exact noTab_of (fun _ z => by cases z) (fun _ z => by cases z)), dz2, _, upd_same, putVs a.1 us k y, by rw [zip_put hl], put_len hl k y, ?_⟩
          exact RVs.put hl (stw.rvs (st2.rvs (st1.rvs rvs))) (stw.rv (rv2.rv (by simpa using cc.1)))
/-- the second for -/
theorem step_in {Y : Cx} {τ : St} {kx vx t0 i0 t1 i1 : Expr} {scope : Scope} {pos : Pos} {D : Addr} {it1 : AF} {b1 : VV → VSt → Option VSt} {tgT : TG} {vs1 : List Nat} {fk fv : EF} (hu : Y.A.units < cLine) (hY : Y.calm = true) (hxe : ∀ e s, Y.xe e s → False) (hvs : ∀ i ∈ vs1, ∀ v, τ[i]? ≠ some (some v))
    (pi1 : PI Y t1 i1 (tI (ct Y) W0 it1)) (pg : PG Y t1 tgT) (pat : PatOk Y.K tgT b1 vs1) (pk : PE Y kx (tE (ct Y) W0 fk)) (pv : PE Y vx (tE (ct Y) W0 fv)) (hs : ∀ x, foldedSetIterable i1 Y.env x = pure x) (hmark : Y.A.mark none = Y.A)
    (hund : ∀ (it : Value), Y.A.under (.compLoop (.DictComp kx vx [⟨t0, i0, [], 0⟩, ⟨t1, i1, [], 0⟩] scope pos) 1 it (.ref D) Y.env) = Y.A) :
    StepOk Y τ (do let x ← eval i1 Y.env; standAt i1.pos; let x ← foldedSetIterable i1 Y.env x; let _ ← runOwn (.compStart (.DictComp kx vx [⟨t0, i0, [], 0⟩, ⟨t1, i1, [], 0⟩] scope pos) 1 (← holding [x] (pyIter x)) (.ref D) Y.env) Y.env) D (RaD (ct Y) D) (stIn it1 b1 vs1 (stDict fk fv)) := by
  intro ps s σ H g ρ h a a' h' I kn rh rs dz ⟨o, hD, ra⟩ es
  unfold stIn at es
  cases e1 : it1 ρ h with
  | no => rw [e1] at es; cases es
  | exc _ _ _ _ => rw [e1] at es; cases es
  | ok xs h1 =>
    rw [e1] at es
    simp only [Res.bind] at es
    refine wpAny_bind (wpAny_mono (pi1.run ps s σ H (fun J H1 => ∃ g1, Stp g H g1 H1 ∧ RH (ct Y) g1 h1 H1 ∧ Deliv (ct Y) g1 H1 xs J ∧ Dz g1 D ∧ H1 D = some o) I ⟨g.keep D, ρ, h, rh.keep hD dz.nf dz.ni ra.nt, rs.stp .keep, ?_⟩) (fun x s1 z => ?_) fun e s z => (hxe e s z).elim)
    · rw [e1]
      intro g' H' J st rh' dl
      have kD : g'.kp D := st.kp D (.inr rfl)
      refine ⟨g'.back g.kp, st.back, rh'.back fun q z => st.kp q (.inl z), ⟨fun g2 H2 f => dl.go g2 H2 ⟨f.fz, f.fH, f.tp⟩, fun g2 H2 f => dl.stop g2 H2 ⟨f.fz, f.fH, f.tp⟩, fun g2 H2 f => dl.yld g2 H2 ⟨f.fz, f.fH, f.tp⟩⟩, ⟨(rh'.kd D kD).1, (rh'.kd D kD).2, dz.nk⟩, (st.kH D (.inr rfl)).trans hD⟩
    · refine wpAny_bind (wpAny_standAt (wpAny_bind (wpAny_of_eq (hs x) (wpAny_bind (wpAny_holding (wpAny_mono z (fun itv s2 z => ?_) fun e s z => (hxe e s z).elim))))))
      obtain ⟨it, fp, tn, J, H2, eit, I2, T, st2, f2, g2, stp2, rh2, dl, dz2, hD2⟩ := z
      subst eit
      refine wpAny_bind (wpAny_runOwn ?_)
      rw [hmark]
      have wkn : Knows (wipe σ vs1) σ := ⟨wipe_length _ _, fun i v e => (wipe_some e).1⟩
      have hK : Knows τ (wipe σ vs1) := ⟨kn.1.trans (wipe_length _ _).symm, fun i v e => by
        have ni : i ∉ vs1 := fun m => hvs i m v e
        rw [wipe_out ni]; exact kn.2 i v e⟩
      have go : codeAny (model Y.prog Y.w) Y.A (.compLoop (.DictComp kx vx [⟨t0, i0, [], 0⟩, ⟨t1, i1, [], 0⟩] scope pos) 1 (.ref it) (.ref D) Y.env)
          (fun r s' => match r with
            | .ok _ => ∃ σ' H' g', Inv Y ps σ' H' s' ∧ Knows τ σ' ∧ Stp g H g' H' ∧ RH (ct Y) g' h' H' ∧ Dz g' D ∧ ∃ o, H' D = some o ∧ RaD (ct Y) D g' H' a' o
            | .error _ => False) s2 := by
        refine acc_loop (Y := Y) (ρ := wp ρ vs1) (a := a) (τ := wipe σ vs1) (p := i1.pos) hY hxe rfl T (ct_dict_in kx vx t0 i0 t1 i1 scope pos (.ref it) D Y.env) rfl rfl (hund _) pg pat (fun i hi v e => (wipe_some e).2 hi) (step_dict hu hxe pk pv) (fun g H g' H' a o s h => h.stp s)
          (I2.weak wkn.1 wkn.2) st2 (fun b G hb gn => ⟨gn, (f2 b hb).2⟩) (fun b hb => (f2 b hb).1) rh2 ((rs.stp stp2).wipe _) dz2 ⟨o, hD2, ra.stp stp2⟩ dl es ?_
        intro G' s' g' I' st' rh' dz' ho
        exact ⟨_, G', g', I', hK, stp2.trans st', rh', dz', ho⟩
      refine codeAny_mono (cs_dict_in go (T.self Y.A 0 _ _ _ st2 go)) fun r s' hr => ?_
      cases r with
      | ok f => exact wpAny_pure hr
      | error e => exact hr.elim
end J
namespace J
open PySem L2
open PyProof.Rows (envOfC)
section
variable {X : Cx} {W : WX}
/-- a thing that nobody holds is frozen -/
theorem frz_nobody {c : Ct} {g : Gh} {h : VH} {H : Hp} {D : Addr} {o : HO} (rh : RH c g h H) (dz : Dz g D) (e : H D = some o) (nt : ∀ ps, o ≠ .tbl ps := by intro _ z; cases z) : Stp g H (g.frz D) H ∧ RH c (g.frz D) h H := by
  have st : Stp g H (g.frz D) H := .kill
  refine ⟨st, rh.len, rh.nd, fun n o a h1 h2 => ?_, fun q z => ?_, rh.kp, fun q z => ⟨fun y => y.elim (rh.kd q z).1 (fun e => dz.nk (e ▸ z)), (rh.kd q z).2⟩, rh.tb, fun q z ps y => z.elim (fun z => z.elim (fun z => rh.nt q (.inl z) ps y) (fun z => by rw [z, e] at y; exact nt ps (Option.some.inj y))) (fun z => rh.nt q (.inr z) ps y)⟩
  · exact RO.stp st (fun x z => z.elim x (fun e => dz.ni (e ▸ List.mem_of_getElem? h2))) rfl (rh.at' n o a h1 h2)
  · rcases z with z | z
    · exact rh.fz q z
    · rw [z]; exact ⟨_, e⟩
def eDc2 (own : List Nat) (it : AF) (b : VV → VSt → Option VSt) (it1 : AF) (b1 : VV → VSt → Option VSt) (vs1 : List Nat) (fk fv : EF) : EF := fun ρ h => (it ρ h).bind fun xs h1 => (noX (accGo b (stIn it1 b1 vs1 (stDict fk fv)) (wp ρ own) xs h1 ([], []))).bind fun a h2 => .ok (.dT a.1 a.2) h2
theorem j_dc2 {kx vx t0 i0 t1 i1 : Expr} {scope : Scope} {own : List (Str × Nat)} {own1 vs1 : List Nat} {pos : Pos} {it it1 : AF} {tgT tgT1 : TG} {b b1 : VV → VSt → Option VSt} {fk fv : EF} {k : Nat} (hr : Room k X.A) (hc : X.calm = true) (hN : X.N.Nodup) (hi : PI X t0 i0 (tI (ct X) W it)) (ok : BlkOk X.N X.env.scope scope own)
    (hg : ∀ (s : Shared) (H : Hp) (C : Addr) (cl : List (Str × Addr)) (fp : List Addr), PG (X.blk s H scope (compEnvC scope cl C X.env) fp) t0 tgT) (pat : PatOk X.K tgT b own1) (h1 : ∀ i ∈ own1, i ∈ own.map (·.2))
    (hi1 : ∀ (s : Shared) (H : Hp) (C : Addr) (cl : List (Str × Addr)) (fp : List Addr), PI (X.blk s H scope (compEnvC scope cl C X.env) fp) t1 i1 (tI (ct X) W0 it1))
    (hg1 : ∀ (s : Shared) (H : Hp) (C : Addr) (cl : List (Str × Addr)) (fp : List Addr), PG (X.blk s H scope (compEnvC scope cl C X.env) fp) t1 tgT1) (pat1 : PatOk X.K tgT1 b1 vs1) (h2 : ∀ i ∈ vs1, i ∈ own.map (·.2))
    (hk : ∀ (s : Shared) (H : Hp) (C : Addr) (cl : List (Str × Addr)) (fp : List Addr), PE (X.blk s H scope (compEnvC scope cl C X.env) fp) kx (tE (ct X) W0 fk))
    (hv : ∀ (s : Shared) (H : Hp) (C : Addr) (cl : List (Str × Addr)) (fp : List Addr), PE (X.blk s H scope (compEnvC scope cl C X.env) fp) vx (tE (ct X) W0 fv)) (hs : ∀ x, foldedSetIterable i0 X.env x = pure x := by intro _; rfl) (hs1 : ∀ env x, foldedSetIterable i1 env x = pure x := by intro _ _; rfl) :
    PE X (.DictComp kx vx [⟨t0, i0, [], 0⟩, ⟨t1, i1, [], 0⟩] scope pos) (tE (ct X) W (eDc2 (own.map (·.2)) it b it1 b1 vs1 fk fv)) := by
  have key := acc_PE (X := X) (W := W) (node := .DictComp kx vx [⟨t0, i0, [], 0⟩, ⟨t1, i1, [], 0⟩] scope pos) (new := newDict) (o0 := { cls := .type "dict", data := .dict #[] }) (O := fun D => .dT []) (Ra := RaD (ct X)) (stp := stIn it1 b1 vs1 (stDict fk fv)) (a0 := ([], [])) (p := i0.pos)
    (inner := fun D env => do let x ← eval i1 env; standAt i1.pos; let x ← foldedSetIterable i1 env x; let _ ← runOwn (.compStart (.DictComp kx vx [⟨t0, i0, [], 0⟩, ⟨t1, i1, [], 0⟩] scope pos) 1 (← holding [x] (pyIter x)) (.ref D) env) env)
    (arm_eval_DictComp _ _ _ _ _ _) rfl hc hN hi ok hs (fun s E Q h => wpAny_newObj_type h) (fun h G hb => dt_empty h hb) (fun it acc env R s a b => codeAny_compStart_dict a b)
    (fun it D ce => ct_dict_out kx vx t0 i0 t1 i1 scope pos (.ref it) (.ref D) ce) (fun _ _ _ => rfl) (fun _ _ _ => rfl) (fun _ _ _ => rfl) hg pat h1 (fun D g H g' H' a o s h => h.stp s) (fun D g H => ⟨[], rfl, rfl, RVs.nil⟩)
    (fun s H C cl fp D τ hτ => step_in (Y := X.blk s H scope (compEnvC scope cl C X.env) fp) (show X.A.units < cLine from hr.units0) hc (fun _ _ z => z) (fun i hi => hτ i (h2 i hi)) (hi1 s H C cl fp) (hg1 s H C cl fp) pat1 (hk s H C cl fp) (hv s H C cl fp) (hs1 _) (Around.mark_none _) (fun _ => rfl))
  refine PE.mono key fun σ H Q h => ?_
  have h2 := tG.bind (R := fun g H (a : DA) u => ∃ D o, u = V.ref D ∧ Dz g D ∧ H D = some o ∧ RaD (ct X) D g H a o) (f := fun ρ h => (it ρ h).bind fun xs h1 => noX (accGo b (stIn it1 b1 vs1 (stDict fk fv)) (wp ρ (own.map (·.2))) xs h1 ([], []))) (k := fun (a : DA) ρ h2 => .ok (VV.dT a.1 a.2) h2) (R' := RT (ct X)) (W := W) (Q := Q) (by
    obtain ⟨g, ρ, h0, rh, rs, pp⟩ := h
    refine ⟨g, ρ, h0, rh, rs, ?_⟩
    unfold eDc2 at pp
    show Pst (ct X) W σ (RT (ct X)) g H Q (((it ρ h0).bind fun xs h1 => noX (accGo b (stIn it1 b1 vs1 (stDict fk fv)) (wp ρ (own.map (·.2))) xs h1 ([], []))).bind fun a h2 => .ok (VV.dT a.1 a.2) h2)
    rw [res_assoc]
    exact pp)
  obtain ⟨g, ρ, h0, rh, rs, pp⟩ := h2
  refine ⟨g, ρ, h0, rh, rs, pp.imp fun u H1 ⟨g1, ρ1, a, h1, rh1, rs1, ⟨D, o, eu, dz, hD, us, eo, hl, rvs⟩, p1⟩ => ?_⟩
  subst eu eo
  obtain ⟨st, rhf⟩ := frz_nobody rh1 dz hD
  refine p1 (g1.frz D) H1 (.ref D) st rhf ?_
  show RV _ _ _ _ _
  rw [RV]
  exact ⟨D, us, rfl, .inr rfl, .inl hD, hl, st.rvs rvs⟩
end
end J
namespace J
open PySem PySem.Spec L2 PyProof.Rows
/-! the tables of larger sets: the masks up to 511 -/
structure Round (m : Nat) : Prop where
  odd : m % 2 = 1
  low : m ≤ 511
  met : ∀ (h : Int) (j : Nat), j ≤ m → ∃ n, n ≤ m + 12 ∧ runI m (SetTable.bits h) n = j
theorem round_of {m : Nat} (hm : MaskOk m) : Round m := ⟨mask_odd hm, by rcases hm with e | e | e <;> omega, fun h j hj => run_meets hm h hj⟩
/-- 0, 1, 6, 31 .. -/
def orb : Nat → Nat → List Nat
  | 0, _ => []
  | n + 1, x => x :: orb n ((x * 5 + 1) % 512)
theorem orb_len : ∀ (n x : Nat), (orb n x).length = n
  | 0, _ => rfl
  | n + 1, x => congrArg Nat.succ (orb_len n _)
theorem orb_get : ∀ (n a k : Nat), k < n → (orb n (lcgN 511 a))[k]? = some (lcgN 511 (a + k))
  | n + 1, a, 0, _ => rfl
  | n + 1, a, k + 1, h => by
    have e := orb_get n (a + 1) k (by omega)
    rw [show a + 1 + k = a + (k + 1) by omega] at e
    exact e
theorem orb_all : ((List.range 512).all fun j => (orb 512 0).contains j) = true := by decide +kernel
theorem orb_back : lcgN 511 512 = 0 := by decide +kernel
theorem lcg_at {j : Nat} (hj : j ≤ 511) : ∃ b, b ≤ 511 ∧ lcgN 511 b = j := by
  have hm : j ∈ orb 512 (lcgN 511 0) := List.contains_iff_mem.mp (List.all_eq_true.mp orb_all j (List.mem_range.mpr (by omega)))
  obtain ⟨b, hb⟩ := List.mem_iff_getElem?.mp hm
  have lb : b < 512 := by
    have := (List.getElem?_eq_some_iff.mp hb).1
    rw [orb_len] at this
    exact this
  rw [orb_get 512 0 b lb, Nat.zero_add] at hb
  exact ⟨b, by omega, Option.some.inj hb⟩
theorem lcg_again (k : Nat) : lcgN 511 (512 + k) = lcgN 511 k := by
  rw [← lcgN_add, orb_back]
  have := lcgN_add 511 0 k
  rw [Nat.zero_add] at this
  exact this
theorem round511 : Round 511 where
  odd := rfl
  low := Nat.le_refl _
  met := fun h j hj => by
    obtain ⟨a, ha, ea⟩ := lcg_at (runI_le 511 (SetTable.bits h) 12)
    obtain ⟨b, hb, eb⟩ := lcg_at hj
    obtain ⟨k, hk, e⟩ : ∃ k, k ≤ 511 ∧ lcgN 511 (a + k) = j := by
      by_cases c : a ≤ b
      · exact ⟨b - a, by omega, by rw [show a + (b - a) = b by omega]; exact eb⟩
      · exact ⟨512 + b - a, by omega, by rw [show a + (512 + b - a) = 512 + b by omega, lcg_again]; exact eb⟩
    exact ⟨12 + k, by omega, by rw [runI_tail (bits_lt h), ← ea, lcgN_add]; exact e⟩
theorem way_in (m : Nat) (h : Int) (k : Nat) : way m h k ≤ m := by
  have a := runEnd_bd (m := m) (i := SetTable.bits h % (m + 1)) (Nat.le_of_lt_succ (Nat.mod_lt _ (Nat.succ_pos _)))
  have b := nth_in (m := m) k (runAt m (SetTable.bits h % (m + 1)) (SetTable.bits h)) (by
    show SetTable.bits h % (m + 1) + (SetTable.runEnd m (SetTable.bits h % (m + 1)) - SetTable.bits h % (m + 1)) ≤ m
    omega)
  exact Nat.le_trans (Nat.le_add_right _ _) b
/-- a table: each slot with the hash that sits there -/
structure Laid (t : SetTable) (hs : List Int) : Prop where
  up : Ris t.place.toList
  bare : t.dummies = #[]
  many : t.place.toList.length = hs.length
  rnd : Round t.mask
  under : ∀ x ∈ t.place.toList, x ≤ t.mask
  found : ∀ q ∈ t.place.toList.zip hs, ∃ k, way t.mask q.2 k = q.1 ∧ ∀ d, d < k → way t.mask q.2 d ∈ t.place.toList
section
variable {t : SetTable} {hs : List Int} {h : Int} {K : Nat}
theorem Laid.first (T : Laid t hs) (hl : hs.length ≤ t.mask) (h : Int) : ∃ K, K < 10 * SetTable.turns t.mask ∧ way t.mask h K ∉ t.place.toList ∧ ∀ d, d < K → way t.mask h d ∈ t.place.toList := by
  obtain ⟨j, hj, hn⟩ := st_missing t.place.toList (t.mask + 1) (by rw [T.many]; omega)
  obtain ⟨n, hn1, e⟩ := T.rnd.met h j (by omega)
  obtain ⟨k, hk, e2⟩ := run_nth t.mask (SetTable.bits h) n
  have ek : way t.mask h k = j := (congrArg SetTable.Probe.j e2).trans e
  obtain ⟨K, a, b, c⟩ := st_least (p := fun k => way t.mask h k ∉ t.place.toList) k (by
    show way t.mask h k ∉ _
    rw [ek]; exact hn)
  exact ⟨K, by unfold SetTable.turns; omega, b, fun d hd => Classical.not_not.mp (c d hd)⟩
theorem Laid.ahead (T : Laid t hs) {i j : Nat} (hK : way t.mask h K ∉ t.place.toList) (hi : hs[i]? = some h) (hj : t.place.toList[i]? = some j) : ∃ d, d < K ∧ way t.mask h d = j := by
  obtain ⟨k, e, b⟩ := T.found (j, h) (List.mem_of_getElem? (i := i) (List.getElem?_zip_eq_some.mpr ⟨hj, hi⟩))
  refine ⟨k, Nat.lt_of_not_le fun c => hK ?_, e⟩
  rcases Nat.eq_or_lt_of_le c with z | z
  · rw [z, show way t.mask h k = j from e]; exact List.mem_of_getElem? hj
  · exact b K z
theorem zip_in {α β : Type} {A : List α} {B : List β} {p : Nat} {x : α} {y : β} (e : A.length = B.length) {q : α × β} (hq : q ∈ (A.take p ++ x :: A.drop p).zip (B.take p ++ y :: B.drop p)) : q = (x, y) ∨ q ∈ A.zip B := by
  have el : (A.take p).length = (B.take p).length := by rw [List.length_take, List.length_take, e]
  have es : A.zip B = (A.take p).zip (B.take p) ++ (A.drop p).zip (B.drop p) := by
    rw [← List.zip_append el, List.take_append_drop, List.take_append_drop]
  rw [List.zip_append el, List.zip_cons_cons] at hq
  rw [es]
  rcases List.mem_append.mp hq with z | z
  · exact .inr (List.mem_append_left _ z)
  · rcases List.mem_cons.mp z with z | z
    · exact .inl z
    · exact .inr (List.mem_append_right _ z)
/-- one more in its slot -/
theorem Laid.put (T : Laid t hs) {j : Nat} (ej : way t.mask h K = j) (hK : j ∉ t.place.toList) (hb : ∀ d, d < K → way t.mask h d ∈ t.place.toList) :
    Laid (t.put j).1 (hs.take (SetTable.below t.place j) ++ h :: hs.drop (SetTable.below t.place j)) ∧ (t.put j).1.fill = hs.length + 1 := by
  have cut := (below_cut T.up j).1
  have pl : SetTable.below t.place j ≤ t.place.toList.length := by rw [Array.length_toList]; exact cut
  have ph : SetTable.below t.place j ≤ hs.length := by rw [← T.many]; exact pl
  have new := put_place t j
  have more : ∀ {x : Nat}, x ∈ t.place.toList → x ∈ (t.put j).1.place.toList := fun {x} z => by rw [new]; exact mem_ins.mpr (.inr z)
  have len : (t.put j).1.place.toList.length = hs.length + 1 := by rw [new, len_ins _ pl, T.many]
  refine ⟨⟨ris_insert T.up fun z => hK (List.mem_of_getElem? (by rw [Array.getElem?_toList]; exact z)), put_dm T.bare j, by rw [len_ins _ ph]; exact len, T.rnd, fun x hx => ?_, fun q hq => ?_⟩, ?_⟩
  · rw [new] at hx
    rcases mem_ins.mp hx with z | z
    · rw [z, ← ej]; exact way_in _ _ _
    · exact T.under x z
  · rw [new] at hq
    rcases zip_in T.many hq with z | z
    · subst z
      exact ⟨K, ej, fun d hd => more (hb d hd)⟩
    · obtain ⟨k, e, f⟩ := T.found q z
      exact ⟨k, e, fun d hd => more (f d hd)⟩
  · have f : (t.put j).1.fill = (t.put j).1.place.toList.length + (t.put j).1.dummies.size := by rw [Array.length_toList]; rfl
    rw [f, len, put_dm T.bare j]; rfl
end
/-! all laid anew -/
structure Seat (m : Nat) (hs : List Int) (n : Nat) (ow : Array (Option Nat)) : Prop where
  size : ow.size = m + 1
  sit : ∀ j k, j ≤ m → oAt ow j = some k → k < n ∧ ∃ K, way m (hs.getD k 0) K = j ∧ ∀ d, d < K → oAt ow (way m (hs.getD k 0) d) ≠ none
  each : ∀ k, k < n → ∃ j, j ≤ m ∧ oAt ow j = some k
  once : ∀ i j k, i ≤ m → j ≤ m → oAt ow i = some k → oAt ow j = some k → i = j
section
variable {m n : Nat} {hs : List Int} {ow : Array (Option Nat)}
theorem Seat.room (S : Seat m hs n ow) (hn : n ≤ m) : ∃ j, j ≤ m ∧ oAt ow j = none := by
  refine Classical.byContradiction fun c => ?_
  have full : ∀ j, j ≤ m → ∃ k, oAt ow j = some k := fun j hj => by
    cases e : oAt ow j with
    | none => exact absurd ⟨j, hj, e⟩ c
    | some k => exact ⟨k, rfl⟩
  have nd : ((List.range (m + 1)).map fun j => (oAt ow j).getD 0).Nodup := by
    unfold List.Nodup
    rw [List.pairwise_map]
    refine List.Pairwise.imp_of_mem (fun {a b} ha hb ne z => ne ?_) (List.nodup_range (n := m + 1))
    have ha := List.mem_range.mp ha
    have hb := List.mem_range.mp hb
    obtain ⟨k, ek⟩ := full a (by omega)
    obtain ⟨l, el⟩ := full b (by omega)
    rw [ek, el] at z
    have z : k = l := z
    subst z
    exact S.once a b k (by omega) (by omega) ek el
  have q := nat_nodup_len _ (List.range n) nd fun x hx => by
    obtain ⟨j, hj, rfl⟩ := List.mem_map.mp hx
    have hj := List.mem_range.mp hj
    obtain ⟨k, ek⟩ := full j (by omega)
    rw [ek]
    exact List.mem_range.mpr (S.sit j k (by omega) ek).1
  rw [List.length_map, List.length_range, List.length_range] at q
  omega
theorem Seat.next (R : Round m) (S : Seat m hs n ow) (hn : n ≤ m) {h : Int} (eh : hs.getD n 0 = h) :
    ∃ j, SetTable.layClean.free m ow (SetTable.turns m) (SetTable.bits h % (m + 1)) (SetTable.bits h) = some j ∧ Seat m hs (n + 1) (ow.setIfInBounds j (some n)) := by
  obtain ⟨j0, h0, e0⟩ := S.room hn
  obtain ⟨r, hr, er⟩ := R.met h j0 h0
  have eo : way m h (off m (SetTable.bits h % (m + 1)) (SetTable.bits h) r) = j0 := by
    show (nth m (runAt m (SetTable.bits h % (m + 1)) (SetTable.bits h)) _).j = j0
    rw [nth_off, itL_run]
    exact er
  obtain ⟨K, k1, k2, k3⟩ := st_least (p := fun k => oAt ow (way m h k) = none) _ (show oAt ow (way m h (off m (SetTable.bits h % (m + 1)) (SetTable.bits h) r)) = none by rw [eo]; exact e0)
  have busy : ∀ d, d < K → (oAt ow (way m h d)).isNone = false := fun d hd => by
    cases z : oAt ow (way m h d) with
    | none => exact absurd z (k3 d hd)
    | some _ => rfl
  have ef := free_spec m ow (SetTable.turns m) r (SetTable.bits h % (m + 1)) (SetTable.bits h) K (by unfold SetTable.turns; omega) k1 busy (by
    have z : oAt ow (way m h K) = none := k2
    show (oAt ow (way m h K)).isNone = true
    rw [z]; rfl)
  obtain ⟨j, ej⟩ : ∃ j, way m h K = j := ⟨_, rfl⟩
  have ef : SetTable.layClean.free m ow (SetTable.turns m) (SetTable.bits h % (m + 1)) (SetTable.bits h) = some (way m h K) := ef
  have k2 : oAt ow (way m h K) = none := k2
  have jm : j ≤ m := by rw [← ej]; exact way_in m h K
  rw [ej] at ef k2
  have at_j : oAt (ow.setIfInBounds j (some n)) j = some n := oAt_set_self _ (by rw [S.size]; omega)
  have at_i : ∀ {i : Nat}, i ≠ j → oAt (ow.setIfInBounds j (some n)) i = oAt ow i := fun c => oAt_set_ne _ c
  have stays : ∀ {i : Nat}, oAt ow i ≠ none → oAt (ow.setIfInBounds j (some n)) i ≠ none := fun {i} z => by
    by_cases c : i = j
    · rw [c, at_j]; exact fun y => by cases y
    · rw [at_i c]; exact z
  refine ⟨j, ef, by rw [Array.size_setIfInBounds]; exact S.size, fun i k hi e => ?_, fun k hk => ?_, fun i i' k hi hi' e e' => ?_⟩
  · by_cases c : i = j
    · rw [c, at_j] at e
      cases e
      rw [eh, c]
      exact ⟨Nat.lt_succ_self _, K, ej, fun d hd => stays (k3 d hd)⟩
    · rw [at_i c] at e
      obtain ⟨a, K', b, d⟩ := S.sit i k hi e
      exact ⟨by omega, K', b, fun d' hd => stays (d d' hd)⟩
  · by_cases c : k = n
    · exact ⟨j, jm, by rw [c]; exact at_j⟩
    · obtain ⟨i, hi, e⟩ := S.each k (by omega)
      exact ⟨i, hi, by rw [at_i (fun z => by rw [z, k2] at e; cases e)]; exact e⟩
  · by_cases c : i = j
    · by_cases c' : i' = j
      · rw [c, c']
      · rw [c, at_j] at e
        rw [at_i c'] at e'
        cases e
        exact absurd (S.sit i' n hi' e').1 (Nat.lt_irrefl _)
    · by_cases c' : i' = j
      · rw [c', at_j] at e'
        rw [at_i c] at e
        cases e'
        exact absurd (S.sit i n hi e).1 (Nat.lt_irrefl _)
      · rw [at_i c] at e
        rw [at_i c'] at e'
        exact S.once i i' k hi hi' e e'
theorem seat_all (R : Round m) (hl : hs.length ≤ m) : ∀ (rest : List Int) (n : Nat) (ow : Array (Option Nat)), n ≤ hs.length → hs.drop n = rest → Seat m hs n ow →
    ∃ ow', rest.foldl (stepF m) (some (ow, n)) = some (ow', hs.length) ∧ Seat m hs hs.length ow'
  | [], n, ow, hn, e, S => by
    have : n = hs.length := by
      have z := congrArg List.length e
      rw [List.length_drop] at z
      simp at z
      omega
    subst this
    exact ⟨ow, rfl, S⟩
  | h :: rest, n, ow, hn, e, S => by
    have ln : n < hs.length := by
      have z := congrArg List.length e
      rw [List.length_drop, List.length_cons] at z
      omega
    rw [List.drop_eq_getElem_cons ln] at e
    injection e with e1 e2
    obtain ⟨j, ef, S'⟩ := S.next R (by omega) (h := h) (by rw [List.getD_eq_getElem?_getD, List.getElem?_eq_getElem ln]; exact e1)
    rw [List.foldl_cons, stepF_some ef]
    exact seat_all R hl rest (n + 1) _ ln e2 S'
end
theorem relaid_laid (t : SetTable) {hs : Array Int} {wanted M : Nat} (hw : SetTable.sizeAbove wanted - 1 = M) (R : Round M) (hn : hs.size ≤ M) :
    ∃ t' order, t.relaid hs wanted = some (t', order) ∧ order.toList.Perm (List.range hs.size) ∧ Laid t' (order.toList.map fun i => hs.getD i 0) ∧ t'.mask = M ∧ t'.led = t.led ∧ t'.plain = t.plain := by
  have S0 : Seat M hs.toList 0 (Array.replicate (M + 1) none) := ⟨by simp, fun j k hj e => (by rw [oAt_init hj] at e; cases e), fun k hk => absurd hk (Nat.not_lt_zero _), fun i j k hi hj e => (by rw [oAt_init hi] at e; cases e)⟩
  obtain ⟨ow, ef, S⟩ := seat_all R (by rw [Array.length_toList]; exact hn) hs.toList 0 _ (Nat.zero_le _) rfl S0
  have ec : SetTable.layClean M hs = some ow := by rw [layClean_eq, ef]; rfl
  have rs := ris_live (fun j => ow.getD j none) (List.range (M + 1)) (by unfold Ris; first | exact List.pairwise_lt_range | exact List.pairwise_lt_range _)
  have r1 : Ris ((liveOf M ow).map (·.1)) := rs.1
  have mem : ∀ {j k : Nat}, (j, k) ∈ liveOf M ow ↔ j ≤ M ∧ oAt ow j = some k := mem_live S.size
  have nd1 : ((liveOf M ow).map (·.1)).Nodup := List.Pairwise.imp (fun h => Nat.ne_of_lt h) r1
  have nd2 : ((liveOf M ow).map (·.2)).Nodup := by
    unfold List.Nodup at nd1 ⊢
    rw [List.pairwise_map] at nd1 ⊢
    refine List.Pairwise.imp_of_mem (fun {a b} ha hb ne z => ne ?_) nd1
    obtain ⟨a1, a2⟩ := a
    obtain ⟨b1, b2⟩ := b
    have z : a2 = b2 := z
    subst z
    have qa := mem.mp ha
    have qb := mem.mp hb
    exact S.once a1 b1 a2 qa.1 qb.1 qa.2 qb.2
  have pm : ((liveOf M ow).map (·.2)).Perm (List.range hs.size) := by
    rw [List.perm_ext_iff_of_nodup nd2 List.nodup_range]
    intro k
    rw [List.mem_range]
    constructor
    · intro z
      obtain ⟨⟨j, k'⟩, hq, rfl⟩ := List.mem_map.mp z
      have q := mem.mp hq
      have := (S.sit j k' q.1 q.2).1
      rw [Array.length_toList] at this
      exact this
    · intro z
      obtain ⟨j, hj, e⟩ := S.each k (by rw [Array.length_toList]; exact z)
      exact List.mem_map.mpr ⟨(j, k), mem.mpr ⟨hj, e⟩, rfl⟩
  refine ⟨tabOf t M ow, ((liveOf M ow).map (·.2)).toArray, by rw [relaid_eq, hw, ec]; rfl, pm, ⟨r1, rfl, ?_, R, fun x hx => ?_, fun q hq => ?_⟩, rfl, rfl, rfl⟩
  · show ((liveOf M ow).map (·.1)).length = (((liveOf M ow).map (·.2)).map _).length
    rw [List.length_map, List.length_map, List.length_map]
  · obtain ⟨⟨j, k⟩, hq, rfl⟩ := List.mem_map.mp (show x ∈ (liveOf M ow).map (·.1) from hx)
    exact (mem.mp hq).1
  · have hq : q ∈ ((liveOf M ow).map (·.1)).zip (((liveOf M ow).map (·.2)).map fun i => hs.getD i 0) := hq
    rw [List.map_map, List.zip_map'] at hq
    obtain ⟨⟨j, k⟩, hm, rfl⟩ := List.mem_map.mp hq
    have q := mem.mp hm
    obtain ⟨_, K, e1, e2⟩ := S.sit j k q.1 q.2
    have eg : hs.toList.getD k 0 = hs.getD k 0 := by
      rw [List.getD_eq_getElem?_getD, Array.getD_eq_getD_getElem?, Array.getElem?_toList]
    rw [eg] at e1 e2
    refine ⟨K, e1, fun d hd => ?_⟩
    show way M (hs.getD k 0) d ∈ (liveOf M ow).map (·.1)
    cases z : oAt ow (way M (hs.getD k 0) d) with
    | none => exact absurd z (e2 d hd)
    | some k2 => exact List.mem_map.mpr ⟨(_, k2), mem.mpr ⟨way_in _ _ _, z⟩, rfl⟩
end J
namespace J
open PySem PySem.Spec L2 PyProof.Rows
/-! sets of int tuples, up to three hundred and five of them -/
structure SetW (P : Program) (w : World) (h : Heap) (a : Addr) (L : List (Addr × List Int)) (es : Array (Int × Value)) (ep : Nat) (t : SetTable) : Prop where
  ob : ∃ o, h.get? a = some o ∧ o.ExactSet ∧ o.data = .set es ep t
  rows : es.toList = L2.rowsOf P w L
  tab : Laid t (L.map fun q => thash P w q.2)
  msk : t.mask = 7 ∨ t.mask = 31 ∨ t.mask = 127 ∨ t.mask = 511
  nd : (L.map (·.2)).Nodup
  tup : ∀ q ∈ L, IsT P w h q.2 q.1
  plain : t.plain = true
  led : w.params.followText "set-order" = true ∨ t.led = true
  room : L.length * 5 < t.mask * 3
section
variable {P : Program} {w : World} {A : Around} {E : Value → Shared → Prop} {s : Shared} {h : Heap} {a : Addr} {L : List (Addr × List Int)} {es : Array (Int × Value)} {ep : Nat} {t : SetTable}
theorem laid_of {hs : List Int} (T : TabOk t hs) : Laid t hs := ⟨T.ris, T.dm, by rw [Array.length_toList]; exact T.sz, round_of T.mok, T.bd, fun q hq => by
  obtain ⟨i, e⟩ := List.mem_iff_getElem?.mp hq
  have z := List.getElem?_zip_eq_some.mp e
  exact T.reach i q.2 q.1 z.2 z.1⟩
theorem SetW.of (R : SetTR P w h a L es ep t) : SetW P w h a L es ep t := ⟨R.ob, R.rows, laid_of R.tab, by have := R.tab.mok; unfold MaskOk at this; omega, R.nd, R.tup, R.plain, R.led, R.room⟩
theorem SetW.size (R : SetW P w h a L es ep t) : es.size = L.length := by
  rw [← Array.length_toList, R.rows]
  exact List.length_map ..
theorem SetW.places (R : SetW P w h a L es ep t) : t.place.size = L.length := by
  have z := R.tab.many
  rwa [List.length_map, Array.length_toList] at z
theorem SetW.fits (R : SetW P w h a L es ep t) : t.fits es.size = true := by
  have a1 := R.places
  have a2 := R.size
  have a3 := R.room
  have e : t.fill = L.length := by
    unfold SetTable.fill
    rw [R.tab.bare, a1]
    rfl
  unfold SetTable.fits
  rw [Bool.and_eq_true]
  exact ⟨by rw [a1, a2]; exact beq_self_eq_true _, decide_eq_true (by rw [e]; omega)⟩
theorem SetW.row (R : SetW P w h a L es ep t) {i : Nat} {q : Addr × List Int} (e : L[i]? = some q) : es[i]? = some (thash P w q.2, Value.ref q.1) := by
  have z : es.toList[i]? = (L[i]?).map fun q => (thash P w q.2, Value.ref q.1) := by
    rw [R.rows]
    exact List.getElem?_map
  rw [Array.getElem?_toList] at z
  rw [z, e]
  rfl
theorem SetW.keep {h' : Heap} (R : SetW P w h a L es ep t) (k : ∀ o, h.get? a = some o → h'.get? a = some o) (kt : ∀ q ∈ L, IsT P w h' q.2 q.1) : SetW P w h' a L es ep t := by
  obtain ⟨o, e, r⟩ := R.ob
  exact ⟨⟨o, k o e, r⟩, R.rows, R.tab, R.msk, R.nd, kt, R.plain, R.led, R.room⟩
/-- where the way stands behind c steps -/
abbrev spot (m : Nat) (H : Int) (c : Nat) : SetTable.Probe := nth m (runAt m (SetTable.bits H % (m + 1)) (SetTable.bits H)) c
theorem spot_plain (m : Nat) (H : Int) : ∀ c, (spot m H c).dummy = none
  | 0 => rfl
  | c + 1 => by
    have ih := spot_plain m H c
    show (nth m _ (c + 1)).dummy = none
    rw [nth_succ]
    unfold adv
    split
    · exact ih
    · exact ih
theorem spot_go (m : Nat) (H : Int) (c d : Nat) : nth m (spot m H c) d = spot m H (c + d) := (nth_add m c _ d).symm
/-- what is met from the c-th step on -/
theorem SetW.meet (R : SetW P w h a L es ep t) {H : Int} {K c : Nat} (hc : c ≤ K) (hf : K < 10 * SetTable.turns t.mask) (hK : way t.mask H K ∉ t.place.toList) (hb : ∀ d, d < K → way t.mask H d ∈ t.place.toList) (ha : Nat → Int) :
    (∃ d i, c ≤ d ∧ d < K ∧ t.place.toList[i]? = some (way t.mask H d) ∧ ha i = H ∧ (∀ d' i', c ≤ d' → d' < d → t.place.toList[i']? = some (way t.mask H d') → ha i' ≠ H) ∧ t.probe ha H (spot t.mask H c) = some (.candidate (way t.mask H d) i (spot t.mask H (d + 1)))) ∨
    ((∀ d' i', c ≤ d' → d' < K → t.place.toList[i']? = some (way t.mask H d') → ha i' ≠ H) ∧ t.probe ha H (spot t.mask H c) = some (.empty (way t.mask H K) none)) := by
  have end_ : c + (K - c) = K := by omega
  have sp := go_spec t R.tab.up R.tab.bare ha H (10 * SetTable.turns t.mask) (K - c) (spot t.mask H c) (spot_plain _ _ _) (by omega)
    (fun d hd => by rw [spot_go]; exact hb _ (by omega)) (by rw [spot_go, end_]; exact hK)
  have back : ∀ {u : Nat}, (∀ d' i', d' < u → t.place.toList[i']? = some (nth t.mask (spot t.mask H c) d').j → ha i' ≠ H) → ∀ d' i', c ≤ d' → d' < c + u → t.place.toList[i']? = some (way t.mask H d') → ha i' ≠ H := by
    intro u z d' i' h1 h2 h3
    refine z (d' - c) i' (by omega) ?_
    rw [spot_go, show c + (d' - c) = d' by omega]
    exact h3
  rcases sp with ⟨d, i, h1, h2, h3, h4, h5⟩ | ⟨h4, h5⟩
  · refine .inl ⟨c + d, i, by omega, by omega, by rw [spot_go] at h2; exact h2, h3, back h4, ?_⟩
    rw [spot_go, spot_go] at h5
    exact h5
  · refine .inr ⟨fun d' i' z1 z2 => back h4 d' i' z1 (by omega), ?_⟩
    rw [spot_go, end_] at h5
    exact h5
theorem SetW.seek (R : SetW P w s.heap a L es ep t) {x : Addr} {k : List Int} (hx : IsT P w s.heap k x) (hu : A.units < cLine) {K : Nat} (hf : K < 10 * SetTable.turns t.mask) (hK : way t.mask (thash P w k) K ∉ t.place.toList) (hb : ∀ d, d < K → way t.mask (thash P w k) d ∈ t.place.toList)
    {Q : SetFound → Shared → Prop} (yes : k ∈ L.map (·.2) → Q (.there none) s) (no : k ∉ L.map (·.2) → Q (.free (way t.mask (thash P w k) K) false) s) :
    ∀ (n c : Nat) (st : Option SetTable.Probe), c ≤ K → K < c + n → st.getD (t.probeStart (thash P w k)) = spot t.mask (thash P w k) c →
      (∀ (i : Nat) (q : Addr × List Int), L[i]? = some q → q.2 = k → ∃ d, c ≤ d ∧ d < K ∧ t.place.toList[i]? = some (way t.mask (thash P w k) d)) →
      wpAny (model P w) A (setSearchFrom a (.ref x) (thash P w k) true n st) Q E s := by
  obtain ⟨o, eo, ex, ed⟩ := R.ob
  intro n
  induction n with
  | zero => intro c st h1 h2; omega
  | succ n ih =>
    intro c st h1 h2 h3 h4
    rw [setSearchFrom_succ]
    refine wpAny_bind (wpAny_setState_of eo ed R.fits ?_)
    dsimp only
    have calm : ¬ t.gaveWay = true := by
      unfold SetTable.gaveWay
      rw [R.tab.rnd.odd]
      decide
    refine wp_if_neg calm ?_
    try refine wpAny_bind (wpAny_pure ?_)
    rw [h3]
    have hashes : ∀ (i : Nat) q, L[i]? = some q → (es[i]?.map (·.1)).getD 0 = thash P w q.2 := fun i q e => by rw [R.row e]; rfl
    rcases R.meet h1 hf hK hb (fun i => (es[i]?.map (·.1)).getD 0) with ⟨d, i, m1, m2, m3, m4, m5, m6⟩ | ⟨m5, m6⟩
    · rw [m6]
      dsimp only
      have il : i < L.length := by
        have z := (List.getElem?_eq_some_iff.mp m3).1
        rw [Array.length_toList, R.places] at z
        exact z
      obtain ⟨q, eq⟩ : ∃ q, L[i]? = some q := ⟨_, List.getElem?_eq_getElem il⟩
      have hq := R.tup q (List.mem_of_getElem? eq)
      have live := slot_live R.tab.up m3
      have tail : wpAny (model P w) A (searchRest a (.ref x) (thash P w k) true n es t (way t.mask (thash P w k) d) i (spot t.mask (thash P w k) (d + 1))) Q E s := by
        unfold searchRest
        rw [R.row eq]
        dsimp only
        refine wpAny_bind (wpAny_holding (wpAny_eqBool_tuple hu hq hx ?_))
        refine wpAny_bind (wpAny_setState_of eo ed R.fits ?_)
        dsimp only
        by_cases same : q.2 = k
        · refine wp_if_pos (by simp [same]) (wpAny_pure (yes ?_))
          exact List.mem_map.mpr ⟨q, List.mem_of_getElem? eq, same⟩
        · refine wp_if_neg (by simp [same]) ?_
          try refine wpAny_bind (wpAny_pure ?_)
          rw [sameMem]
          dsimp only
          simp only [if_true, live, R.row eq]
          refine wpAny_bind (wpAny_isSame_ref_self (wpAny_bind (wpAny_pure ?_)))
          simp only [if_true]
          refine wp_if_neg (by simp [same]) ?_
          refine ih (d + 1) _ (by omega) (by omega) rfl fun i0 q0 e0 k0 => ?_
          obtain ⟨d0, c1, c2, c3⟩ := h4 i0 q0 e0 k0
          refine ⟨d0, ?_, c2, c3⟩
          rcases Nat.lt_trichotomy d0 d with z | z | z
          · exact absurd ((hashes i0 q0 e0).trans (by rw [k0])) (m5 d0 i0 c1 z c3)
          · subst z
            have l2 := slot_live R.tab.up c3
            rw [live] at l2
            injection l2 with l2
            rw [← l2, eq] at e0
            cases e0
            exact absurd k0 same
          · exact z
      cases lc : t.led with
      | true =>
        refine wp_if_neg (by simp) ?_
        try refine wpAny_bind (wpAny_pure ?_)
        exact tail
      | false =>
        refine wp_if_pos (by simp) ?_
        refine wpAny_bind (seen_tup hx (fun y hy => ?_) (wp_if_neg (by decide) ?_))
        · obtain ⟨e, he, rfl⟩ := List.mem_map.mp hy
          have m : e ∈ L2.rowsOf P w L := by
            rw [← R.rows]
            have z := (Array.mem_filter.mp (Array.mem_def.mpr he)).1
            exact Array.mem_def.mp z
          obtain ⟨q2, h5, rfl⟩ := List.mem_map.mp m
          exact ⟨q2.2, q2.1, rfl, R.tup q2 h5⟩
        · try refine wpAny_bind (wpAny_pure ?_)
          exact tail
    · rw [m6]
      dsimp only
      refine wpAny_pure (no fun hm => ?_)
      obtain ⟨q0, e0, k0⟩ := List.mem_map.mp hm
      obtain ⟨i0, hi0, ei0⟩ := List.getElem_of_mem e0
      have e1 : L[i0]? = some q0 := by rw [List.getElem?_eq_getElem hi0, ei0]
      obtain ⟨d0, c1, c2, c3⟩ := h4 i0 q0 e1 k0
      exact m5 d0 i0 c1 c2 c3 ((hashes i0 q0 e1).trans (by rw [k0]))
theorem SetW.search (R : SetW P w s.heap a L es ep t) {x : Addr} {k : List Int} (hx : IsT P w s.heap k x) (hu : A.units < cLine) {Q : SetFound → Shared → Prop} (yes : k ∈ L.map (·.2) → Q (.there none) s)
    (no : ∀ K, k ∉ L.map (·.2) → way t.mask (thash P w k) K ∉ t.place.toList → (∀ d, d < K → way t.mask (thash P w k) d ∈ t.place.toList) → Q (.free (way t.mask (thash P w k) K) false) s) : wpAny (model P w) A (setSearch a (.ref x) (thash P w k) true) Q E s := by
  have rm := R.room
  obtain ⟨K, h1, h2, h3⟩ := R.tab.first (by rw [List.length_map]; omega) (thash P w k)
  have small : K < 100000 := by
    have z : SetTable.turns t.mask ≤ 600 := by
      unfold SetTable.turns
      have := R.tab.rnd.low
      omega
    omega
  unfold setSearch
  refine R.seek hx hu h1 h2 h3 yes (fun z => no K z h2 h3) 100000 0 none (Nat.zero_le _) (by omega) rfl fun i q e ek => ?_
  have il := (List.getElem?_eq_some_iff.mp e).1
  have ip : i < t.place.toList.length := by rw [Array.length_toList, R.places]; exact il
  obtain ⟨d, c1, c2⟩ := R.tab.ahead h2 (i := i) (h := thash P w k) (by rw [List.getElem?_map, e, ← ek]; rfl) (List.getElem?_eq_getElem ip)
  exact ⟨d, Nat.zero_le _, c1, by rw [c2]; exact List.getElem?_eq_getElem ip⟩
theorem size_512 : SetTable.sizeAbove (SetTable.grown 77) = 512 := by decide +kernel
/-- the larger table -/
theorem SetW.wider {o : Obj} (eo : s.heap.get? a = some o) (ex : o.ExactSet) (ed : o.data = .set es ep t) (rows : es.toList = L2.rowsOf P w L) (T : Laid t (L.map fun q => thash P w q.2)) (nd : (L.map (·.2)).Nodup) (tup : ∀ q ∈ L, IsT P w s.heap q.2 q.1) (pl : t.plain = true) (ld : w.params.followText "set-order" = true ∨ t.led = true)
    (room : L.length ≤ t.mask) {wanted M : Nat} (hw : SetTable.sizeAbove wanted - 1 = M) (hM : Round M) (hk : M = 7 ∨ M = 31 ∨ M = 127 ∨ M = 511) (hn : L.length * 5 < M * 3) {Q : Unit → Shared → Prop}
    (hQ : ∀ h' L' es' ep' t', Heap.SameBut a s.heap h' → SetW P w h' a L' es' ep' t' → L'.Perm L → Q () { s with heap := h' }) : wpAny (model P w) A (setRelay a wanted) Q E s := by
  have se : es.size = L.length := by rw [← Array.length_toList, rows]; exact List.length_map ..
  have sp : t.place.size = L.length := by have z := T.many; rwa [List.length_map, Array.length_toList] at z
  have fits : t.fits es.size = true := by
    have e : t.fill = L.length := by unfold SetTable.fill; rw [T.bare, sp]; rfl
    unfold SetTable.fits
    rw [Bool.and_eq_true]
    exact ⟨by rw [sp, se]; exact beq_self_eq_true _, decide_eq_true (by rw [e]; exact room)⟩
  obtain ⟨t', order, e, pm, T', em, el, ep'⟩ := relaid_laid t (hs := es.map (·.1)) hw hM (by rw [Array.size_map, se]; omega)
  rw [Array.size_map, se] at pm
  obtain ⟨L', r1, r2, r3⟩ := order_rows L es order rows pm
  have s2 : (order.filterMap (es[·]?)).size = L.length := by
    rw [← Array.length_toList, r1, ← r2.length_eq]
    exact List.length_map ..
  rw [setRelay_eq]
  refine wpAny_bind (wpAny_setState_of eo ed fits ?_)
  dsimp only
  refine wp_if_neg (by rw [sizeLine_eq]; omega) ?_
  try refine wpAny_bind (wpAny_pure ?_)
  rw [e]
  dsimp only
  refine wpAny_bind ?_
  refine wp_if_neg (by rw [s2, se]; simp) ?_
  try refine wpAny_bind (wpAny_pure ?_)
  refine wpAny_pure ?_
  dsimp only
  refine wpAny_storeSet_of eo ed ?_ (by rw [s2, sizeLine_eq]; omega)
  have sb : Heap.SameBut a s.heap (s.heap.update a (Obj.putSet (order.filterMap (es[·]?)) t')) := Heap.SameBut.update ..
  exact hQ _ L' _ (ep + 1) t' sb ⟨⟨_, L2.store_at eo ed, ⟨ex.1, ex.2.1, ex.2.2⟩, rfl⟩, r1, r3 ▸ T', by rw [em]; exact hk, (r2.map (·.2)).nodup_iff.mpr nd, fun q hq => isT_same (tup q (r2.mem_iff.mp hq)) eo ed sb, by rw [ep']; exact pl, by rw [el]; exact ld, by rw [r2.length_eq, em]; exact hn⟩ r2
/-- one more -/
theorem SetW.add (R : SetW P w s.heap a L es ep t) {x : Addr} {k : List Int} (hx : IsT P w s.heap k x) (hu : A.units < cLine) (few : L.length < 306) {Q : Bool → Shared → Prop}
    (hQ : ∀ b h' L' es' ep' t', Heap.SameBut a s.heap h' → SetW P w h' a L' es' ep' t' → (k ∈ L.map (·.2) → L' = L) → (k ∉ L.map (·.2) → L'.Perm ((x, k) :: L)) → Q b { s with heap := h' }) :
    wpAny (model P w) A (setAddHashed a (.ref x) (thash P w k)) Q E s := by
  obtain ⟨o, eo, ex, ed⟩ := R.ob
  have rm := R.room
  have msk := R.msk
  unfold setAddHashed
  refine wpAny_holding ?_
  rw [show (100000 : Nat) = 99999 + 1 from rfl, setAddHashedIn_succ]
  refine wpAny_bind (wpAny_setState_of eo ed R.fits ?_)
  dsimp only
  refine wp_if_neg (by simp [byScan, Value.scannable]) ?_
  try refine wpAny_bind (wpAny_pure ?_)
  refine wpAny_bind (R.search hx hu (fun hm => ?_) fun K hm h1 h2 => ?_)
  · dsimp only
    exact wpAny_pure (hQ false s.heap L es ep t (Heap.SameBut.refl a _) R (fun _ => rfl) fun z => absurd hm z)
  · dsimp only
    refine wpAny_bind (wpAny_setState_of eo ed R.fits ?_)
    dsimp only
    obtain ⟨p3, p9⟩ := R.tab.put rfl h1 h2
    rw [List.length_map] at p9
    have p4 : (t.put (way t.mask (thash P w k) K)).1.mask = t.mask := rfl
    have p5 : (t.put (way t.mask (thash P w k) K)).1.led = t.led := rfl
    have p6 : (t.put (way t.mask (thash P w k) K)).1.plain = t.plain := rfl
    have p1 : (t.put (way t.mask (thash P w k) K)).2 = SetTable.below t.place (way t.mask (thash P w k) K) := rfl
    have rw' : (SetTable.insertAt es (t.put (way t.mask (thash P w k) K)).2 (thash P w k, Value.ref x)).toList = L2.rowsOf P w (L.take (t.put (way t.mask (thash P w k) K)).2 ++ (x, k) :: L.drop (t.put (way t.mask (thash P w k) K)).2) := by
      rw [SetTable.toList_insertAt, rows_put, R.rows]
    rw [← p1] at p3
    generalize t.put (way t.mask (thash P w k) K) = pt at p1 p3 p4 p5 p6 p9 rw' ⊢
    obtain ⟨t1, p⟩ := pt
    dsimp only at p1 p3 p4 p5 p6 p9 rw' ⊢
    have pl1 : t1.plain = true := p6.trans R.plain
    first
      | (refine wpAny_bind ?_; refine wp_if_pos pl1 ?_; refine hashBy_tup hx ?_)
      | refine wp_if_pos pl1 (wpAny_bind (hashBy_tup hx ?_))
    simp only [if_true]
    have pm := put_perm L p (x, k)
    have e3 : (L.map fun q => thash P w q.2).take p ++ thash P w k :: (L.map fun q => thash P w q.2).drop p = (L.take p ++ (x, k) :: L.drop p).map fun q => thash P w q.2 := by
      rw [List.map_append, List.map_cons, List.map_take, List.map_drop]
    rw [e3] at p3
    generalize L.take p ++ (x, k) :: L.drop p = M at pm p3 rw'
    have len : M.length = L.length + 1 := by rw [pm.length_eq]; rfl
    have len2 : (SetTable.insertAt es p (thash P w k, Value.ref x)).size = L.length + 1 := by
      rw [← Array.length_toList, rw', ← len]
      exact List.length_map ..
    have les : es.size = L.length := R.size
    generalize SetTable.insertAt es p (thash P w k, Value.ref x) = es1 at rw' len2 ⊢
    refine wpAny_bind (wpAny_storeSet_of eo ed ?_ (by rw [len2, sizeLine_eq]; omega))
    have sb : Heap.SameBut a s.heap (s.heap.update a (Obj.putSet es1 t1)) := Heap.SameBut.update ..
    have eo1 := L2.store_at (es' := es1) (t' := t1) eo ed
    generalize s.heap.update a (Obj.putSet es1 t1) = h1 at sb eo1 ⊢
    have nd1 : (M.map (·.2)).Nodup := by
      refine (pm.map (·.2)).nodup_iff.mpr ?_
      rw [List.map_cons]
      exact List.nodup_cons.mpr ⟨hm, R.nd⟩
    have tup1 : ∀ q ∈ M, IsT P w h1 q.2 q.1 := fun q hq => by
      rcases List.mem_cons.mp (pm.mem_iff.mp hq) with e | e
      · rw [e]; exact isT_same hx eo ed sb
      · exact isT_same (R.tup q e) eo ed sb
    have ld1 : w.params.followText "set-order" = true ∨ t1.led = true := by rw [p5]; exact R.led
    by_cases c : (L.length + 1) * 5 < t.mask * 3
    · have notFull : ¬ (!false && t1.tooFull) = true := by
        unfold SetTable.tooFull
        rw [p9, p4]
        simp
        omega
      first
        | refine wp_if_neg notFull ?_
        | (refine wpAny_bind ?_; refine wp_if_neg notFull ?_; refine wpAny_pure ?_)
      exact wpAny_pure (hQ true h1 M es1 (ep + 1) t1 sb ⟨⟨_, eo1, ⟨ex.1, ex.2.1, ex.2.2⟩, rfl⟩, rw', p3, by rw [p4]; exact msk, nd1, tup1, pl1, ld1, by rw [len, p4]; exact c⟩ (fun z => absurd z hm) fun _ => pm)
    · have full : (!false && t1.tooFull) = true := by
        unfold SetTable.tooFull
        rw [p9, p4]
        simp
        omega
      obtain ⟨N, w1, w2, w3, w4⟩ : ∃ N, SetTable.sizeAbove (SetTable.grown (L.length + 1)) - 1 = N ∧ Round N ∧ (N = 7 ∨ N = 31 ∨ N = 127 ∨ N = 511) ∧ (L.length + 1) * 5 < N * 3 := by
        have three : L.length = 4 ∨ L.length = 18 ∨ L.length = 76 := by omega
        rcases three with e | e | e
        · exact ⟨31, by rw [e, size_20], round_of (.inr (.inl rfl)), by omega, by omega⟩
        · exact ⟨127, by rw [e, size_76], round_of (.inr (.inr rfl)), by omega, by omega⟩
        · exact ⟨511, by rw [e, size_512], round511, by omega, by omega⟩
      first
        | (refine wpAny_bind ?_; refine wp_if_pos full ?_)
        | (refine wp_if_pos full ?_; refine wpAny_bind ?_)
      rw [les]
      refine SetW.wider (s := { s with heap := h1 }) eo1 ⟨ex.1, ex.2.1, ex.2.2⟩ rfl rw' p3 nd1 tup1 pl1 ld1 (by rw [len, p4]; omega) w1 w2 w3 (by rw [len]; exact w4) fun h2 L2' es2 ep2 t2 sb2 R2 pm2 => ?_
      exact wpAny_pure (hQ true h2 L2' es2 ep2 t2 (sb.trans sb2) R2 (fun z => absurd z hm) fun _ => pm2.trans pm)
end
/-- the set, without the tuples themselves -/
structure SetW0 (P : Program) (w : World) (h : Heap) (a : Addr) (L : List (Addr × List Int)) : Prop where
  ex : ∃ es ep t, ∀ h', (∀ o, h.get? a = some o → h'.get? a = some o) → (∀ q ∈ L, IsT P w h' q.2 q.1) → SetW P w h' a L es ep t
  ob : ∃ o, h.get? a = some o
def SetWO (P : Program) (w : World) (a : Addr) (L : List (Addr × List Int)) : HO := .ext fun h => SetW0 P w h a L
theorem SetW.t0 {P : Program} {w : World} {h : Heap} {a : Addr} {L : List (Addr × List Int)} {es : Array (Int × Value)} {ep : Nat} {t : SetTable} (R : SetW P w h a L es ep t) : SetW0 P w h a L :=
  ⟨⟨es, ep, t, fun h' k kt => R.keep k kt⟩, R.ob.imp fun o e => e.1⟩
theorem SetW0.full {P : Program} {w : World} {h : Heap} {a : Addr} {L : List (Addr × List Int)} (R : SetW0 P w h a L) (kt : ∀ q ∈ L, IsT P w h q.2 q.1) : ∃ es ep t, SetW P w h a L es ep t := by
  obtain ⟨es, ep, t, f⟩ := R.ex
  exact ⟨es, ep, t, f h (fun _ e => e) kt⟩
theorem setWO_new {P : Program} {w : World} {H : Hp} {h : Heap} {a : Addr} {L : List (Addr × List Int)} (R : SetW0 P w h a L) : ObjOk P w H h a (SetWO P w a L) := by
  refine ⟨R, R.ob, fun h1 h2 p k => ?_⟩
  have p : SetW0 P w h1 a L := p
  obtain ⟨es, ep, t, f⟩ := p.ex
  obtain ⟨o, eo⟩ := p.ob
  exact ⟨⟨es, ep, t, fun h' k' kt => f h' (fun o e => k' o (k o e)) kt⟩, o, k o eo⟩
end J
namespace J
open PySem PySem.Spec L2 PyProof.Rows
/-! set(xs) of tuples, sorted(..): few of them are unlike -/
theorem few_of {D M : List (List Int)} (hM : M.Nodup) (hs : ∀ x ∈ M, x ∈ D) : M.length ≤ D.length := by
  induction M generalizing D with
  | nil => exact Nat.zero_le _
  | cons x xs ih =>
    have hx : x ∈ D := hs x List.mem_cons_self
    rw [List.nodup_cons] at hM
    have q := ih (D := D.erase x) hM.2 fun y hy => (List.mem_erase_of_ne (fun (e : y = x) => hM.1 (e ▸ hy))).mpr (hs y (List.mem_cons_of_mem _ hy))
    rw [List.length_erase_of_mem hx] at q
    have : 0 < D.length := List.length_pos_of_mem hx
    rw [List.length_cons]; omega
/-- what the set holds behind the first i items -/
structure Held (ks : List (Addr × List Int)) (i : Nat) (L : List (Addr × List Int)) : Prop where
  sub : ∀ q ∈ L, q ∈ ks.take i
  all : ∀ q ∈ ks.take i, q.2 ∈ L.map (·.2)
theorem Held.next {ks L L' : List (Addr × List Int)} {i : Nat} {x : Addr × List Int} (g : Held ks i L) (h : ks[i]? = some x) (c1 : x.2 ∈ L.map (·.2) → L' = L) (c2 : x.2 ∉ L.map (·.2) → L'.Perm (x :: L)) : Held ks (i + 1) L' := by
  have et : ks.take (i + 1) = ks.take i ++ [x] := by rw [List.take_add_one, h]; rfl
  by_cases m : x.2 ∈ L.map (·.2)
  · rw [c1 m]
    constructor
    · intro q hq; rw [et]; exact List.mem_append_left _ (g.sub q hq)
    · intro q hq
      rw [et] at hq
      rcases List.mem_append.mp hq with z | z
      · exact g.all q z
      · rw [List.mem_singleton] at z; rw [z]; exact m
  · have pm := c2 m
    constructor
    · intro q hq
      rw [et]
      rcases List.mem_cons.mp (pm.mem_iff.mp hq) with z | z
      · exact List.mem_append_right _ (by rw [z]; exact List.mem_singleton.mpr rfl)
      · exact List.mem_append_left _ (g.sub q z)
    · intro q hq
      rw [(pm.map (·.2)).mem_iff, List.map_cons]
      rw [et] at hq
      rcases List.mem_append.mp hq with z | z
      · exact List.mem_cons_of_mem _ (g.all q z)
      · rw [List.mem_singleton] at z; rw [z]; exact List.mem_cons_self
section
variable {P : Program} {w : World} {A : Around} {E : Value → Shared → Prop} {s : Shared}
theorem upd_loop {It : Addr} {fp wr : List Addr} {G : Array GenState → Array GenState → Prop} {n : Nat} {Pv : Nat → Value → Prop} {St : Nat → Shared → Prop} {R : Result → Shared → Prop} (Wk : WalksS P w A.in1 It fp wr G n Pv St) (S : Addr) (hSf : S ∉ fp) (ks : List (Addr × List Int)) (hn : n = ks.length)
    (Dk : List (List Int)) (hDk : ∀ q ∈ ks, q.2 ∈ Dk) (hfew : Dk.length < 306) (hval : ∀ i v, Pv i v → ∃ q, ks[i]? = some q ∧ v = .ref q.1) (h0 : Heap) (hk : ∀ q ∈ ks, IsT P w h0 q.2 q.1) (nS : h0.get? S = none) (nw : ∀ b ∈ wr, h0.get? b = none) (hu : A.in1.units < cLine) :
    ∀ (k i : Nat) (s : Shared), n - i = k → i ≤ n → St i s → (∀ b o, h0.get? b = some o → s.heap.get? b = some o) → (∃ L es ep t, SetW P w s.heap S L es ep t ∧ Held ks i L) →
      (∀ s' L es ep t, Moved (S :: wr) G s s' → SetW P w s'.heap S L es ep t → Held ks n L → (∀ b o, h0.get? b = some o → s'.heap.get? b = some o) → R (.ok (.ret .none)) s') →
      codeAny (model P w) A (.builtin "set.update.loop" ⟨[.ref S, .ref It], []⟩) R s := by
  have nSw : S ∉ wr := fun z => hSf (Wk.sub _ z)
  have incl : ∀ b ∈ wr, b ∈ S :: wr := fun b z => List.mem_cons_of_mem _ z
  have kept : ∀ {s s' : Shared}, Moved wr G s s' → (∀ b o, h0.get? b = some o → s.heap.get? b = some o) → ∀ b o, h0.get? b = some o → s'.heap.get? b = some o := by
    intro s s' mv kp b o e
    refine mv.heap b o (fun z => ?_) (kp b o e)
    rw [nw b z] at e; cases e
  intro k
  induction k with
  | zero =>
    rintro i s ek hi hst kp ⟨L, es, ep, t, hS, g⟩ fin
    obtain rfl : i = n := by omega
    apply codeAny_builtin F.entry_set_update_loop
    rw [Around.under_plainId F.plain_set_update_loop _]
    show wpAny _ A.in1 (pyNext (.ref It) >>= _) _ _ s
    refine wpAny_bind (Wk.done s _ _ hst fun s1 mv => ?_)
    show wpAny _ A.in1 (ret Value.none) _ _ s1
    have kp1 := kept mv kp
    refine wpAny_pure (fin s1 L es ep t (mv.mono incl) (hS.keep (fun o e => mv.heap S o nSw e) fun q hq => ?_) g kp1)
    exact isT_keep (hk q (List.mem_of_mem_take (g.sub q hq))) kp1
  | succ k ih =>
    rintro i s ek hi hst kp ⟨L, es, ep, t, hS, g⟩ fin
    have hlt : i < n := by omega
    apply codeAny_builtin F.entry_set_update_loop
    rw [Around.under_plainId F.plain_set_update_loop _]
    show wpAny _ A.in1 (pyNext (.ref It) >>= _) _ _ s
    refine wpAny_bind (Wk.item i s _ _ hlt hst fun v s1 pv hst1 mv => ?_)
    obtain ⟨q, hq, rfl⟩ := hval i v pv
    have kp1 := kept mv kp
    have inks : ∀ r ∈ L, r ∈ ks := fun r hr => List.mem_of_mem_take (g.sub r hr)
    have hS1 : SetW P w s1.heap S L es ep t := hS.keep (fun o e => mv.heap S o nSw e) fun r hr => isT_keep (hk r (inks r hr)) kp1
    have hx : IsT P w s1.heap q.2 q.1 := isT_keep (hk q (List.mem_of_getElem? hq)) kp1
    have le : L.length ≤ Dk.length := by
      have z := few_of (D := Dk) hS.nd fun x hx => by
        obtain ⟨r, hr, e⟩ := List.mem_map.mp hx
        rw [← e]; exact hDk r (inks r hr)
      rw [List.length_map] at z; exact z
    show wpAny _ A.in1 (holding [Value.ref q.1] (setAdd S (.ref q.1)) >>= _) _ _ s1
    apply wpAny_bind
    apply wpAny_holding
    unfold setAdd
    apply wpAny_holding
    apply wpAny_bind
    refine wpAny_pyHash_tuple hu hx (SetW.add (s := { s1 with toks := s1.toks + (q.2.length + 1) }) hS1 hx hu (by omega) fun b h' L' es' ep' t' sb hS2 c1 c2 => ?_)
    have g' : Held ks (i + 1) L' := g.next hq c1 c2
    have kp2 : ∀ b o, h0.get? b = some o → h'.get? b = some o := by
      intro b o e
      refine (sb.2 b fun z => ?_).trans (kp1 b o e)
      rw [z, nS] at e; cases e
    refine wpAny_pure ⟨plainId_quiet F.plain_set_update_loop _, ih (i + 1) _ (by omega) hlt (Wk.frame _ s1 _ _ hst1 (Nat.le_add_right _ _) fun b hb o e => ?_) kp2 ⟨L', es', ep', t', hS2, g'⟩ fun s2 L2 es2 ep2 t2 mv2 hS3 g3 kp3 => ?_⟩
    · have nb : b ≠ S := fun z => hSf (z ▸ hb)
      exact (sb.2 b nb).trans e
    · refine fin s2 L2 es2 ep2 t2 (Moved.trans Wk.gtrans ((mv.mono incl).then_heap (Nat.le_add_right _ _) fun b o hb e => ?_) mv2) hS3 g3 kp3
      have nb : b ≠ S := fun z => hb (z ▸ List.mem_cons_self)
      exact (sb.2 b nb).trans e
set_option maxHeartbeats 3200000 in
theorem set_call {l : Addr} {items : Array Value} (ks : List (Addr × List Int)) {Q : Value → Shared → Prop} (hh : A.handled = none) (hl : s.heap.IsList l items) (hit : items.toList = ks.map fun q => Value.ref q.1) (hk : ∀ q ∈ ks, IsT P w s.heap q.2 q.1) (Dk : List (List Int)) (hDk : ∀ q ∈ ks, q.2 ∈ Dk) (hfew : Dk.length < 306) (hu : A.units + 3 < cLine)
    (fin : ∀ (h' : Heap) (tk : Nat) L es ep t, SetW P w h' s.heap.objs.size L es ep t → Held ks ks.length L → (∀ b o, s.heap.get? b = some o → h'.get? b = some o) → Q (.ref s.heap.objs.size) { s with heap := h', toks := tk }) :
    wpAny (model P w) A (call (.type "set") [.ref l]) Q E s := by
  have lens : items.size = ks.length := by
    rw [← Array.length_toList, hit, List.length_map]
  generalize eN : ({ cls := .type "set", dict := none, data := .set #[] 0 (.fresh 0 0 (!w.params.followText "set-order")) } : Obj) = oN
  obtain ⟨c, tl, hmro⟩ := F.called_set.mro
  have hmade := F.called_set.made
  have hsub := F.called_set.sub
  apply wpAny_call
  apply codeAny_of_tree
  show wpAny _ _ (callAny (.type "set") _) _ _ _
  refine wpAny_pure ⟨Code.quiet_builtin _ (by decide +kernel), codeAny_builtin F.entry_type_call ?_⟩
  rw [Around.under_plain (weight_type_call_type "set" [.ref l] []) rfl]
  have k1 := F.called_set.notType
  have k2 := F.called_set.canCreate
  have k3 := F.typeCall_set_1 (.ref l)
  repeat (any_goals (first | assumption | wp_step))
  have made := code_set_led1 (P := P) (w := w) (s := s) (A := A.in1) (.ref l) (E := E) (Q₁ := fun obj s₁ => obj = .ref s.heap.objs.size ∧ s₁ = { s with heap := s.heap.push oN }) (by rw [eN]; exact ⟨rfl, rfl⟩)
  refine codeAny_mono made fun r s₁ hr => ?_
  have nw : ∀ b, s.heap.objs.size ≤ b → s.heap.get? b = none := by
    intro b hb
    cases e : s.heap.get? b with
    | none => rfl
    | some o => exact absurd (Heap.lt_size e) (Nat.not_lt.mpr hb)
  have hN : (s.heap.push oN).get? s.heap.objs.size = some oN := by rw [← eN]; exact Heap.get?_push_size _ rfl
  match r, hr with
  | .error e, hr => exact hr
  | .ok (.ret obj), hr =>
    obtain ⟨rfl, rfl⟩ := hr
    have hT : Shared.TypeIs { s with heap := s.heap.push oN } (.ref s.heap.objs.size) "set" := ⟨_, hN, by rw [← eN]⟩
    have k4 := F.called_set.init.lookup
    have k5 := F.called_set.init.bind (.ref s.heap.objs.size)
    repeat (any_goals (first | assumption | wp_step))
    refine codeAny_mono (codeAny_call_builtin (R := wants (fun r s₂ => r = .none ∧ ∃ h' tk L es ep t, s₂ = { s with heap := h', toks := tk } ∧ SetW P w h' s.heap.objs.size L es ep t ∧ Held ks ks.length L ∧ ∀ b o, s.heap.get? b = some o → h'.get? b = some o) E) F.called_set.init.plain F.entry_set_init (check_set_init_1 hT ?_)) fun r₂ s₂ hr₂ => ?_
    · subst eN
      obtain ⟨⟨ocls, odict, odata, oslots⟩, hol, hcl, nl, hdl⟩ := hl
      simp only at hcl hdl
      subst hcl hdl
      have hol' : (s.heap.push { cls := .type "set", dict := none, data := .set #[] 0 (.fresh 0 0 (!w.params.followText "set-order")) }).get? l = _ := Heap.get?_push_of_some _ hol
      have j1 := F.sub_list_set
      have j2 := F.sub_list_frozenset
      have j3 : (Value.type "list" == Value.type "dict") = false := by decide
      have hl1 : Heap.IsList (s.heap.push { cls := .type "set", dict := none, data := .set #[] 0 (.fresh 0 0 (!w.params.followText "set-order")) }) l items := ⟨_, hol', rfl, nl, rfl⟩
      unfold Builtin.«set.__init__» noKeywords Builtin.Frozenset.updateFrom
      generalize hPI : pyIter = PI
      wp_walk
      subst hPI
      apply wpAny_pyIter_list hl1
      apply wpAny_bind
      apply wpAny_runValue
      have lS : l < s.heap.objs.size := Heap.lt_size hol
      have sz : ∀ o : Obj, (s.heap.push o).objs.size = s.heap.objs.size + 1 := fun o => Heap.size_push ..
      have ne1 : ∀ o : Obj, l ≠ (s.heap.push o).objs.size := fun o => by rw [sz]; exact Nat.ne_of_lt (Nat.lt_succ_of_lt lS)
      have ne2 : ∀ o : Obj, s.heap.objs.size ∉ [(s.heap.push o).objs.size, l] := by
        intro o z
        rw [sz] at z
        rcases List.mem_cons.mp z with z | z
        · exact absurd z (Nat.ne_of_lt (Nat.lt_succ_self _))
        · exact absurd (List.mem_singleton.mp z) (Nat.ne_of_gt lS)
      have vals : ∀ (i : Nat) (v : Value), items[i]? = some v → ∃ q, ks[i]? = some q ∧ v = .ref q.1 := by
        intro i v hv
        rw [← Array.getElem?_toList, hit, List.getElem?_map] at hv
        obtain ⟨q, e1, e2⟩ := Option.map_eq_some_iff.mp hv
        exact ⟨q, e1, e2.symm⟩
      refine upd_loop ((Walks.list (by simp [hh]) _ l (ne1 _) items).toS) s.heap.objs.size (ne2 _) ks lens Dk hDk hfew vals s.heap hk (nw _ (Nat.le_refl _)) (fun b hb => nw b (by rw [List.mem_singleton.mp hb, sz]; exact Nat.le_succ _)) hu (items.size - 0) 0 _ (by omega) (Nat.zero_le _)
        ⟨⟨_, Heap.get?_push_size _ rfl, rfl, rfl⟩, (hl1.push _)⟩ (fun b o e => Heap.get?_push_of_some _ (Heap.get?_push_of_some _ e)) ⟨[], #[], 0, _, .of (setTR_fresh (Heap.get?_push_of_some _ hN)), ⟨fun q z => (by cases z), fun q z => (by simp at z)⟩⟩ ?_
      rintro ⟨h', g2, d', tk', os'⟩ L es ep t mv hS' g' kp
      have eg : g2 = s.gens := mv.gens
      have ed : d' = s.drawn := mv.drawn
      have eo : os' = s.os := mv.os
      subst eg ed eo
      apply wpAny_pure
      show wpAny _ _ (ret Value.none) _ _ _
      rw [lens] at g'
      exact wpAny_pure ⟨rfl, h', tk', L, es, ep, t, rfl, hS', g', kp⟩
    · match r₂, hr₂ with
      | .error e, hr₂ => exact hr₂
      | .ok (.ret u), hr₂ =>
        obtain ⟨rfl, h', tk, L, es, ep, t, rfl, hS', g', kp⟩ := hr₂
        repeat (any_goals (first | assumption | wp_step))
        exact fin _ _ _ _ _ _ hS' g' kp
      | .ok .next, hr₂ => exact hr₂.elim
      | .ok .brk, hr₂ => exact hr₂.elim
      | .ok .cont, hr₂ => exact hr₂.elim
  | .ok .next, hr => exact hr.elim
  | .ok .brk, hr => exact hr.elim
  | .ok .cont, hr => exact hr.elim
end
end J
namespace J
open PySem PySem.Spec PySem.W L2 PyProof.Rows
section
variable {P : Program} {w : World} {A : Around} {E : Value → Shared → Prop} {s : Shared}
/-- sorted(v): from what is collected -/
theorem sorted_any {β : Type} {v : Value} {enc : β → PyData} {R : Value → β → Prop} {Q : Value → Shared → Prop}
    (hcol : wpAny (model P w) A.in1 (collect v) (fun vs s1 => ∃ bs : List β, EachIs R vs bs ∧ EachIs (fun v b => Reads s1.heap v (enc b) []) vs bs ∧ AllAlike (bs.map enc) ∧ Sortable (bs.map enc) ∧ bs.length ≤ sizeLine ∧ (∀ b ∈ bs, A.in1.units + 1 + (enc b).depth < cLine) ∧
      ∀ (out : List Value) (h' : Heap) (n : Nat), EachIs R out (bs.mergeSort (dataLe false enc)) → (∀ b o, s1.heap.get? b = some o → h'.get? b = some o) → h'.get? s1.heap.objs.size = some (seqObj "list" out.toArray n) → Q (.ref s1.heap.objs.size) { s1 with heap := h' }) E s) :
    wpAny (model P w) A (call (.builtin "sorted") [v]) Q E s := by
  apply Calls.call_function_entry kind_sorted plain_sorted entry_sorted (args_sorted1 _)
  unfold Builtin.«sorted»
  refine wpAny_bind (m := checkCount "sorted" 1 1 _) (wpAny_pure (wpAny_bind (wpAny_mono hcol (fun vs s1 z => ?_) fun _ _ z => z)))
  obtain ⟨bs, e, er, hal, hk, hL, hu, fin⟩ := z
  have hlv : vs.length ≤ sizeLine := by rw [e.length]; exact hL
  refine wpAny_bind (wpAny_newList ?_ hlv)
  have hoL : (s1.heap.push (seqObj "list" vs.toArray 0)).get? s1.heap.objs.size = some (seqObj "list" vs.toArray 0) := Heap.get?_push_size _ rfl
  refine wpAny_bind (wpAny_holding (list_sort_data (s := { s1 with heap := s1.heap.push (seqObj "list" vs.toArray 0) }) (R := R) (enc := enc) hoL e (er.mono fun v b r => ⟨[], PyProof.Rows.Reads.keeps (fun b o q => Heap.get?_push_of_some _ q) r, List.not_mem_nil⟩) hal hk hL hu fun out hl ho => ?_))
  obtain ⟨n, hn⟩ := sortedHeap_at (vs := vs) (out := out.toArray) hoL
  refine wpAny_pure ⟨_, rfl, fin out _ n ho (fun b o q => ?_) hn⟩
  have lt := Heap.lt_size q
  rw [sortedHeap_old (Nat.ne_of_lt lt) (by rw [size_push']; exact Nat.lt_succ_of_lt lt)]
  exact Heap.get?_push_of_some _ q
end
/-! the order of ints, and of tuples of ints -/
def intL : List VV → Option (List Int)
  | [] => some []
  | .int i :: xs => (intL xs).map fun r => i :: r
  | _ => none
def intsV : VV → Option (List Int)
  | .tup xs => intL xs
  | _ => none
def encV : VV → PyData
  | .int i => .int i
  | v => .tuple (((intsV v).getD []).map .int)
def isI : VV → Bool
  | .int _ => true
  | _ => false
def isT1 (v : VV) : Bool := match intsV v with
  | some (_ :: _) => true
  | _ => false
def okS (xs : List VV) : Bool := xs.all isI || xs.all isT1
def leS : VV → VV → Bool := dataLe false encV
def srt (xs : List VV) : Option VV := if okS xs = true then some (.lst (xs.mergeSort leS)) else none
def cSorted : OpN := fun h vs => match vs with
  | [.tup xs] => srt xs
  | [v] => (lstOf h v).bind srt
  | _ => none
theorem intL_vals {c : Ct} {z : Addr → Prop} {H : Hp} : ∀ {xs : List VV} {us : List V} {k : List Int}, RVs c z H xs us → intL xs = some k → us = k.map V.int
  | [], us, k, r, e => by
    cases e
    rw [RVs] at r
    rw [r]; rfl
  | x :: xs, us, k, r, e => by
    rw [RVs] at r
    obtain ⟨u, q, rfl, a, b⟩ := r
    cases x with
    | int i =>
      unfold intL at e
      obtain ⟨l, e3, e4⟩ := Option.map_eq_some_iff.mp e
      subst e4
      rw [intL_vals b e3, List.map_cons]
      rw [RV] at a
      rw [a]
    | _ => cases e
theorem reads_ints {h : Heap} : ∀ {k : List Int} {its : List Value}, Vals (k.map V.int) its → ReadsAll h its (k.map .int) []
  | [], _, r => by cases r; exact .nil
  | i :: k, _, r => by
    cases r with
    | cons a b =>
      obtain ⟨t, rfl⟩ := a
      exact ReadsAll.cons (as := []) (bs := []) (.int i t) (reads_ints b)
section
variable {X : Cx}
theorem reads_of {pins : List (Addr × Obj)} {σ : L2.St} {H : Hp} {s : Shared} {g : Gh} {v : VV} {u : V} {r : Value} (I : L2.Inv X pins σ H s) (h' : Heap) (hk : ∀ b o, s.heap.get? b = some o → h'.get? b = some o) (rv : RV (ct X) g.fz H v u) (ru : RelV u r) (ok : isI v = true ∨ isT1 v = true) : Reads h' r (encV v) [] := by
  cases v with
  | int i =>
    rw [RV] at rv
    subst rv
    obtain ⟨t, rfl⟩ := (show ∃ t, r = Value.int i t from ru)
    exact .int i t
  | tup xs =>
    have hi : isT1 (.tup xs) = true := by
      rcases ok with ok | ok
      · cases ok
      · exact ok
    have hi : (match intL xs with
      | some (_ :: _) => true
      | _ => false) = true := hi
    cases e : intL xs with
    | none => rw [e] at hi; cases hi
    | some k =>
      rw [RV] at rv
      obtain ⟨p, us, rfl, ta, rs⟩ := rv
      obtain rfl : r = Value.ref p := ru
      have eu := intL_vals rs e
      obtain ⟨its, rvs, ⟨o, ho, hc, n, hd⟩, _⟩ := I.tuple (X := X) ta.sq
      rw [eu] at rvs
      have ee : encV (.tup xs) = .tuple (k.map .int) := by
        show PyData.tuple (((intL xs).getD []).map .int) = _
        rw [e]; rfl
      rw [ee]
      exact .tuple (hk _ _ ho) hc hd (reads_ints (by simpa using rvs))
  | _ =>
    rcases ok with ok | ok <;> cases ok
theorem alikeS {xs : List VV} (ok : okS xs = true) : AllAlike (xs.map encV) ∧ Sortable (xs.map encV) ∧ (∀ x ∈ xs, isI x = true ∨ isT1 x = true) ∧ ∀ x ∈ xs, (encV x).depth ≤ 1 := by
  unfold okS at ok
  rcases Bool.or_eq_true _ _ ▸ ok with ok | ok
  · rw [List.all_eq_true] at ok
    have sh : ∀ x ∈ xs, ∃ i, x = .int i := fun x hx => by
      have q := ok x hx
      cases x with
      | int i => exact ⟨i, rfl⟩
      | _ => cases q
    refine ⟨fun d hd d' hd' => ?_, .inr fun d hd => ?_, fun x hx => .inl (ok x hx), fun x hx => ?_⟩
    · obtain ⟨x, hx, rfl⟩ := List.mem_map.mp hd
      obtain ⟨y, hy, rfl⟩ := List.mem_map.mp hd'
      obtain ⟨i, rfl⟩ := sh x hx
      obtain ⟨j, rfl⟩ := sh y hy
      rfl
    · obtain ⟨x, hx, rfl⟩ := List.mem_map.mp hd
      obtain ⟨i, rfl⟩ := sh x hx
      exact ⟨(fun z => nomatch z), (fun ys z => nomatch z)⟩
    · obtain ⟨i, rfl⟩ := sh x hx
      show PyData.depth (.int i) ≤ 1
      simp [PyData.depth]
  · rw [List.all_eq_true] at ok
    have sh : ∀ x ∈ xs, ∃ i k, encV x = .tuple ((i :: k).map .int) := fun x hx => by
      have q := ok x hx
      unfold isT1 at q
      cases e : intsV x with
      | none => rw [e] at q; cases q
      | some k =>
        rw [e] at q
        cases k with
        | nil => cases q
        | cons i k =>
          refine ⟨i, k, ?_⟩
          cases x with
          | tup ys =>
            show PyData.tuple (((intsV (.tup ys)).getD []).map .int) = _
            rw [e]; rfl
          | _ => cases e
    refine ⟨fun d hd d' hd' => ?_, .inl fun d hd => ?_, fun x hx => .inr (ok x hx), fun x hx => ?_⟩
    · obtain ⟨x, hx, rfl⟩ := List.mem_map.mp hd
      obtain ⟨y, hy, rfl⟩ := List.mem_map.mp hd'
      obtain ⟨i, k, e1⟩ := sh x hx
      obtain ⟨j, l, e2⟩ := sh y hy
      rw [e1, e2]
      show alikeAll _ _ = true
      exact alike_ints _ _
    · obtain ⟨x, hx, rfl⟩ := List.mem_map.mp hd
      obtain ⟨i, k, e1⟩ := sh x hx
      exact ⟨.int i, k.map .int, e1⟩
    · obtain ⟨i, k, e1⟩ := sh x hx
      rw [e1]
      simp only [PyData.depth, depth_ints]
      decide
end
end J
namespace J
open PySem PySem.W L2
theorem each_zip {c : Ct} {z : Addr → Prop} {H : Hp} {T : Value → VV × V → Prop} : ∀ {ys : List VV} {ws : List V} {its : List Value}, RVs c z H ys ws → Vals ws its → (∀ y ∈ ys, ∀ w r, RV c z H y w → RelV w r → T r (y, w)) → EachIs T its (ys.zip ws)
  | [], ws, its, r, v, _ => by
    rw [RVs] at r
    subst r
    cases v
    exact .nil
  | y :: ys, ws, its, r, v, h => by
    rw [RVs] at r
    obtain ⟨w, q, rfl, a, b⟩ := r
    cases v with
    | cons v1 v2 => exact .cons (h y List.mem_cons_self w _ a v1) (each_zip b v2 fun y hy => h y (List.mem_cons_of_mem _ hy))
theorem zip_mem {c : Ct} {z : Addr → Prop} {H : Hp} : ∀ {ys : List VV} {ws : List V}, RVs c z H ys ws → ∀ p ∈ ys.zip ws, RV c z H p.1 p.2
  | [], ws, r, p, hp => by simp at hp
  | y :: ys, ws, r, p, hp => by
    rw [RVs] at r
    obtain ⟨w, q, rfl, a, b⟩ := r
    rcases List.mem_cons.mp hp with e | hp
    · rw [e]; exact a
    · exact zip_mem b p hp
theorem rvs_pairs {c : Ct} {z : Addr → Prop} {H : Hp} : ∀ {L : List (VV × V)}, (∀ p ∈ L, RV c z H p.1 p.2) → RVs c z H (L.map (·.1)) (L.map (·.2))
  | [], _ => RVs.nil
  | p :: L, h => RVs.cons (h p List.mem_cons_self) (rvs_pairs fun q hq => h q (List.mem_cons_of_mem _ hq))
theorem vals_pairs : ∀ {L : List (VV × V)} {out : List Value}, EachIs (fun r p => RelV p.2 r) out L → Vals (L.map (·.2)) out
  | [], _, .nil => .nil
  | p :: L, _, .cons a b => .cons a (vals_pairs b)
section
variable {X : Cx}
theorem fst_zip {ys : List VV} {ws : List V} (hl : ys.length = ws.length) : (ys.zip ws).map (·.1) = ys := by
  rw [List.map_fst_zip]; omega
theorem sort_map {ys : List VV} {ws : List V} (hl : ys.length = ws.length) : ((ys.zip ws).mergeSort (dataLe false fun p => encV p.1)).map (·.1) = ys.mergeSort leS := by
  have q := List.map_mergeSort (r := dataLe false fun p : VV × V => encV p.1) (s := leS) (f := fun p : VV × V => p.1) (l := ys.zip ws) (fun a _ b _ => rfl)
  rw [q, fst_zip hl]
theorem sort_fin {pins : List (Addr × Obj)} {σ : St} {H : Hp} {s : Shared} {g : Gh} {h : VH} {ys : List VV} {ws : List V} {Q : VK} {h1 h' : Heap} {out : List Value} {n : Nat} (I : Inv X pins σ H { s with heap := h1 }) (rh : RH (ct X) g h H) (rvs : RVs (ct X) g.fz H ys ws) (hz : ys.length ≤ sizeLine)
    (kk : ∀ p us, H p = none → RVs (ct X) g.fz H (ys.mergeSort leS) us → Q (.ref p) (upd H p (.lst us)))
    (ho : EachIs (fun r p => RelV p.2 r) out ((ys.zip ws).mergeSort (dataLe false fun p => encV p.1))) (kp : ∀ b o, h1.get? b = some o → h'.get? b = some o) (hn : h'.get? h1.objs.size = some (PyProof.Rows.seqObj "list" out.toArray n)) : EP X pins σ Q (.ref h1.objs.size) { s with heap := h' } := by
  generalize eL : (ys.zip ws).mergeSort (dataLe false fun p => encV p.1) = L at ho
  have hl := rvs.len
  have eys : L.map (·.1) = ys.mergeSort leS := by rw [← eL]; exact sort_map hl
  have hin : ∀ p ∈ L, RV (ct X) g.fz H p.1 p.2 := fun p hp => zip_mem rvs p (by rw [← eL] at hp; exact List.mem_mergeSort.mp hp)
  have va := vals_pairs ho
  have fr : H h1.objs.size = none := I.hok.fresh (Nat.le_refl _)
  have lenL : (L.map (·.2)).length ≤ sizeLine := by
    rw [List.length_map, ← List.length_map (f := fun p : VV × V => p.1), eys, List.length_mergeSort]; exact hz
  have I2 : Inv X pins σ (upd H h1.objs.size (.lst (L.map (·.2)))) { s with heap := h' } := I.laid (t' := s.toks) kp (Nat.le_refl _) ⟨lenL, out, n, va, hn⟩
  have rv := rvs_pairs hin
  rw [eys] at rv
  exact ⟨.ref h1.objs.size, _, I2, rfl, kk _ _ fr rv⟩
theorem sort_core {pins : List (Addr × Obj)} {σ : St} {H : Hp} {s : Shared} {g : Gh} {h : VH} {ys : List VV} {ws : List V} {its : List Value} {Q : VK} {p : Addr} {o : Obj} {n : Nat} {T : String} (hu : X.A.units + 64 < cLine) (I : Inv X pins σ H s) (rh : RH (ct X) g h H) (rvs : RVs (ct X) g.fz H ys ws) (va : Vals ws its)
    (hT : T = "list" ∨ T = "tuple") (ho : s.heap.get? p = some o) (hc : o.cls = .type T) (hd : o.data = .seq its.toArray n) (hz : ys.length ≤ sizeLine) (ok : okS ys = true)
    (kk : ∀ p us, H p = none → RVs (ct X) g.fz H (ys.mergeSort leS) us → Q (.ref p) (upd H p (.lst us))) : wpAny (model X.prog X.w) X.A (call (.builtin "sorted") [.ref p]) (EP X pins σ Q) X.xe s := by
  obtain ⟨q1, q2, q3, q4⟩ := alikeS ok
  have hl := rvs.len
  have lits : its.toArray.size ≤ sizeLine := by
    rw [List.size_toArray, ← va.length, ← hl]; exact hz
  refine sorted_any (enc := fun p : VV × V => encV p.1) (R := fun r p => RelV p.2 r) (wpAny_collect_seq p hT ho hc hd (fun h1 kp => ?_) lits)
  have I1 : Inv X pins σ H { s with heap := h1 } := I.kept (t' := s.toks) kp
  have em : (ys.zip ws).map (fun p => encV p.1) = ys.map encV := by
    have : (ys.zip ws).map (fun p => encV p.1) = ((ys.zip ws).map (·.1)).map encV := by rw [List.map_map]; rfl
    rw [this, fst_zip hl]
  refine ⟨ys.zip ws, ?_, ?_, by rw [em]; exact q1, by rw [em]; exact q2, ?_, fun b hb => ?_, fun out h' n a1 a2 a3 => sort_fin I1 rh rvs hz kk a1 a2 a3⟩
  · exact each_zip rvs va fun y hy w r _ q => q
  · exact each_zip rvs va fun y hy w r a q => reads_of I h1 kp a q (q3 y hy)
  · rw [List.length_zip]; omega
  · have : b.1 ∈ ys := (List.of_mem_zip hb).1
    have d := q4 b.1 this
    show X.A.units + 1 + 1 + _ < _
    omega
theorem cr_sortedJ (hu : X.A.units + 64 < cLine) : CallR X (.builtin "sorted") (RdN (ct X) cSorted) := by
  intro pins s σ H xs us Q I r h
  obtain ⟨g, hh, vs, rr, rh, rv, e, kk⟩ := h
  have srt_of : ∀ {ys : List VV} {v : VV}, srt ys = some v → okS ys = true ∧ v = .lst (ys.mergeSort leS) := by
    intro ys v e
    unfold srt at e
    split at e
    · rename_i c
      cases e
      exact ⟨c, rfl⟩
    · cases e
  unfold cSorted at e
  split at e
  · obtain ⟨u, q, rfl, a, rfl⟩ := rv
    obtain ⟨p, ws, eu, ta, rvs⟩ := tup_get a
    subst eu
    obtain ⟨ok, ev⟩ := srt_of e
    subst ev
    rw [Vals.ref1 r]
    obtain ⟨its, va, ⟨o, ho, hc, n, hd⟩, hz⟩ := I.tuple (X := X) ta.sq
    exact sort_core hu I rh rvs va (.inr rfl) ho hc hd (by rw [rvs.len]; exact hz) ok fun p us fr rv => have q := new_lst rh fr rv; kk _ _ _ q.1 q.2.1 q.2.2
  · obtain ⟨ys, e1, e2⟩ := Option.bind_eq_some_iff.mp e
    obtain ⟨u, q, rfl, a, rfl⟩ := rv
    obtain ⟨p, ws, eu, sq, rvs⟩ := lstOf_get rh a e1
    subst eu
    obtain ⟨ok, ev⟩ := srt_of e2
    subst ev
    rw [Vals.ref1 r]
    obtain ⟨its, va, pl, hz⟩ := I.list (X := X) sq
    obtain ⟨o, ho, hc, n, hd⟩ := pl.isList
    exact sort_core hu I rh rvs va (.inl rfl) ho hc hd (by rw [rvs.len]; exact hz) ok fun p us fr rv => have q := new_lst rh fr rv; kk _ _ _ q.1 q.2.1 q.2.2
  · cases e
end
end J
namespace J
open PySem PySem.W L2
def tupI (k : List Int) : VV := .tup (k.map .int)
theorem intL_map : ∀ k : List Int, intL (k.map .int) = some k
  | [] => rfl
  | i :: k => by show (intL (k.map .int)).map _ = _; rw [intL_map k]; rfl
theorem intL_inv : ∀ {xs : List VV} {k : List Int}, intL xs = some k → xs = k.map .int
  | [], k, e => by cases e; rfl
  | x :: xs, k, e => by
    cases x with
    | int i =>
      obtain ⟨l, e3, e4⟩ := Option.map_eq_some_iff.mp (show (intL xs).map (fun r => i :: r) = some k from e)
      subst e4
      rw [intL_inv e3]; rfl
    | _ => cases e
theorem intsV_inv {v : VV} {k : List Int} (e : intsV v = some k) : v = tupI k := by
  cases v with
  | tup xs => rw [intL_inv (show intL xs = some k from e)]; rfl
  | _ => cases e
theorem intsV_tupI {k : List Int} : intsV (tupI k) = some k := intL_map k
theorem encV_tupI {k : List Int} : encV (tupI k) = .tuple (k.map .int) := by
  show PyData.tuple (((intsV (tupI k)).getD []).map .int) = _
  rw [intsV_tupI]; rfl
theorem leS_tup {a b : List Int} : leS (tupI a) (tupI b) = decide (a ≤ b) := by
  show (!dataLt (encV (tupI b)) (encV (tupI a))) = _
  rw [encV_tupI, encV_tupI, dataLt_tuple]
  show (!rowLt (b.map .int) (a.map .int)) = _
  rw [dataLt_ints]
  by_cases h : b < a
  · have h' : ¬ a ≤ b := fun r => List.not_lt.mpr r h
    simp [h, h']
  · have h' : a ≤ b := List.not_lt.mp h
    simp [h, h']
theorem leS_int {a b : Int} : leS (.int a) (.int b) = decide (a ≤ b) := by
  show (!dataLt (.int b) (.int a)) = _
  rw [dataLt_int]
  by_cases h : b < a
  · have h' : ¬ a ≤ b := by omega
    simp [h, h']
  · have h' : a ≤ b := by omega
    simp [h, h']
def leL (a b : List Int) : Bool := decide (a ≤ b)
theorem leL_total (a b : List Int) : (leL a b || leL b a) = true := by
  unfold leL
  rcases List.le_total a b with h | h
  · simp [h]
  · simp [h]
theorem leL_trans (a b c : List Int) (h1 : leL a b = true) (h2 : leL b c = true) : leL a c = true := by
  unfold leL at *
  simp only [decide_eq_true_eq] at *
  exact List.le_trans h1 h2
theorem leL_anti {a b : List Int} (h1 : leL a b = true) (h2 : leL b a = true) : a = b := by
  unfold leL at *
  simp only [decide_eq_true_eq] at *
  exact List.le_antisymm h1 h2
/-- two orders of the same things -/
theorem sort_perm {l m : List (List Int)} (p : l.Perm m) : l.mergeSort leL = m.mergeSort leL := by
  have s1 := List.pairwise_mergeSort leL_trans leL_total l
  have s2 := List.pairwise_mergeSort leL_trans leL_total m
  refine List.Perm.eq_of_pairwise (le := fun a b => leL a b = true) (fun a b _ _ h1 h2 => leL_anti h1 h2) s1 s2 ?_
  exact (List.mergeSort_perm l leL).trans (p.trans (List.mergeSort_perm m leL).symm)
def cSortSet : OpN := fun h vs => match vs with
  | [v] => (lstOf h v).bind fun xs => if xs.all isT1 = true ∧ (xs.filterMap intsV).eraseDups.length < 306 then some (.lst ((((xs.filterMap intsV).eraseDups).mergeSort leL).map tupI)) else none
  | _ => none
section
variable {X : Cx} {W : WX}
/-- set(xs), tuples of ints, less than 306 of them unlike -/
def rSetFew (K : PySem.W.Frag) (P : Program) (w : World) : List V → Hp → VK → Prop := fun xs H Q => ∃ (l : Addr) (ks : List (Addr × List Int)) (Dk : List (List Int)), xs = [V.ref l] ∧ SqL K H l (ks.map fun q => V.ref q.1) ∧ (∀ q ∈ ks, SqT K H q.1 (q.2.map V.int)) ∧ (∀ q ∈ ks, q.2 ∈ Dk) ∧ Dk.length < 306 ∧
  ∀ S L, H S = none → (∀ q ∈ L, q ∈ ks) → (∀ q ∈ ks, q.2 ∈ L.map (·.2)) → (L.map (·.2)).Nodup → Q (.ref S) (upd H S (SetWO P w S L))
theorem cr_setFew (hc : X.calm = true) (hu : X.A.units + 64 < cLine) : CallR X (.type "set") (rSetFew X.K X.prog X.w) := by
  intro pins s σ H xs us Q I r h
  obtain ⟨l, ks, Dk, rfl, hl, hk, hD, hf, q⟩ := h
  rw [Vals.ref1 r]
  obtain ⟨its, rv, pl, hz⟩ := I.list hl
  have fr : H s.heap.objs.size = none := I.hok.fresh (Nat.le_refl _)
  have eits : its.toArray.toList = ks.map fun q => Value.ref q.1 := by simpa using refs_of_vals rv
  refine set_call (P := X.prog) (w := X.w) ks (I.ok.hd hc) pl.isList eits (fun p hp => I.isT (hk p hp)) Dk hD hf (by omega) fun h' tk L es ep t R g k => ?_
  have I2 := I.laid (t' := tk) (o := SetWO X.prog X.w s.heap.objs.size L) k (Nat.le_refl _) (setWO_new R.t0)
  refine ⟨.ref s.heap.objs.size, _, I2, rfl, q _ L fr (fun p hp => List.mem_of_mem_take (g.sub p hp)) (fun p hp => ?_) R.nd⟩
  refine g.all p ?_
  rw [List.take_length]; exact hp
/-- sorted of it -/
def rSortFew (K : PySem.W.Frag) (P : Program) (w : World) : List V → Hp → VK → Prop := fun vs H Q => ∃ (S : Addr) (L : List (Addr × List Int)), vs = [V.ref S] ∧ H S = some (SetWO P w S L) ∧ (∀ q ∈ L, SqT K H q.1 (q.2.map V.int)) ∧ (∀ q ∈ L, q.2 ≠ []) ∧
  ∀ (L' : List (Addr × List Int)) (p : Addr), L'.Perm L → L'.map (·.2) = (L.map (·.2)).mergeSort leL → H p = none → Q (.ref p) (upd H p (.lst (L'.map fun q => V.ref q.1)))
theorem refs_back : ∀ {L : List (Addr × List Int)} {vs : List Value}, EachIs (fun r (q : Addr × List Int) => r = Value.ref q.1) vs L → vs = L.map fun q => Value.ref q.1
  | [], _, .nil => rfl
  | q :: L, _, .cons a b => by rw [a, refs_back b]; rfl
theorem perm_refs {L : List (Addr × List Int)} (nd : (L.map fun q => Value.ref q.1).Nodup) : ∀ {vs : List Value}, vs.Perm (L.map fun q => Value.ref q.1) → ∃ L1 : List (Addr × List Int), vs = L1.map (fun q => Value.ref q.1) ∧ L1.Perm L := by
  intro vs pm
  -- the value's row
  have find : ∀ v ∈ vs, ∃ q ∈ L, v = Value.ref q.1 := fun v hv => by
    obtain ⟨q, hq, e⟩ := List.mem_map.mp (pm.mem_iff.mp hv)
    exact ⟨q, hq, e.symm⟩
  have pick : ∀ vs : List Value, (∀ v ∈ vs, ∃ q ∈ L, v = Value.ref q.1) → ∃ L1 : List (Addr × List Int), vs = L1.map (fun q => Value.ref q.1) ∧ ∀ q ∈ L1, q ∈ L := by
    intro vs
    induction vs with
    | nil => exact fun _ => ⟨[], rfl, fun q z => by cases z⟩
    | cons v vs ih =>
      intro hv
      obtain ⟨q, hq, e⟩ := hv v List.mem_cons_self
      obtain ⟨L1, e1, h1⟩ := ih fun u z => hv u (List.mem_cons_of_mem _ z)
      refine ⟨q :: L1, by rw [e, e1]; rfl, fun r hr => ?_⟩
      cases hr with
      | head => exact hq
      | tail _ z => exact h1 r z
  obtain ⟨L1, e1, h1⟩ := pick vs find
  refine ⟨L1, e1, ?_⟩
  have ndL : L.Nodup := nodup_of_map nd
  have nd1 : (L1.map fun q => Value.ref q.1).Nodup := by rw [← e1]; exact pm.nodup_iff.mpr nd
  have inj : ∀ q ∈ L, ∀ r ∈ L, q.1 = r.1 → q = r := by
    intro q hq r hr e
    obtain ⟨i, hi, ei⟩ := List.getElem_of_mem hq
    obtain ⟨j, hj, ej⟩ := List.getElem_of_mem hr
    have : i = j := by
      refine (List.getElem?_inj (by rw [List.length_map]; exact hi) nd).mp ?_
      rw [List.getElem?_map, List.getElem?_map, List.getElem?_eq_getElem hi, List.getElem?_eq_getElem hj, ei, ej, Option.map_some, Option.map_some, e]
    subst this
    rw [← ei, ← ej]
  refine (List.perm_ext_iff_of_nodup (nodup_of_map nd1) ndL).mpr fun q => ⟨h1 q, fun hq => ?_⟩
  have : Value.ref q.1 ∈ L1.map fun q => Value.ref q.1 := by
    rw [← e1]; exact pm.mem_iff.mpr (List.mem_map.mpr ⟨q, hq, rfl⟩)
  obtain ⟨r, hr, e⟩ := List.mem_map.mp this
  have er : r = q := inj r (h1 r hr) q hq (by injection e)
  rw [← er]; exact hr
theorem cr_sortFew (hc : X.calm = true) (hu : X.A.units + 64 < cLine) : CallR X (.builtin "sorted") (rSortFew X.K X.prog X.w) := by
  intro pins s σ H vs us Q I r h
  obtain ⟨S, L, rfl, hS, hk, hne, q⟩ := h
  have R0 : SetW0 X.prog X.w s.heap S L := (I.hok S _ hS).1
  obtain ⟨es, ep, t, R⟩ := R0.full fun p hp => I.isT (hk p hp)
  rw [Vals.ref1 r]
  obtain ⟨o, ho, hex, hd⟩ := R.ob
  have esz := R.size
  have few : L.length < 307 := by
    have z1 := R.room
    have z2 := R.msk
    omega
  have rows : es.toList.map (·.2) = L.map fun q => Value.ref q.1 := by
    rw [R.rows]
    unfold L2.rowsOf
    rw [List.map_map]; rfl
  have nd : (L.map fun q => Value.ref q.1).Nodup := by
    have nL : L.Nodup := nodup_of_map R.nd
    refine List.pairwise_map.mpr (List.Pairwise.imp_of_mem (fun {a b} ha hb hab e => hab ?_) nL)
    have e1 : a.1 = b.1 := by injection e
    have t1 := R.tup a ha
    have t2 := R.tup b hb
    rw [e1] at t1
    exact Prod.ext e1 (t1.inj t2)
  refine sorted_any (enc := fun q : Addr × List Int => PyData.tuple (q.2.map .int)) (R := fun r q => r = Value.ref q.1) (collect_set (A := X.A.in1) (I.ok.hd hc) ⟨o, ho, hex.1, hd⟩ R.fits (show es.size < 4096 by omega) R.tab.up R.led fun s1 vs k1 hz g1 o1 pm => ?_)
  rw [rows] at pm
  obtain ⟨L1, eL1, pL1⟩ := perm_refs nd pm
  have mem : ∀ q ∈ L1, q ∈ L := fun q hq => pL1.mem_iff.mp hq
  have mk : ∀ {T : Value → Addr × List Int → Prop} (M : List (Addr × List Int)), (∀ q ∈ M, T (.ref q.1) q) → EachIs T (M.map fun q => Value.ref q.1) M := by
    intro T M
    induction M with
    | nil => exact fun _ => .nil
    | cons q M ih => exact fun h => .cons (h q List.mem_cons_self) (ih fun r hr => h r (List.mem_cons_of_mem _ hr))
  refine ⟨L1, by rw [eL1]; exact mk L1 fun q _ => rfl, by
    rw [eL1]
    refine mk L1 fun q hq => ?_
    obtain ⟨its, rvs, ⟨ob, hob, hcb, n, hdb⟩, _⟩ := I.tuple (X := X) (hk q (mem q hq))
    exact .tuple (k1 _ _ hob) hcb hdb (reads_ints (by simpa using rvs)), ?_, ?_, by rw [pL1.length_eq, sizeLine_eq]; omega, fun b hb => ?_, fun out h' n a1 a2 a3 => ?_⟩
  · exact AllAlike.of fun a b => by
      show alikeAll _ _ = true
      exact alike_ints _ _
  · refine .inl fun d hd => ?_
    obtain ⟨q, hq, rfl⟩ := List.mem_map.mp hd
    obtain ⟨a, k⟩ := q
    cases k with
    | nil => exact absurd rfl (hne _ (mem _ hq))
    | cons i k => exact ⟨.int i, k.map .int, rfl⟩
  · show X.A.units + 1 + 1 + PyData.depth (.tuple _) < _
    simp only [PyData.depth, depth_ints]
    omega
  · generalize eM : L1.mergeSort (dataLe false fun q : Addr × List Int => PyData.tuple (q.2.map .int)) = M at a1
    have eo := refs_back a1
    have pM : M.Perm L := by rw [← eM]; exact (List.mergeSort_perm _ _).trans pL1
    have kM : M.map (·.2) = (L.map (·.2)).mergeSort leL := by
      have qq := List.map_mergeSort (r := dataLe false fun q : Addr × List Int => PyData.tuple (q.2.map .int)) (s := leL) (f := fun q : Addr × List Int => q.2) (l := L1) (fun a _ b _ => by
        have z := leS_tup (a := a.2) (b := b.2)
        unfold leS at z
        show dataLe false _ a b = _
        have z' : dataLe false (fun q : Addr × List Int => PyData.tuple (q.2.map .int)) a b = dataLe false encV (tupI a.2) (tupI b.2) := by
          show (!dataLt _ _) = (!dataLt _ _)
          rw [encV_tupI, encV_tupI]
        rw [z', z]; rfl)
      rw [← eM, qq]
      exact sort_perm (pL1.map _)
    have hlen : (M.map fun q => V.ref q.1).length ≤ sizeLine := by
      rw [List.length_map, pM.length_eq, sizeLine_eq]; omega
    have fr : H s1.heap.objs.size = none := I.hok.fresh hz
    have va : Vals (M.map fun q => V.ref q.1) out := by rw [eo]; exact vals_of_refs M
    have k2 : ∀ b u, s.heap.get? b = some u → h'.get? b = some u := fun b u e => a2 b u (k1 b u e)
    have I2 : Inv X pins σ (upd H s1.heap.objs.size (.lst (M.map fun q => V.ref q.1))) { s with heap := h', gens := s1.gens, drawn := s1.drawn, toks := s1.toks } :=
      I.call (ch := []) (Un.laid k2 hz fr) (I.hok.laid k2 hz ⟨hlen, out, n, va, a3⟩) (by rw [g1]; exact I.bare) (fun _ z => nomatch z)
    have es1 : ({ s1 with heap := h' } : Shared) = { s with heap := h', gens := s1.gens, drawn := s1.drawn, toks := s1.toks } := by
      rw [← o1]
    rw [es1]
    exact ⟨.ref s1.heap.objs.size, _, I2, rfl, q M _ pM kM fr⟩
end
end J
namespace J
open PySem PySem.W L2
theorem rows_of {c : Ct} {g : Gh} {H : Hp} : ∀ {xs : List VV} {ws : List V}, RVs c g.fz H xs ws → xs.all isT1 = true → ∃ ks : List (Addr × List Int), ws = ks.map (fun q => V.ref q.1) ∧ xs.filterMap intsV = ks.map (·.2) ∧ ∀ q ∈ ks, q.2 ≠ [] ∧ RV c g.fz H (tupI q.2) (.ref q.1) ∧ SqT c.K H q.1 (q.2.map V.int)
  | [], ws, r, _ => by
    rw [RVs] at r
    exact ⟨[], r, rfl, fun q z => by cases z⟩
  | x :: xs, ws, r, h => by
    rw [RVs] at r
    obtain ⟨w, q, rfl, a, b⟩ := r
    rw [List.all_cons, Bool.and_eq_true] at h
    obtain ⟨ks, e1, e2, e3⟩ := rows_of b h.2
    have h1 := h.1
    unfold isT1 at h1
    cases e : intsV x with
    | none => rw [e] at h1; cases h1
    | some k =>
      rw [e] at h1
      have ex := intsV_inv e
      subst ex
      have nk : k ≠ [] := fun z => by subst z; cases h1
      have a' := a
      unfold tupI at a'
      rw [RV] at a'
      obtain ⟨p, us, rfl, ta, rs⟩ := a'
      have eu := intL_vals rs (intL_map k)
      subst eu
      refine ⟨(p, k) :: ks, by rw [e1]; rfl, by rw [List.filterMap_cons, e, e2]; rfl, fun q hq => ?_⟩
      rcases List.mem_cons.mp hq with z | z
      · rw [z]; exact ⟨nk, a, ta.sq⟩
      · exact e3 q z
theorem nodup_eraseDups_n : ∀ (n : Nat) (l : List (List Int)), l.length ≤ n → l.eraseDups.Nodup
  | _, [], _ => by simp
  | 0, _ :: _, h => by simp at h
  | n + 1, a :: l, h => by
    rw [List.eraseDups_cons, List.nodup_cons]
    refine ⟨fun z => ?_, nodup_eraseDups_n n _ (Nat.le_trans (List.length_filter_le _ _) (by simpa using h))⟩
    rw [List.mem_eraseDups, List.mem_filter] at z
    simp at z
theorem nodup_eraseDups (l : List (List Int)) : l.eraseDups.Nodup := nodup_eraseDups_n _ l (Nat.le_refl _)
section
variable {X : Cx} {W : WX}
theorem j_sortSet {a : Expr} {fa : EF} {p p2 pos pos2 : Pos} {k : Nat} (hr : Room k X.A) (hc : X.calm = true) (g1 : Gl X "sorted") (m1 : X.mg "sorted" = none) (g2 : Gl X "set") (m2 : X.mg "set" = none) (ha : PE X a (tE (ct X) W fa))
    (s1 : starEach [a] X.env = (false, eval a X.env) :: starEach [] X.env := by rfl) (q1 : (backTo pos2 (starEach [] X.env)).any (·.1) = false := by rfl)
    (s2 : starEach [.Call (.Name "set" p2) [a] [] pos2] X.env = (false, eval (.Call (.Name "set" p2) [a] [] pos2) X.env) :: starEach [] X.env := by rfl) (q2 : (backTo pos (starEach [] X.env)).any (·.1) = false := by rfl) :
    PE X (.Call (.Name "sorted" p) [.Call (.Name "set" p2) [a] [] pos2] [] pos) (tE (ct X) W (eCall cSortSet (aCons fa aNil))) := by
  have inner := pe_callTy (T := "set") (cr_setFew (X := X) hc hr.units) g2 m2 rfl (pa_cons ha pa_nil s1) (by decide) (by decide) s1 q1 (p := p2) (pos := pos2)
  refine PE.mono (pe_callB (id := "sorted") (cr_sortFew (X := X) hc hr.units) g1 m1 rfl (pa_cons inner pa_nil s2) (by decide) (by decide) s2 q2) fun σ H Q h => ?_
  obtain ⟨g, ρ, h0, rh, rs, pp⟩ := h
  refine ⟨g, ρ, h0, rh, rs, ?_⟩
  unfold eCall aCons aNil at pp
  cases er : fa ρ h0 with
  | no => rw [er] at pp; exact pp
  | exc => rw [er] at pp; exact pp
  | ok v h1 =>
    rw [er] at pp
    simp only [Res.bind] at pp
    intro g' H' u st rh' rv
    have pp := Pst.step st pp
    cases e1 : lstOf h1 v with
    | none => simp only [cSortSet, e1, Option.bind_none, lift] at pp; exact pp.elim
    | some xs =>
      by_cases cc : xs.all isT1 = true ∧ (xs.filterMap intsV).eraseDups.length < 306
      · simp only [cSortSet, e1, Option.bind_some, if_pos cc, lift] at pp
        obtain ⟨l, ws, rfl, sq, rvs⟩ := lstOf_get rh' rv e1
        obtain ⟨ks, e2, e3, e4⟩ := rows_of rvs cc.1
        subst e2
        refine ⟨l, ks, (xs.filterMap intsV).eraseDups, rfl, sq, fun q hq => (e4 q hq).2.2, fun q hq => ?_, cc.2, fun S L hS l1 l2 l3 => ?_⟩
        · rw [List.mem_eraseDups, e3]
          exact List.mem_map.mpr ⟨q, hq, rfl⟩
        · have stS : Stp g' H' g' (upd H' S (SetWO X.prog X.w S L)) := .junk rh' hS
          have rhS := rh'.junk (o := SetWO X.prog X.w S L) hS
          refine ⟨S, L, rfl, upd_same, fun q hq => ?_, fun q hq => (e4 q (l1 q hq)).1, fun M p pM kM hp => ?_⟩
          · obtain ⟨nk, rq, _⟩ := e4 q (l1 q hq)
            have rq' := stS.rv rq
            unfold tupI at rq'
            rw [RV] at rq'
            obtain ⟨b, us, eb, ta, rs'⟩ := rq'
            cases eb
            rw [← intL_vals rs' (intL_map q.2)]
            exact ta.sq
          · have pk : (L.map (·.2)).Perm (xs.filterMap intsV).eraseDups := by
              refine (List.perm_ext_iff_of_nodup l3 (nodup_eraseDups _)).mpr fun x => ?_
              rw [List.mem_eraseDups, e3]
              constructor
              · intro hx
                obtain ⟨q, hq, e⟩ := List.mem_map.mp hx
                exact List.mem_map.mpr ⟨q, l1 q hq, e⟩
              · intro hx
                obtain ⟨q, hq, e⟩ := List.mem_map.mp hx
                rw [← e]; exact l2 q hq
            have rM : RVs (ct X) g'.fz (upd H' S (SetWO X.prog X.w S L)) ((((xs.filterMap intsV).eraseDups).mergeSort leL).map tupI) (M.map fun q => V.ref q.1) := by
              rw [← sort_perm pk, ← kM, List.map_map]
              have : ∀ N : List (Addr × List Int), (∀ q ∈ N, q ∈ L) → RVs (ct X) g'.fz (upd H' S (SetWO X.prog X.w S L)) (N.map (tupI ∘ fun q => q.2)) (N.map fun q => V.ref q.1) := by
                intro N
                induction N with
                | nil => exact fun _ => RVs.nil
                | cons q N ih => exact fun hN => RVs.cons (stS.rv (e4 q (l1 q (hN q List.mem_cons_self))).2.1) (ih fun r hr => hN r (List.mem_cons_of_mem _ hr))
              exact this M fun q hq => pM.mem_iff.mp hq
            obtain ⟨a1, a2, a3⟩ := new_lst rhS hp rM
            exact pp _ _ _ (stS.trans a1) a2 a3
      · simp only [cSortSet, e1, Option.bind_some, if_neg cc, lift] at pp
        exact pp.elim
end
end J
namespace J
open PySem L2
/-! dicts with tuples as keys, by value -/
def dOf (h : VH) : VV → Option DA
  | .dT ks vs => some (ks, vs)
  | .obj n => match h[n]? with
    | some (.dT ks vs) => some (ks, vs)
    | some (.fzn (.dT ks vs)) => some (ks, vs)
    | _ => none
  | _ => none
theorem dOf_get {c : Ct} {g : Gh} {h : VH} {H : Hp} {v : VV} {u : V} {a : DA} (rh : RH c g h H) (rv : RT c g H v u) (e : dOf h v = some a) : ∃ p us, u = .ref p ∧ Rd H p (.dT (a.1.zip us)) ∧ a.1.length = us.length ∧ RVs c g.fz H a.2 us := by
  cases v with
  | dT ks vs =>
    cases e
    have q := rv.rv rfl
    rw [RV] at q
    obtain ⟨p, us, a, b, d, l, r⟩ := q
    exact ⟨p, us, a, d, l, r⟩
  | obj n =>
    obtain ⟨b, ea, eu⟩ := rv
    unfold dOf at e
    simp only at e
    split at e
    · rename_i ks vs en
      cases e
      obtain ⟨_, us, d, l, r⟩ := rh.at' n _ b en ea
      exact ⟨b, us, eu, .inl d, l, r⟩
    · rename_i ks vs en
      cases e
      obtain ⟨_, q⟩ := rh.at' n _ b en ea
      rw [RV] at q
      obtain ⟨p, us, z, y, d, l, r⟩ := q
      cases z
      exact ⟨b, us, eu, d, l, r⟩
    · cases e
  | _ => cases e
def getD : List (List Key) → List VV → List Key → Option VV
  | k' :: ks, v :: vs, k => if k' = k then some v else getD ks vs k
  | _, _, _ => none
theorem valV_has {k : List Key} {ks : List (List Key)} {us : List V} (hl : ks.length = us.length) : (valV (ks.zip us) k).isSome = hasK ks k := by
  unfold hasK
  induction ks generalizing us with
  | nil => simp [valV]
  | cons x ks ih =>
    cases us with
    | nil => cases hl
    | cons u us =>
      rw [List.zip_cons_cons, List.any_cons]
      by_cases ex : x = k
      · rw [valV_pos ex]; simp [ex]
      · rw [valV_neg ex, ih (Nat.succ.inj hl)]; simp [ex]
section
variable {X : Cx} {W : WX}
theorem j_dnew {pos : Pos} : PE X (.Dict [] [] pos) (tE (ct X) W (fun _ h => .ok (.obj h.length) (h ++ [.dT [] []]))) :=
  PE.mono pe_dnewT fun σ H Q ⟨g, ρ, h, rh, rs, p⟩ q hq => by
    have st : Stp g H g (upd H q (.dT [])) := .junk rh hq
    have rh1 : RH (ct X) g h (upd H q (.dT [])) := rh.junk hq
    have nq : q ∉ g.io := fun z => by
      obtain ⟨o, e⟩ := rh.root z
      rw [hq] at e; cases e
    refine p (g.add q) _ (.ref q) (st.trans .add) (rh1.add nq (fun z => ?_) ⟨fun z => ?_, [], upd_same, rfl, RVs.nil⟩) ⟨q, ?_, rfl⟩
    · obtain ⟨o, e⟩ := rh.kp q z; rw [hq] at e; cases e
    · obtain ⟨o, e⟩ := rh.fz q z; rw [hq] at e; cases e
    · show (g.io ++ [q])[h.length]? = some q
      rw [← rh.len, List.getElem?_append_right (Nat.le_refl _), Nat.sub_self]; rfl
/-- d[k] = v, d a root -/
def setD (h : VH) (o i v : VV) : Option VH := match o with
  | .obj n => match h[n]? with
    | some (.dT ks vs) => (keyV i).bind fun k => if v.isObj = true ∨ ks.length ≥ SZ then none else some (h.set n (.dT (putKs ks k) (putVs ks vs k v)))
    | _ => none
  | _ => none
theorem setD_ok {c : Ct} {g : Gh} {h h' : VH} {H : Hp} {o i v : VV} {uo ui uv : V} (rh : RH c g h H) (ro : RT c g H o uo) (ri : RT c g H i ui) (rv : RT c g H v uv) (e : setD h o i v = some h') (Q : Hp → Prop) (k : ∀ H', Stp g H g H' → RH c g h' H' → Q H') : rSetD uo ui uv H Q := by
  unfold setD at e
  split at e
  · rename_i n
    split at e
    · rename_i ks vs en
      obtain ⟨key, e1, e2⟩ := Option.bind_eq_some_iff.mp e
      split at e2
      · cases e2
      · rename_i cc
        rw [not_or] at cc
        cases e2
        obtain ⟨a, ea, eo⟩ := ro
        obtain ⟨nz, us, hl, ln, rvs⟩ := rh.at' n _ a en ea
        obtain ⟨b, eb, hb⟩ := keyV_at ri e1
        have nk : ¬ g.kp a := fun z => (rh.kd a z).2 (List.mem_of_getElem? ea)
        have nt : ∀ ys, H a ≠ some (.tup ys) := fun ys z => by rw [hl] at z; cases z
        have st : Stp g H g (upd H a (.dT (putK (ks.zip us) key uv))) := Stp.wr (c := c) nz nk nt
        refine ⟨a, _, eo, by rw [eb]; exact .t hl hb (by rw [List.length_zip, ← ln, Nat.min_self]; exact SZ_lt (by omega)), k _ st (rh.wr ea nz nt ⟨nz, putVs ks us key uv, ?_, put_len ln _ _, ?_⟩)⟩
        · rw [upd_same, zip_put ln]
        · exact RVs.put ln (st.rvs rvs) (st.rv (rv.rv (by simpa using cc.1)))
    · cases e
  · cases e
def sSetD (o i e : EF) : SF := fun ρ h => (e ρ h).st ρ fun v h1 => (o ρ h1).st ρ fun ov h2 => (i ρ h2).st ρ fun iv h3 => match setD h3 ov iv v with
  | some h4 => .nx ρ h4
  | none => .no
theorem js_setD {o i e : Expr} {fo fi fe : EF} {pos pos' : Pos} {k : Nat} (hr : Room k X.A) (he : PE X e (tE (ct X) W fe)) (ho : PE X o (tE (ct X) W fo)) (hi : PE X i (tE (ct X) W fi))
    (ha : ∀ v, assign (.Subscript o i pos') X.env v = (do
      let ov ← holding [v] (eval o X.env)
      let iv ← holding [v, ov] (eval i X.env)
      standAt pos'
      holding [v, ov, iv] (setItem ov iv v)
      release [v, ov, iv] []) := by intro _; rfl)
    (hs : swapsWithSole [.Subscript o i pos'] e pos.line X.env = pure false := by rfl) (hw : swappedStores [.Subscript o i pos'] e X.env = pure none := by rfl) (h1 : (assignEach [.Subscript o i pos'] X.env).map (·.2) = [assign (.Subscript o i pos') X.env] := by rfl) :
    PS X (.Assign [.Subscript o i pos'] e pos) (tS (ct X) W (sSetD fo fi fe)) :=
  PS.mono (ps_asg he (pg_sub ho hi (set_dict (by have := hr.units; omega)) ha) hs hw h1) fun D σ H ⟨g, ρ, h, rh, rs, p⟩ => by
    refine ⟨g, ρ, h, rh, rs, (Pst.st (R := RT (ct X)) rs p).imp fun u H1 ⟨g1, v, h1, st, rh1, rs1, rv1, p1⟩ => ?_⟩
    refine ⟨g1, ρ, h1, rh1, rs1, (Pst.st (R := RT (ct X)) rs1 p1).imp fun u2 H2 ⟨g2, ov, h2, st2, rh2, rs2, rv2, p2⟩ => ?_⟩
    refine ⟨g2, ρ, h2, rh2, rs2, (Pst.st (R := RT (ct X)) rs2 p2).imp fun u3 H3 ⟨g3, iv, h3, st3, rh3, rs3, rv3, p3⟩ => ?_⟩
    cases e : setD h3 ov iv v with
    | none => rw [e] at p3; exact p3.elim
    | some h4 =>
      rw [e] at p3
      exact setD_ok rh3 (rv2.stp st3) rv3 ((rv1.stp st2).stp st3) e _ fun H' st' rh' => p3 g3 H' σ st' rh' (rs3.stp st')
def rLenR : List V → Hp → VK → Prop := fun xs H Q => ∃ (p : Addr) (kvs : List (List Key × V)), xs = [.ref p] ∧ Rd H p (.dT kvs) ∧ Q (.int ((kvs.length : Nat) : Int)) H
theorem len_rd : CallR X (.builtin "len") rLenR := fun pins s σ H xs us Q I r ⟨p, kvs, e, hp, q⟩ => by
  subst e
  obtain ⟨u, rfl, rx⟩ := vals1 r
  cases (show u = Value.ref p from rx)
  obtain ⟨z, hd, ys, rel, dd⟩ := dt_rd I.hok hp
  have hl : kvs.length = ys.length := Paired.length rel
  refine call_len_dictH hd dd (by rw [← hl]; rw [sizeLine_eq] at z; omega) ?_
  rw [← hl]
  exact ⟨.int ((kvs.length : Nat) : Int), H, I.tok _, ⟨_, rfl⟩, q⟩
def cLenD : OpN := fun h vs => match vs with
  | [d] => (dOf h d).map fun a => .int a.1.length
  | _ => none
theorem cr_lenD : CallR X (.builtin "len") (RdN (ct X) cLenD) :=
  CallR.imp len_rd fun xs H Q ⟨g, h, vs, r, rh, rv, e, kk⟩ => by
    unfold cLenD at e
    split at e
    · obtain ⟨a, e1, e2⟩ := Option.map_eq_some_iff.mp e
      cases e2
      obtain ⟨u, q, rfl, ra, rfl⟩ := rv
      obtain ⟨p, us, rfl, hp, hl, _⟩ := dOf_get rh ra e1
      refine ⟨p, _, rfl, hp, ?_⟩
      rw [List.length_zip, ← hl, Nat.min_self]
      exact kk g H _ .refl rh rt_int
    · cases e
def keyB : Key → VV
  | .inl i => .int i
  | .inr x => .str x
def cListD : OpN := fun h vs => match vs with
  | [d] => (dOf h d).map fun a => .lst (a.1.map fun k => .tup (k.map keyB))
  | _ => none
theorem rvs_key {c : Ct} {z : Addr → Prop} {H : Hp} : ∀ (k : List Key), RVs c z H (k.map keyB) (k.map kV)
  | [] => RVs.nil
  | x :: k => by
    refine RVs.cons ?_ (rvs_key k)
    cases x with
    | inl i => show RV c z H (.int i) _; rw [RV]; rfl
    | inr i => show RV c z H (.str i) _; rw [RV]; rfl
theorem cr_listD (hc : X.calm = true) : CallR X (.type "list") (RdN (ct X) cListD) :=
  CallR.imp (call_list_dT hc) fun xs H Q ⟨g, h, vs, r, rh, rv, e, kk⟩ => by
    unfold cListD at e
    split at e
    · obtain ⟨a, e1, e2⟩ := Option.map_eq_some_iff.mp e
      cases e2
      obtain ⟨u, q, rfl, ra, rfl⟩ := rv
      obtain ⟨p, us, rfl, hp, hl, _⟩ := dOf_get rh ra e1
      refine ⟨p, _, rfl, hp, fun l bs hn hk => ?_⟩
      have rb : ∀ {ks : List (List Key)} {us : List V} {bs : List Addr}, ks.length = us.length → IsKeys H (ks.zip us) bs → RVs (ct X) g.fz H (ks.map fun k => .tup (k.map keyB)) (bs.map V.ref) := by
        intro ks
        induction ks with
        | nil =>
          intro us bs hl hk
          cases hk
          exact RVs.nil
        | cons k ks ih =>
          intro us bs hl hk
          cases us with
          | nil => cases hl
          | cons u us =>
            rw [List.zip_cons_cons] at hk
            cases hk with
            | cons h1 h2 =>
              refine RVs.cons ?_ (ih (Nat.succ.inj hl) h2)
              rw [RV]
              exact ⟨_, _, rfl, h1, rvs_key k⟩
      obtain ⟨s1, s2, s3⟩ := new_lst rh hn (rb hl hk)
      exact kk _ _ _ s1 s2 s3
    · cases e
end
end J
namespace J
open PySem L2
/-! instances -/
def lookN : List Str → List VV → Str → Option VV
  | n :: ns, v :: vs, f => if n = f then some v else lookN ns vs f
  | _, _, _ => none
def insOf (h : VH) : VV → Option (Str × List Str × List VV)
  | .ins c ns vs => some (c, ns, vs)
  | .obj n => match h[n]? with
    | some (.ins c ns vs) => some (c, ns, vs)
    | some (.fzn (.ins c ns vs)) => some (c, ns, vs)
    | _ => none
  | _ => none
theorem insOf_get {c : Ct} {g : Gh} {h : VH} {H : Hp} {v : VV} {u : V} {a : Str × List Str × List VV} (rh : RH c g h H) (rv : RT c g H v u) (e : insOf h v = some a) : ∃ p C dx us, u = .ref p ∧ c.mg a.1 = some (.ref C) ∧ H p = some (.ins C dx (a.2.1.zip us)) ∧ a.2.1.length = us.length ∧ RTs c g H a.2.2 us := by
  cases v with
  | ins x ns vs =>
    cases e
    have q := rv.rv rfl
    rw [RV] at q
    obtain ⟨p, C, dx, us, a, b, m, d, l, r⟩ := q
    exact ⟨p, C, dx, us, a, m, d, l, RTs.of_rvs r⟩
  | obj n =>
    obtain ⟨b, ea, eu⟩ := rv
    unfold insOf at e
    simp only at e
    split at e
    · rename_i x ns vs en
      cases e
      obtain ⟨_, C, dx, us, m, d, l, r⟩ := rh.at' n _ b en ea
      exact ⟨b, C, dx, us, eu, m, d, l, r⟩
    · rename_i x ns vs en
      cases e
      obtain ⟨_, q⟩ := rh.at' n _ b en ea
      rw [RV] at q
      obtain ⟨p, C, dx, us, z, y, m, d, l, r⟩ := q
      cases z
      exact ⟨b, C, dx, us, eu, m, d, l, RTs.of_rvs r⟩
    · cases e
  | _ => cases e
theorem lookup_cons_pos {f : Str} {n : Str} {u : V} {r : List (Str × V)} (e : n = f) : ((n, u) :: r).lookup f = some u := by
  subst e; simp
theorem lookup_cons_neg {f : Str} {n : Str} {u : V} {r : List (Str × V)} (e : ¬ n = f) : ((n, u) :: r).lookup f = r.lookup f := by
  have : (f == n) = false := by simpa using fun z => e z.symm
  simp [List.lookup_cons, this]
theorem lookN_val {c : Ct} {g : Gh} {H : Hp} {f : Str} : ∀ {ns : List Str} {vs : List VV} {us : List V}, ns.length = us.length → RTs c g H vs us → (∀ v, lookN ns vs f = some v → ∃ u, (ns.zip us).lookup f = some u ∧ RT c g H v u) ∧ (lookN ns vs f = none → (ns.zip us).lookup f = none)
  | [], vs, us, _, _ => ⟨fun v e => by simp [lookN] at e, fun _ => rfl⟩
  | x :: ns, vs, us, hl, r => by
    cases us with
    | nil => cases hl
    | cons u us =>
      cases vs with
      | nil =>
        have := RTs.len r
        simp at this
      | cons y vs =>
        obtain ⟨a1, a2, e1, a3, a4⟩ := r
        cases e1
        have ih := lookN_val (f := f) (Nat.succ.inj hl) a4
        unfold lookN
        rw [List.zip_cons_cons]
        by_cases ex : x = f
        · rw [if_pos ex, lookup_cons_pos ex]
          exact ⟨fun v e => by cases e; exact ⟨u, rfl, a3⟩, fun e => by cases e⟩
        · rw [if_neg ex, lookup_cons_neg ex]
          exact ih
def eFld (cn f : Str) (fe : EF) : EF := fun ρ h => (fe ρ h).bind fun v h1 => match insOf h1 v with
  | some a => if a.1 = cn then lift (lookN a.2.1 a.2.2 f) h1 else .no
  | none => .no
section
variable {X : Cx} {W : WX}
theorem j_fld {cn f : Str} {e : Expr} {fe : EF} {pos : Pos} (hcl : ∀ C, X.mg cn = some (.ref C) → Cls X.K C ∧ NoAttr X.K C f) (he : PE X e (tE (ct X) W fe)) (hb : attributeBase e f X.env (eval e X.env) = eval e X.env := by rfl) : PE X (.Attribute e f pos) (tE (ct X) W (eFld cn f fe)) :=
  PE.mono (pe_fld he hb) fun σ H Q ⟨g, ρ, h0, rh, rs, p⟩ => by
    refine ⟨g, ρ, h0, rh, rs, (Pst.bind (R := RT (ct X)) p).imp fun u H1 ⟨g1, v, h1, st, rh1, rv1, p1⟩ => ?_⟩
    cases e1 : insOf h1 v with
    | none => rw [e1] at p1; exact p1.elim
    | some a =>
      rw [e1] at p1
      simp only at p1
      by_cases cc : a.1 = cn
      · rw [if_pos cc] at p1
        obtain ⟨q, C, dx, us, rfl, m, hq, hl, rts⟩ := insOf_get rh1 rv1 e1
        rw [cc] at m
        obtain ⟨c1, c2⟩ := hcl C m
        cases e2 : lookN a.2.1 a.2.2 f with
        | none => rw [e2] at p1; exact p1.elim
        | some w =>
          rw [e2] at p1
          obtain ⟨u2, l2, r2⟩ := (lookN_val hl rts).1 w e2
          exact ⟨q, C, dx, _, u2, rfl, hq, c1, c2, l2, p1 g1 H1 u2 .refl rh1 r2⟩
      · rw [if_neg cc] at p1; exact p1.elim
end
end J
namespace J
open PySem L2
def putN : List Str → Str → List Str
  | [], f => [f]
  | n :: ns, f => if n = f then n :: ns else n :: putN ns f
def putW {α : Type} : List Str → List α → Str → α → List α
  | n :: ns, x :: xs, f, v => if n = f then v :: xs else x :: putW ns xs f v
  | _, _, _, v => [v]
theorem putF_zip {f : Str} {u : V} : ∀ {ns : List Str} {us : List V}, ns.length = us.length → putF f u (ns.zip us) = (putN ns f).zip (putW ns us f u) ∧ (putN ns f).length = (putW ns us f u).length
  | [], us, hl => by
    cases us with
    | nil => exact ⟨rfl, rfl⟩
    | cons => cases hl
  | n :: ns, us, hl => by
    cases us with
    | nil => cases hl
    | cons w us =>
      have ih := putF_zip (f := f) (u := u) (Nat.succ.inj hl)
      rw [List.zip_cons_cons]
      unfold putF putN putW
      by_cases e : n = f
      · rw [if_pos e, if_pos e, if_pos e]
        exact ⟨rfl, by simpa using hl⟩
      · rw [if_neg e, if_neg e, if_neg e]
        exact ⟨by rw [ih.1]; rfl, by simp [ih.2]⟩
theorem RTs.putW {c : Ct} {g : Gh} {H : Hp} {f : Str} {v : VV} {u : V} (q : RT c g H v u) : ∀ {ns : List Str} {vs : List VV} {us : List V}, ns.length = us.length → RTs c g H vs us → RTs c g H (J.putW ns vs f v) (J.putW ns us f u)
  | [], vs, us, hl, r => by
    cases us with
    | nil =>
      have : vs = [] := by
        have := r.len
        cases vs with
        | nil => rfl
        | cons => simp at this
      subst this
      exact ⟨u, [], rfl, q, rfl⟩
    | cons => cases hl
  | n :: ns, vs, us, hl, r => by
    cases us with
    | nil => cases hl
    | cons w us =>
      cases vs with
      | nil => have := r.len; simp at this
      | cons y vs =>
        obtain ⟨a1, a2, e1, a3, a4⟩ := r
        cases e1
        have ih := RTs.putW (f := f) q (Nat.succ.inj hl) a4
        unfold J.putW
        by_cases e : n = f
        · rw [if_pos e, if_pos e]; exact ⟨u, us, rfl, q, a4⟩
        · rw [if_neg e, if_neg e]; exact ⟨w, _, rfl, a3, ih⟩
def setF (h : VH) (cn f : Str) (o v : VV) : Option VH := match o with
  | .obj n => match h[n]? with
    | some (.ins c ns vs) => if c = cn ∧ ns.length < 1000 then some (h.set n (.ins c (putN ns f) (putW ns vs f v))) else none
    | _ => none
  | _ => none
def sFldS (cn f : Str) (fo fe : EF) : SF := fun ρ h => (fe ρ h).st ρ fun v h1 => (fo ρ h1).st ρ fun ov h2 => match setF h2 cn f ov v with
  | some h3 => .nx ρ h3
  | none => .no
section
variable {X : Cx} {W : WX}
theorem js_fld {cn f : Str} {o e : Expr} {fo fe : EF} {pos pos' : Pos} (hcl : ∀ C, X.mg cn = some (.ref C) → Cls X.K C ∧ NoAttr X.K C f) (ho : PE X o (tE (ct X) W fo)) (he : PE X e (tE (ct X) W fe)) (hs : swapsWith e (some (.Attribute o f pos')) pos.line X.env = pure false := by rfl) :
    PS X (.Assign [.Attribute o f pos'] e pos) (tS (ct X) W (sFldS cn f fo fe)) :=
  PS.mono (ps_fld ho he hs) fun D σ H ⟨g, ρ, h, rh, rs, p⟩ => by
    refine ⟨g, ρ, h, rh, rs, (Pst.st (R := RT (ct X)) rs p).imp fun u H1 ⟨g1, v, h1, st, rh1, rs1, rv1, p1⟩ => ?_⟩
    refine ⟨g1, ρ, h1, rh1, rs1, (Pst.st (R := RT (ct X)) rs1 p1).imp fun u2 H2 ⟨g2, ov, h2, st2, rh2, rs2, rv2, p2⟩ => ?_⟩
    cases e1 : setF h2 cn f ov v with
    | none => rw [e1] at p2; exact p2.elim
    | some h3 =>
      rw [e1] at p2
      unfold setF at e1
      split at e1
      · rename_i n
        split at e1
        · rename_i c ns vs en
          split at e1
          · rename_i cc
            cases e1
            obtain ⟨a, ea, eo⟩ := rv2
            obtain ⟨nz, C, dx, us, m, hq, hl, rts⟩ := rh2.at' n _ a en ea
            rw [cc.1] at m
            obtain ⟨c1, c2⟩ := hcl C m
            have nk : ¬ g2.kp a := fun z => (rh2.kd a z).2 (List.mem_of_getElem? ea)
            have nt : ∀ ys, H2 a ≠ some (.tup ys) := fun ys z => by rw [hq] at z; cases z
            have stw : Stp g2 H2 g2 (upd H2 a (.ins C dx (putF f u (ns.zip us)))) := Stp.wr (c := ct X) nz nk nt
            refine ⟨a, C, dx, _, eo, hq, c1, c2, by rw [List.length_zip, ← hl, Nat.min_self]; exact cc.2, ?_⟩
            obtain ⟨z1, z2⟩ := putF_zip (f := f) (u := u) hl
            exact p2 g2 _ σ stw (rh2.wr ea nz nt ⟨nz, C, dx, putW ns us f u, by rw [cc.1]; exact m, by rw [upd_same, z1], z2, RTs.putW ((rv1.stp st2).stp stw) hl (rts.stp stw)⟩) (rs2.stp stw)
          · cases e1
        · cases e1
      · cases e1
/-- a method -/
structure OkM (P : Program) (w : World) (K : PySem.W.Frag) (mg : Str → Option Value) (base : Heap) (k : Nat) (cn m : Str) (n : Nat) (dws : List VV) (Fm : FF) : Prop where
  ex : ∃ (C f : Addr) (fd : FuncData) (ps : List Str) (dvs : List V) (ds : List Value), mg cn = some (.ref C) ∧ Cls K C ∧ Meth K C m f ∧ FnOk P w K mg base (L2N.CX P w) k f fd ps (spF ⟨K, mg⟩ n Fm) ∧ Binds K fd ps ds ∧ Vals dvs ds ∧ ∀ g H, RTs ⟨K, mg⟩ g H dws dvs
def X0 : XK := fun _ _ _ => False
theorem passes0 : Passes (L2N.CX X.prog X.w) X X0 := fun pins σ H s e s' I c => (cx_no c).elim
def eMeth (cn m : Str) (n : Nat) (F : FF) (dws : List VV) (fo : EF) (fa : AF) : EF := fun ρ h => (fo ρ h).bind fun v h1 => match insOf h1 v with
  | some a => if a.1 = cn ∧ lookN a.2.1 a.2.2 m = none then (fa ρ h1).bind fun vs h2 => if (v :: (vs ++ dws)).length = n then noX (F (v :: (vs ++ dws)) h2) else .no else .no
  | none => .no
theorem pst_noX {c : Ct} {σ : St} {g : Gh} {H : Hp} {Q : VK} {r : Res VV} (h : Pst c W σ (RT c) g H Q (noX r)) : Pst c (fun a d _ H' => X0 a d H') [] (RT c) g H Q r := by
  cases r with
  | no => exact h
  | ok => exact h
  | exc => exact h.elim
theorem tMeth_of {cn m : Str} {n : Nat} {Fm : FF} {dws : List VV} {dvs : List V} {fo : EF} {fa : AF} {C : Addr} (hC : X.mg cn = some (.ref C)) (hd : ∀ g H, RTs (ct X) g H dws dvs) {σ : St} {H : Hp} {Q : VK} (h : tE (ct X) W (eMeth cn m n Fm dws fo fa) σ H Q) :
    tMeth C m (spF (ct X) n Fm) dvs X0 (tE (ct X) W fo) (tA (ct X) W fa) σ H Q := by
  obtain ⟨g, ρ, h0, rh, rs, p⟩ := h
  refine ⟨g, ρ, h0, rh, rs, (Pst.bind (R := RT (ct X)) p).imp fun u H1 ⟨g1, v, h1, st, rh1, rv1, p1⟩ => ?_⟩
  cases e1 : insOf h1 v with
  | none => rw [e1] at p1; exact p1.elim
  | some a =>
    rw [e1] at p1
    simp only at p1
    by_cases cc : a.1 = cn ∧ lookN a.2.1 a.2.2 m = none
    · rw [if_pos cc] at p1
      obtain ⟨q, C', dx, us, eu, mm, hq, hl, rts⟩ := insOf_get rh1 rv1 e1
      rw [cc.1] at mm
      have eC : C' = C := by
        have : X.mg cn = some (.ref C') := mm
        rw [hC] at this
        cases this
        rfl
      subst eC
      refine ⟨q, dx, _, eu, hq, (lookN_val hl rts).2 cc.2, g1, ρ, h1, rh1, rs.stp st, (Pst.bind (R := RTs (ct X)) p1).imp fun vs H2 ⟨g2, ws, h2, st2, rh2, rts2, p2⟩ => ?_⟩
      by_cases hn : (v :: (ws ++ dws)).length = n
      · rw [if_pos hn] at p2
        exact ⟨g2, v :: (ws ++ dws), h2, rh2, ⟨u, _, rfl, rv1.stp st2, RTs.append rts2 (hd g2 H2)⟩, hn, pst_noX p2⟩
      · rw [if_neg hn] at p2; exact p2.elim
    · rw [if_neg cc] at p1; exact p1.elim
theorem j_meth {k n : Nat} {cn m : Str} {Fm : FF} {dws : List VV} {o e : Expr} {es : List Expr} {apos pos : Pos} {fo : EF} {fa : AF} {pl : Sem Bool} (O : OkM X.prog X.w X.K X.mg X.base k cn m n dws Fm) (hr : Room k X.A) (ho : PE X o (tE (ct X) W fo)) (ha : PA X (e :: es) (tA (ct X) W fa))
    (hst : starEach (e :: es) X.env = (false, eval e X.env) :: starEach es X.env := by rfl) (hpl : (backTo pos (starEach es X.env)).any (·.1) = false := by rfl)
    (ht : eval (.Call (.Attribute o m apos) (e :: es) [] pos) X.env = (do
      let ov ← eval o X.env
      standAt apos.atName
      let (f, first) ← holding [ov] (getMethod ov m pl)
      callWith pos f first (backTo pos (starEach (e :: es) X.env)) (backToKw pos (keywordEach [] X.env))) := by rfl) :
    PE X (.Call (.Attribute o m apos) (e :: es) [] pos) (tE (ct X) W (eMeth cn m n Fm dws fo fa)) := by
  obtain ⟨C, f, fd, ps, dvs, ds, h1, h2, h3, h4, h5, h6, h7⟩ := O.ex
  exact PE.mono (pe_meth (E := X0) ho h2 h3 h4 hr h5 h6 passes0 ha hst hpl ht) fun σ H Q h => tMeth_of h1 h7 h
theorem j_meth0 {k n : Nat} {cn m : Str} {Fm : FF} {dws : List VV} {o : Expr} {apos pos : Pos} {fo : EF} {pl : Sem Bool} (O : OkM X.prog X.w X.K X.mg X.base k cn m n dws Fm) (hr : Room k X.A) (ho : PE X o (tE (ct X) W fo))
    (ht : eval (.Call (.Attribute o m apos) [] [] pos) X.env = (do
      let ov ← eval o X.env
      standAt apos.atName
      let (f, first) ← holding [ov] (getMethod ov m pl)
      callWith pos f first (backTo pos (starEach [] X.env)) (backToKw pos (keywordEach [] X.env))) := by rfl) :
    PE X (.Call (.Attribute o m apos) [] [] pos) (tE (ct X) W (eMeth cn m n Fm dws fo aNil)) := by
  obtain ⟨C, f, fd, ps, dvs, ds, h1, h2, h3, h4, h5, h6, h7⟩ := O.ex
  refine PE.mono (pe_meth0 (E := X0) ho h2 h3 h4 hr h5 h6 passes0 ht) fun σ H Q h => ?_
  obtain ⟨g, ρ, h0, rh, rs, p⟩ := tMeth_of (W := W) h1 h7 h
  refine ⟨g, ρ, h0, rh, rs, p.imp fun u H1 ⟨a, dx, fs, q1, q2, q3, g2, ρ2, hh2, rh2, rs2, q4⟩ => ⟨a, dx, fs, q1, q2, q3, ?_⟩⟩
  exact q4 g2 H1 [] .refl rh2 rfl
end
end J
namespace J
open PySem L2
/-! a made thing, frozen through and through -/
def optM {α β : Type} (f : α → Option β) : List α → Option (List β)
  | [] => some []
  | x :: xs => (f x).bind fun y => (optM f xs).map fun r => y :: r
def dzV (h : VH) (n0 : Nat) : Nat → VV → Option VV
  | 0, _ => none
  | k + 1, .obj n => if n < n0 then none else match h[n]? with
    | some (.fzn v) => some v
    | some (.fl xs) => some (.lst xs)
    | some (.dT ks vs) => some (.dT ks vs)
    | some (.dK ks vs) => some (.dK ks vs)
    | some (.lo xs) => (optM (dzV h n0 k) xs).map .lst
    | some (.ins c ns vs) => (optM (dzV h n0 k) vs).map (.ins c ns)
    | none => none
  | _ + 1, v => some v
/-- frozen now: all that was, and the roots from n0 on -/
def zNew (g : Gh) (n0 : Nat) : Addr → Prop := fun q => g.fz q ∨ ∃ n, n0 ≤ n ∧ g.io[n]? = some q
theorem optM_rvs {c : Ct} {g : Gh} {H : Hp} {z : Addr → Prop} {f : VV → Option VV} (hf : ∀ v u w, RT c g H v u → f v = some w → RV c z H w u) : ∀ {vs : List VV} {us : List V} {ws : List VV}, RTs c g H vs us → optM f vs = some ws → RVs c z H ws us
  | [], us, ws, r, e => by
    cases e
    rw [show us = [] from r]
    exact RVs.nil
  | v :: vs, us, ws, r, e => by
    obtain ⟨u, q, rfl, a, b⟩ := r
    unfold optM at e
    obtain ⟨y, e1, e2⟩ := Option.bind_eq_some_iff.mp e
    obtain ⟨l, e3, e4⟩ := Option.map_eq_some_iff.mp e2
    subst e4
    exact RVs.cons (hf v u y a e1) (optM_rvs hf b e3)
theorem dz_ok {c : Ct} {g : Gh} {h : VH} {H : Hp} {n0 : Nat} (rh : RH c g h H) : ∀ (k : Nat) (v : VV) (u : V) (w : VV), RT c g H v u → dzV h n0 k v = some w → RV c (zNew g n0) H w u := by
  have up : ∀ {v u}, RV c g.fz H v u → RV c (zNew g n0) H v u := fun r => RV.stp (fun _ h => .inl h) (fun _ _ => .refl) (fun _ _ h => h) _ _ r
  have ups : ∀ {v u}, RVs c g.fz H v u → RVs c (zNew g n0) H v u := fun r => RVs.stp (fun _ h => .inl h) (fun _ _ => .refl) (fun _ _ h => h) _ _ r
  intro k
  induction k with
  | zero => intro v u w _ e; simp [dzV] at e
  | succ k ih =>
    intro v u w r e
    cases v with
    | obj n =>
      obtain ⟨a, ea, eu⟩ := r
      unfold dzV at e
      split at e
      · cases e
      · rename_i hn
        have za : zNew g n0 a := .inr ⟨n, by omega, ea⟩
        split at e
        · rename_i v en
          cases e
          obtain ⟨_, rv⟩ := rh.at' n _ a en ea
          rw [eu]; exact up rv
        · rename_i xs en
          cases e
          obtain ⟨_, us, hl, rvs⟩ := rh.at' n _ a en ea
          rw [RV]
          exact ⟨a, us, eu, za, hl, ups rvs⟩
        · rename_i ks vs en
          cases e
          obtain ⟨_, us, hl, ln, rvs⟩ := rh.at' n _ a en ea
          rw [RV]
          exact ⟨a, us, eu, za, (.inl hl), ln, ups rvs⟩
        · rename_i ks vs en
          cases e
          obtain ⟨_, us, hl, ln, rvs⟩ := rh.at' n _ a en ea
          rw [RV]
          exact ⟨a, us, eu, za, .inl hl, ln, ups rvs⟩
        · rename_i xs en
          obtain ⟨ws, e1, e2⟩ := Option.map_eq_some_iff.mp e
          subst e2
          obtain ⟨_, us, hl, rts⟩ := rh.at' n _ a en ea
          rw [RV]
          exact ⟨a, us, eu, za, hl, optM_rvs (fun v u w r e => ih v u w r e) rts e1⟩
        · rename_i x ns vs en
          obtain ⟨ws, e1, e2⟩ := Option.map_eq_some_iff.mp e
          subst e2
          obtain ⟨_, C, dx, us, m, hl, ln, rts⟩ := rh.at' n _ a en ea
          rw [RV]
          exact ⟨a, C, dx, us, eu, za, m, hl, ln, optM_rvs (fun v u w r e => ih v u w r e) rts e1⟩
        · cases e
    | _ =>
      unfold dzV at e
      cases e
      exact up (r.rv rfl)
/-- the roots from n0 on are gone, frozen -/
theorem melt {c : Ct} {g : Gh} {h : VH} {H : Hp} {n0 : Nat} (rh : RH c g h H) (hn : n0 ≤ h.length) (low : (h.take n0).all (lowO n0) = true) : RH c ⟨g.io.take n0, zNew g n0, g.kp⟩ (h.take n0) H := by
  have nd := rh.nd
  have sep : ∀ {n a}, n < n0 → g.io[n]? = some a → ¬ g.fz a → ¬ zNew g n0 a := by
    intro n a hlt ha nz z
    rcases z with z | ⟨m, hm, em⟩
    · exact nz z
    · have := nodup_inj nd ha em
      omega
  refine ⟨?_, ?_, fun n o a h1 h2 => ?_, fun q z => ?_, rh.kp, fun q z => ⟨fun y => ?_, fun y => (rh.kd q z).2 (List.mem_of_mem_take y)⟩, rh.tb, fun q z ps y => ?_⟩
  rotate_left 5
  · rcases z with (z | ⟨m, hm, em⟩) | z
    · exact rh.nt q (.inl z) ps y
    · exact rh.rootNt (List.mem_of_getElem? em) ps y
    · exact rh.nt q (.inr z) ps y
  · show (g.io.take n0).length = _
    rw [List.length_take, List.length_take, rh.len]
  · exact nd.sublist (List.take_sublist _ _)
  · have hlt : n < n0 := by
      have := (List.getElem?_eq_some_iff.mp h1).1
      rw [List.length_take] at this; omega
    have h1' : h[n]? = some o := by rw [List.getElem?_take_of_lt hlt] at h1; exact h1
    have h2' : g.io[n]? = some a := by
      have h2'' : (g.io.take n0)[n]? = some a := h2
      rw [List.getElem?_take_of_lt hlt] at h2''
      exact h2''
    have ro := rh.at' n o a h1' h2'
    have lo : lowO n0 o = true := List.all_eq_true.mp low o (List.mem_of_getElem? h1)
    have ups : ∀ {v u}, RVs c g.fz H v u → RVs c (zNew g n0) H v u := fun r => RVs.stp (fun _ h => .inl h) (fun _ _ => .refl) (fun _ _ h => h) _ _ r
    have upt : ∀ {vs us}, vs.all (lowV n0) = true → RTs c g H vs us → RTs c ⟨g.io.take n0, zNew g n0, g.kp⟩ H vs us := by
      intro vs
      induction vs with
      | nil => exact fun _ r => r
      | cons v vs ih =>
        intro us l r
        rw [List.all_cons, Bool.and_eq_true] at l
        obtain ⟨u, q, e, r1, r2⟩ := r
        refine ⟨u, q, e, ?_, ih l.2 r2⟩
        cases v with
        | obj m =>
          obtain ⟨b, eb, eu⟩ := r1
          refine ⟨b, ?_, eu⟩
          show (g.io.take n0)[m]? = some b
          rw [List.getElem?_take_of_lt (of_decide_eq_true l.1)]; exact eb
        | _ => exact RT.of_rv (RV.stp (fun _ h => .inl h) (fun _ _ => .refl) (fun _ _ h => h) _ _ (r1.rv rfl))
    cases o with
    | fzn v => exact ⟨.inl ro.1, RV.stp (fun _ h => .inl h) (fun _ _ => .refl) (fun _ _ h => h) _ _ ro.2⟩
    | fl xs =>
      obtain ⟨nz, us, q1, q2⟩ := ro
      exact ⟨sep hlt h2' nz, us, q1, ups q2⟩
    | lo xs =>
      obtain ⟨nz, us, q1, q2⟩ := ro
      exact ⟨sep hlt h2' nz, us, q1, upt lo q2⟩
    | dT ks vs =>
      obtain ⟨nz, us, q1, q2, q3⟩ := ro
      exact ⟨sep hlt h2' nz, us, q1, q2, ups q3⟩
    | dK ks vs =>
      obtain ⟨nz, us, q1, q2, q3⟩ := ro
      exact ⟨sep hlt h2' nz, us, q1, q2, ups q3⟩
    | ins x ns vs =>
      obtain ⟨nz, C, dx, us, q0, q1, q2, q3⟩ := ro
      exact ⟨sep hlt h2' nz, C, dx, us, q0, q1, q2, upt lo q3⟩
  · rcases z with z | ⟨m, hm, em⟩
    · exact rh.fz q z
    · exact rh.root (List.mem_of_getElem? em)
  · rcases y with y | ⟨m, hm, em⟩
    · exact (rh.kd q z).1 y
    · exact (rh.kd q z).2 (List.mem_of_getElem? em)
/-- a class that can be made -/
structure OkC (P : Program) (w : World) (K : PySem.W.Frag) (mg : Str → Option Value) (base : Heap) (k : Nat) (cn : Str) (n : Nat) (dws : List VV) (Fm : FF) : Prop where
  ex : ∃ (C f : Addr) (fd : FuncData) (ps : List Str) (dvs : List V) (ds : List Value), mg cn = some (.ref C) ∧ Mk K C f ∧ FnOk P w K mg base (L2N.CX P w) k f fd ps (spF ⟨K, mg⟩ n Fm) ∧ Binds K fd ps ds ∧ Vals dvs ds ∧ ∀ g H, RTs ⟨K, mg⟩ g H dws dvs
/-- made, and frozen at once -/
def mkZ (n0 : Nat) (r : Res VV) : Res VV := match r with
  | .ok .non h' => if n0 ≤ h'.length ∧ (h'.take n0).all (lowO n0) = true then (match dzV h' n0 8 (.obj n0) with
    | some w => .ok w (h'.take n0)
    | none => .no) else .no
  | _ => .no
def eMakeZ (cn : Str) (n : Nat) (F : FF) (dws : List VV) (fa : AF) : EF := fun ρ h => (fa ρ h).bind fun vs h1 => if (VV.obj h1.length :: (vs ++ dws)).length = n then mkZ h1.length (F (.obj h1.length :: (vs ++ dws)) (h1 ++ [.ins cn [] []])) else .no
section
variable {X : Cx} {W : WX}
theorem tMake_of {cn : Str} {n : Nat} {Fm : FF} {dws : List VV} {dvs : List V} {fa : AF} {C : Addr} (hC : X.mg cn = some (.ref C)) (hd : ∀ g H, RTs (ct X) g H dws dvs) {σ : St} {H : Hp} {Q : VK} (h : tE (ct X) W (eMakeZ cn n Fm dws fa) σ H Q) :
    tMake C (spF (ct X) n Fm) dvs X0 (tA (ct X) W fa) σ H Q := by
  obtain ⟨g, ρ, h0, rh, rs, p⟩ := h
  refine ⟨g, ρ, h0, rh, rs, (Pst.bind (R := RTs (ct X)) p).imp fun vs H1 ⟨g1, ws, h1, st, rh1, rts, p1⟩ x dx hx hdx ne => ?_⟩
  by_cases hn : (VV.obj h1.length :: (ws ++ dws)).length = n
  · rw [if_pos hn] at p1
    have s1 : Stp g1 H1 g1 (upd H1 dx (.own x)) := .junk rh1 hdx
    have r1 : RH (ct X) g1 h1 (upd H1 dx (.own x)) := rh1.junk hdx
    have hx' : upd H1 dx (.own x) x = none := by rw [upd_ne (Ne.symm ne)]; exact hx
    have s2 : Stp g1 (upd H1 dx (.own x)) g1 (upd (upd H1 dx (.own x)) x (.ins C dx [])) := .junk r1 hx'
    have r2 : RH (ct X) g1 h1 (upd (upd H1 dx (.own x)) x (.ins C dx [])) := r1.junk hx'
    have nx : x ∉ g1.io := fun z => by
      obtain ⟨o, e⟩ := rh1.root z
      rw [hx] at e; cases e
    have s3 : Stp g1 (upd (upd H1 dx (.own x)) x (.ins C dx [])) (g1.add x) (upd (upd H1 dx (.own x)) x (.ins C dx [])) := .add
    have r3 : RH (ct X) (g1.add x) (h1 ++ [.ins cn [] []]) (upd (upd H1 dx (.own x)) x (.ins C dx [])) := r2.add nx (fun z => by
      obtain ⟨o, e⟩ := rh1.kp x z
      rw [hx] at e; cases e) ⟨(fun z => by
        obtain ⟨o, e⟩ := rh1.fz x z
        rw [hx] at e; cases e), C, dx, [], hC, upd_same, rfl, rfl⟩
    have ss := (s1.trans s2).trans s3
    have rx : RT (ct X) (g1.add x) (upd (upd H1 dx (.own x)) x (.ins C dx [])) (.obj h1.length) (.ref x) := ⟨x, by
      show (g1.io ++ [x])[h1.length]? = some x
      rw [← rh1.len, List.getElem?_append_right (Nat.le_refl _), Nat.sub_self]; rfl, rfl⟩
    refine ⟨g1.add x, .obj h1.length :: (ws ++ dws), h1 ++ [.ins cn [] []], r3, ⟨.ref x, _, rfl, rx, RTs.append (rts.stp ss) (hd _ _)⟩, hn, ?_⟩
    generalize Fm (.obj h1.length :: (ws ++ dws)) (h1 ++ [.ins cn [] []]) = r at p1 ⊢
    cases r with
    | no => exact p1
    | exc => exact p1.elim
    | ok v h' =>
      intro g' H' u st' rh' rv'
      cases v with
      | non =>
        refine ⟨non_get rv', ?_⟩
        unfold mkZ at p1
        simp only at p1
        split at p1
        · rename_i cc
          cases e : dzV h' h1.length 8 (.obj h1.length) with
          | none => rw [e] at p1; exact p1.elim
          | some w =>
            rw [e] at p1
            have rx' : RT (ct X) g' H' (.obj h1.length) (.ref x) := rx.stp st'
            have rw' := dz_ok rh' 8 _ _ _ rx' e
            have rhm := melt rh' cc.1 cc.2
            have eio : g'.io.take h1.length = g1.io := by
              obtain ⟨l, hl⟩ := (ss.trans st').io
              rw [← hl, ← rh1.len, List.take_left]
            have all := ss.trans st'
            refine p1 ⟨g'.io.take h1.length, zNew g' h1.length, g'.kp⟩ H' (.ref x) ⟨by show g1.io <+: g'.io.take h1.length; rw [eio]; exact List.prefix_rfl, fun q z => .inl (all.fz q z), all.kp, all.fH, all.kH, all.tp⟩ rhm (RT.of_rv rw')
        · exact p1.elim
      | _ => exact p1.elim
  · rw [if_neg hn] at p1; exact p1.elim
theorem j_make {k n : Nat} {cn : Str} {Fm : FF} {dws : List VV} {e : Expr} {es : List Expr} {p pos : Pos} {fa : AF} (O : OkC X.prog X.w X.K X.mg X.base k cn n dws Fm) (hr : Room (k + 1) X.A) (hg : Gl X cn) (ha : PA X (e :: es) (tA (ct X) W fa))
    (hdb : (cn == ("__debug__" : Str)) = false := by decide) (he : starEach (e :: es) X.env = (false, eval e X.env) :: starEach es X.env := by rfl) (hpl : (backTo pos (starEach es X.env)).any (·.1) = false := by rfl) :
    PE X (.Call (.Name cn p) (e :: es) [] pos) (tE (ct X) W (eMakeZ cn n Fm dws fa)) := by
  obtain ⟨C, f, fd, ps, dvs, ds, h1, h2, h4, h5, h6, h7⟩ := O.ex
  exact PE.mono (pe_make (E := X0) h2 h4 hr hg h1 h5 h6 passes0 ha hdb he hpl) fun σ H Q h => tMake_of h1 h7 h
end
end J
namespace J
open PySem L2
section
variable {X : Cx} {W : WX}
/-! xs.pop(i), xs a root -/
def popI (h : VH) (o i : VV) : Option (VV × VH) := match o, i with
  | .obj n, .int k => match h[n]? with
    | some (.fl xs) => if 0 ≤ k ∧ k < xs.length ∧ k < 2 ^ 62 then (xs[k.toNat]?).map fun v => (v, h.set n (.fl (xs.eraseIdx k.toNat))) else none
    | _ => none
  | _, _ => none
theorem popI_some {h h' : VH} {o i v : VV} (e : popI h o i = some (v, h')) : ∃ n k xs, o = .obj n ∧ i = .int k ∧ h[n]? = some (.fl xs) ∧ (0 ≤ k ∧ k < xs.length ∧ k < 2 ^ 62) ∧ xs[k.toNat]? = some v ∧ h' = h.set n (.fl (xs.eraseIdx k.toNat)) := by
  unfold popI at e
  split at e
  · split at e
    · rename_i en
      split at e
      · rename_i cc
        obtain ⟨w', e3, e4⟩ := Option.map_eq_some_iff.mp e
        cases e4
        exact ⟨_, _, _, rfl, rfl, en, cc, e3, rfl⟩
      · cases e
    · cases e
  · cases e
def ePop (fo fi : EF) : EF := fun ρ h => (fo ρ h).bind fun ov h1 => match lstOf h1 ov with
  | none => .no
  | some _ => (fi ρ h1).bind fun iv h2 => match popI h2 ov iv with
    | some (v, h3) => .ok v h3
    | none => .no
theorem RVs.eraseIdx {c : Ct} {z : Addr → Prop} {H : Hp} : ∀ {vs : List VV} {us : List V} {k : Nat}, RVs c z H vs us → RVs c z H (vs.eraseIdx k) (us.eraseIdx k)
  | [], us, k, r => by rw [RVs] at r; subst r; simp only [List.eraseIdx_nil]; exact RVs.nil
  | v :: vs, us, k, r => by
    rw [RVs] at r
    obtain ⟨u, q, rfl, a, b⟩ := r
    cases k with
    | zero => simp only [List.eraseIdx_cons_zero]; exact b
    | succ k => simp only [List.eraseIdx_cons_succ]; exact RVs.cons a (RVs.eraseIdx b)
theorem j_pop {o e : Expr} {fo fe : EF} {apos cpos : Pos} (ho : PE X o (tE (ct X) W fo)) (ha : PE X e (tE (ct X) W fe)) (hs1 : starEach (e :: []) X.env = (false, eval e X.env) :: starEach [] X.env := by rfl)
    (hbase : attributeBase o "pop" X.env (eval o X.env) = eval o X.env := by rfl)
    (hfew : ((backTo cpos (starEach [e] X.env)).all (fun x => !x.1) && (backToKw cpos (keywordEach [] X.env)).all (fun x => x.1.isSome)
      && decide ([e].length + ([] : List Keyword).length + (if ([] : List Keyword).isEmpty then 0 else 1) < 30)) = true := by rfl)
    (hline : (apos.endLine == cpos.line) = true := by rfl) (hplain : (backTo cpos (starEach [] X.env)).any (·.1) = false := by rfl) :
    PE X (.Call (.Attribute o "pop" apos) [e] [] cpos) (tE (ct X) W (ePop fo fe)) :=
  PE.mono (pe_bm PySem.F.plainAttrs_list PySem.F.slot_list_pop PySem.F.type_list_pop mt_popAt ho (pa_cons ha pa_nil hs1) hbase hfew hline hs1 hplain) fun σ H Q ⟨g, ρ, h0, rh, rs, p⟩ => by
    refine ⟨g, ρ, h0, rh, rs, (Pst.bind (R := RT (ct X)) p).imp fun u H1 ⟨g1, ov, h1, st, rh1, rv1, p1⟩ => ?_⟩
    cases e : lstOf h1 ov with
    | none => rw [e] at p1; exact p1.elim
    | some ys =>
      rw [e] at p1
      obtain ⟨a, us, eu, sq, rvs⟩ := lstOf_get rh1 rv1 e
      refine ⟨by rw [eu]; exact .inl ⟨rfl, us, sq⟩, g1, ρ, h1, rh1, rs.stp st, (Pst.bind (R := RT (ct X)) p1).imp fun u2 H2 ⟨g2, v, h2, st2, rh2, rv2, p2⟩ => ?_⟩
      cases e2 : popI h2 ov v with
      | none => rw [e2] at p2; exact p2.elim
      | some vh =>
        obtain ⟨w, h3⟩ := vh
        rw [e2] at p2
        obtain ⟨n, k, xs, rfl, rfl, en, cc, e3, rfl⟩ := popI_some e2
        obtain ⟨b, eb, eu'⟩ := rv1.stp st2
        obtain ⟨nz, ws, hl, rws⟩ := rh2.at' n _ b en eb
        have nk : ¬ g2.kp b := fun z => (rh2.kd b z).2 (List.mem_of_getElem? eb)
        have nt : ∀ ys, H2 b ≠ some (.tup ys) := fun ys z => by rw [hl] at z; cases z
        have stw : Stp g2 H2 g2 (upd H2 b (.lst (ws.eraseIdx k.toNat))) := Stp.wr (c := ct X) nz nk nt
        obtain ⟨y, ey, ry⟩ := rws.get e3
        have hln := rws.len
        refine ⟨b, ws, k, k.toNat, y, eu', by rw [int_get rv2], hl, by omega, by omega, ?_, ey, ?_⟩
        · unfold seqIndex?
          rw [← hln]
          have c1 : ¬ k < 0 := by omega
          have c2 : (0 ≤ k && k < (xs.length : Int)) = true := by
            rw [Bool.and_eq_true, decide_eq_true_eq, decide_eq_true_eq]; exact ⟨cc.1, cc.2.1⟩
          simp only [if_neg c1, c2, if_true]
        · exact p2 g2 _ y stw (rh2.wr eb nz nt ⟨nz, _, upd_same, stw.rvs (RVs.eraseIdx rws)⟩) (RT.of_rv (stw.rv ry))
end
end J
namespace J
open PySem L2
open PyProof.Rows (envOfC)
/-! a root, frozen through and through -/
def frzL (f : VH → VV → Option (VV × VH)) : VH → List VV → Option (List VV × VH)
  | h, [] => some ([], h)
  | h, v :: vs => match f h v with
    | some (w, h1) => match frzL f h1 vs with
      | some (ws, h2) => some (w :: ws, h2)
      | none => none
    | none => none
def frzV : Nat → VH → VV → Option (VV × VH)
  | 0, _, _ => none
  | k + 1, h, .obj n => match h[n]? with
    | some (.fzn w) => some (w, h)
    | some (.fl xs) => some (.lst xs, h.set n (.fzn (.lst xs)))
    | some (.dT ks vs) => some (.dT ks vs, h.set n (.fzn (.dT ks vs)))
    | some (.dK ks vs) => some (.dK ks vs, h.set n (.fzn (.dK ks vs)))
    | some (.lo xs) => match frzL (frzV k) h xs with
      | some (ys, h') => some (.lst ys, h'.set n (.fzn (.lst ys)))
      | none => none
    | some (.ins c ns vs) => match frzL (frzV k) h vs with
      | some (ys, h') => some (.ins c ns ys, h'.set n (.fzn (.ins c ns ys)))
      | none => none
    | none => none
  | _ + 1, h, v => some (v, h)
def FrzOk (c : Ct) (H : Hp) (f : VH → VV → Option (VV × VH)) : Prop := ∀ g h v u w h', RH c g h H → RT c g H v u → f h v = some (w, h') → ∃ g', Stp g H g' H ∧ g'.io = g.io ∧ RH c g' h' H ∧ RV c g'.fz H w u
theorem frzL_ok {c : Ct} {H : Hp} {f : VH → VV → Option (VV × VH)} (hf : FrzOk c H f) : ∀ (vs : List VV) (us : List V) (g : Gh) (h : VH) (ws : List VV) (h' : VH), RH c g h H → RTs c g H vs us → frzL f h vs = some (ws, h') → ∃ g', Stp g H g' H ∧ g'.io = g.io ∧ RH c g' h' H ∧ RVs c g'.fz H ws us
  | [], us, g, h, ws, h', rh, r, e => by
    unfold frzL at e
    cases e
    rw [show us = [] from r]
    exact ⟨g, .refl, rfl, rh, RVs.nil⟩
  | v :: vs, us, g, h, ws, h', rh, r, e => by
    obtain ⟨u, q, rfl, a, b⟩ := r
    unfold frzL at e
    split at e
    · rename_i w h1 e1
      obtain ⟨g1, s1, i1, r1, v1⟩ := hf g h v u w h1 rh a e1
      split at e
      · rename_i ws' h2 e2
        cases e
        obtain ⟨g2, s2, i2, r2, v2⟩ := frzL_ok hf vs q g1 h1 _ _ r1 (b.stp s1) e2
        exact ⟨g2, s1.trans s2, i2.trans i1, r2, RVs.cons (s2.rv v1) v2⟩
      · cases e
    · cases e
theorem frzV_ok {c : Ct} {H : Hp} : ∀ k : Nat, FrzOk c H (frzV k)
  | 0 => fun g h v u w h' _ _ e => by simp [frzV] at e
  | k + 1 => fun g h v u w h' rh r e => by
    cases v with
    | obj n =>
      obtain ⟨a, ea, eu⟩ := r
      unfold frzV at e
      split at e
      · rename_i w' en
        cases e
        obtain ⟨fa, rv⟩ := rh.at' n _ a en ea
        exact ⟨g, .refl, rfl, rh, by rw [eu]; exact rv⟩
      · rename_i xs en
        cases e
        obtain ⟨nz, us, hl, rvs⟩ := rh.at' n _ a en ea
        have rv : RV c (g.frz a).fz H (.lst xs) (.ref a) := by
          rw [RV]
          exact ⟨a, us, rfl, .inr rfl, hl, (Stp.kill (p := a)).rvs rvs⟩
        exact ⟨g.frz a, .kill, rfl, rh.kill ea rv, by rw [eu]; exact rv⟩
      · rename_i ks vs en
        cases e
        obtain ⟨nz, us, hl, ln, rvs⟩ := rh.at' n _ a en ea
        have rv : RV c (g.frz a).fz H (.dT ks vs) (.ref a) := by
          rw [RV]
          exact ⟨a, us, rfl, .inr rfl, .inl hl, ln, (Stp.kill (p := a)).rvs rvs⟩
        exact ⟨g.frz a, .kill, rfl, rh.kill ea rv, by rw [eu]; exact rv⟩
      · rename_i ks vs en
        cases e
        obtain ⟨nz, us, hl, ln, rvs⟩ := rh.at' n _ a en ea
        have rv : RV c (g.frz a).fz H (.dK ks vs) (.ref a) := by
          rw [RV]
          exact ⟨a, us, rfl, (.inr rfl), .inl hl, ln, (Stp.kill (p := a)).rvs rvs⟩
        exact ⟨g.frz a, .kill, rfl, rh.kill ea rv, by rw [eu]; exact rv⟩
      · rename_i xs en
        obtain ⟨nz, us, hl, rts⟩ := rh.at' n _ a en ea
        split at e
        · rename_i ys h1 e1
          cases e
          obtain ⟨g1, s1, i1, r1, v1⟩ := frzL_ok (frzV_ok k) xs us g h ys h1 rh rts e1
          have rv : RV c (g1.frz a).fz H (.lst ys) (.ref a) := by
            rw [RV]
            exact ⟨a, us, rfl, .inr rfl, hl, (Stp.kill (p := a)).rvs v1⟩
          exact ⟨g1.frz a, s1.trans .kill, i1, r1.kill (by rw [i1]; exact ea) rv, by rw [eu]; exact rv⟩
        · cases e
      · rename_i x ns vs en
        obtain ⟨nz, C, dx, us, m, hl, ln, rts⟩ := rh.at' n _ a en ea
        split at e
        · rename_i ys h1 e1
          cases e
          obtain ⟨g1, s1, i1, r1, v1⟩ := frzL_ok (frzV_ok k) vs us g h ys h1 rh rts e1
          have rv : RV c (g1.frz a).fz H (.ins x ns ys) (.ref a) := by
            rw [RV]
            exact ⟨a, C, dx, us, rfl, .inr rfl, m, hl, ln, (Stp.kill (p := a)).rvs v1⟩
          exact ⟨g1.frz a, s1.trans .kill, i1, r1.kill (by rw [i1]; exact ea) rv, by rw [eu]; exact rv⟩
        · cases e
      · cases e
    | _ =>
      unfold frzV at e
      cases e
      exact ⟨g, .refl, rfl, rh, r.rv rfl⟩
def frzR (v : VV) (h : VH) : Res VV := match frzV 4 h v with
  | some (w, h2) => .ok w h2
  | none => .no
def eFrzD (f : EF) : EF := fun ρ h => (f ρ h).bind frzR
section
variable {X : Cx} {W : WX}
theorem j_frzD {e : Expr} {f : EF} (h : PE X e (tE (ct X) W f)) : PE X e (tE (ct X) W (eFrzD f)) :=
  PE.mono h fun σ H Q ⟨g, ρ, h0, rh, rs, p⟩ => by
    refine ⟨g, ρ, h0, rh, rs, (Pst.bind (R := RT (ct X)) p).imp fun u H1 ⟨g1, v, h1, st, rh1, rv1, p1⟩ => ?_⟩
    unfold frzR at p1
    split at p1
    · rename_i w h2 e
      obtain ⟨g2, s2, _, r2, v2⟩ := frzV_ok 4 g1 h1 v u w h2 rh1 rv1 e
      exact p1 g2 H1 u s2 r2 (RT.of_rv v2)
    · exact p1.elim
end
/-! comprehensions whose elements may be roots -/
def lcGoR (b : VV → VSt → Option VSt) (t : TF) (e : EF) (ρ : VSt) : List VV → VH → Res (List VV)
  | [], h => .ok [] h
  | x :: xs, h => match b x ρ with
    | none => .no
    | some ρ' => (t ρ' h).bind fun k h1 => if k = true then (e ρ' h1).bind fun v h2 => (lcGoR b t e ρ xs h2).bind fun vs h3 => .ok (v :: vs) h3 else lcGoR b t e ρ xs h1
def eLcR (own : List Nat) (it : AF) (b : VV → VSt → Option VSt) (t : TF) (e : EF) : EF := fun ρ h => (it ρ h).bind fun xs h1 => if xs.length > SZ then .no else match lcGoR b t e (wp ρ own) xs h1 with
  | .ok vs h2 => .ok (.obj h2.length) (h2 ++ [.lo vs])
  | _ => .no
/-- the loop of a comprehension, whatever is made of the new list -/
theorem lc_runR {c : Ct} {W0 : WX} {Wx : WX} {own : List Nat} {b : VV → VSt → Option VSt} {ft : TF} {fe : EF} {tg : TG} {J : It} {xs : List VV} {ρ : VSt} {σ : St} {g : Gh} {h : VH} {H1 : Hp} {D : Addr} {Q : VK} {K : PySem.W.Frag}
    (hW : ∀ a d s h, W0 a d s h → False) (ek : c.K = K) (pat : PatOk K tg b own) (dl : Deliv c g H1 xs J) (hsz : xs.length ≤ SZ) (rh : RH c g h H1) (rs : RS c g H1 ρ σ) (hD : H1 D = none)
    (fin : match lcGoR b ft fe (wp ρ own) xs h with
      | .ok vs h' => ∀ g' H' us, Stp g H1 g' H' → RH c g' h' H' → H' D = some (.lst us) → ¬ g'.fz D → D ∉ g'.io → ¬ g'.kp D → RTs c g' H' vs us → Q (.ref D) H'
      | _ => False) :
    ∃ Wv : Nat → Nat → Hp → Prop, (∃ m, Wv 0 m (upd H1 D (.lst []))) ∧ ∀ i m H, Wv i m H →
      (J.stop i H ∧ Q (.ref D) H) ∨ (J.go i H ∧ ∃ Nx : Hp → Prop, (∀ H', Nx H' → ∃ m', m' < m ∧ Wv (i + 1) m' H') ∧ ∀ x H', J.yld i H x H' → tg x (wipe σ own) H' fun σ2 H2 => wipe σ2 own = wipe σ own ∧ tT c W0 ft σ2 H2 fun bb H3 =>
        if bb = true then tE c W0 fe σ2 H3 fun y H4 => ∃ acc, H4 D = some (.lst acc) ∧ acc.length < sizeLine ∧ Nx (upd H4 D (.lst (acc ++ [y]))) else Nx H3) := by
  -- the invariant
  let P : Nat → Hp → Prop := fun i H => ∃ (gi : Gh) (hi : VH) (acc : List VV) (us : List V), acc.length ≤ i ∧ Stp g H1 gi H ∧ RH c gi hi H ∧ H D = some (.lst us) ∧ ¬ gi.fz D ∧ D ∉ gi.io ∧ ¬ gi.kp D ∧ RTs c gi H acc us ∧
    (match lcGoR b ft fe (wp ρ own) (xs.drop i) hi with
      | .ok vs h' => ∀ g' H' us, Stp gi H g' H' → RH c g' h' H' → H' D = some (.lst us) → ¬ g'.fz D → D ∉ g'.io → ¬ g'.kp D → RTs c g' H' (acc ++ vs) us → Q (.ref D) H'
      | _ => False)
  refine ⟨fun i m H => m = xs.length - i ∧ i ≤ xs.length ∧ P i H, ⟨xs.length, by simp, Nat.zero_le _, ?_⟩, ?_⟩
  · refine ⟨g, h, [], [], Nat.le_refl _, .junk rh hD, rh.junk hD, upd_same, fun z => ?_, fun z => ?_, fun z => ?_, rfl, ?_⟩
    · obtain ⟨o, e⟩ := rh.fz D z; rw [hD] at e; cases e
    · obtain ⟨o, e⟩ := rh.root z; rw [hD] at e; cases e
    · obtain ⟨o, e⟩ := rh.kp D z; rw [hD] at e; cases e
    · rw [List.drop_zero]
      generalize lcGoR b ft fe (wp ρ own) xs h = r at fin ⊢
      cases r with
      | ok vs h' =>
        intro g' H' us st
        rw [List.nil_append]
        exact fin g' H' us ((Stp.junk rh hD).trans st)
      | no => exact fin
      | exc _ _ _ _ => exact fin
  · rintro i m H ⟨rfl, hi, gi, hh, acc, us, hacc, st, rhi, hDl, nf, ni, nk, rvs, fin⟩
    by_cases hlt : i < xs.length
    · refine .inr ⟨dl.go gi H st.f i hlt, P (i + 1), fun H' p' => ⟨xs.length - (i + 1), by omega, rfl, hlt, p'⟩, fun x H' y => ?_⟩
      have ed : xs.drop i = xs[i] :: xs.drop (i + 1) := List.drop_eq_getElem_cons hlt
      have rhk : RH c (gi.keep D) hh H := rhi.keep hDl nf ni
      have stk : Stp g H1 (gi.keep D) H := st.trans .keep
      obtain ⟨g1, st1, rh1, rt1⟩ := dl.yld (gi.keep D) H stk.f i xs[i] hh (List.getElem?_eq_getElem hlt) rhk x H' y
      rw [ed] at fin
      unfold lcGoR at fin
      cases e : b xs[i] (wp ρ own) with
      | none => rw [e] at fin; exact fin.elim
      | some ρ' =>
        rw [e] at fin
        simp only at fin
        have rs1 : RS c g1 H' (wp ρ own) (wipe σ own) := ((rs.wipe own).stp stk).stp st1
        refine pat.run c g1 hh H' _ _ _ _ ρ' ek rh1 rs1 rt1 e _ fun σ2 rs2 o2 l2 => ⟨?_, ?_⟩
        · refine wipe_same (l2.trans (wipe_length _ _)) fun j hj => (o2 j hj).trans (wipe_out hj)
        · refine ⟨g1, ρ', hh, rh1, rs2, ?_⟩
          cases et : ft ρ' hh with
          | no => rw [et] at fin; exact fin.elim
          | exc _ _ _ _ => rw [et] at fin; exact fin.elim
          | ok k h1 =>
            rw [et] at fin
            intro g2 H2 bb st2 rh2 eb
            cases (show bb = k from eb)
            -- D is kept
            have hD2 : H2 D = some (.lst us) := by rw [st2.kH D (st1.kp D (.inr rfl)), st1.kH D (.inr rfl)]; exact hDl
            have kD2 : g2.kp D := st2.kp D (st1.kp D (.inr rfl))
            have s12 : Stp (gi.keep D) H g2 H2 := st1.trans st2
            cases k with
            | false =>
              rw [if_neg Bool.false_ne_true]
              have fin' : match lcGoR b ft fe (wp ρ own) (xs.drop (i + 1)) h1 with
                | .ok vs h' => ∀ g' H' us, Stp gi H g' H' → RH c g' h' H' → H' D = some (.lst us) → ¬ g'.fz D → D ∉ g'.io → ¬ g'.kp D → RTs c g' H' (acc ++ vs) us → Q (.ref D) H'
                | _ => False := by
                simp only [Res.bind, if_neg Bool.false_ne_true] at fin; exact fin
              refine ⟨g2.back gi.kp, h1, acc, us, Nat.le_succ_of_le hacc, st.trans s12.back, rh2.back (fun p z => s12.kp p (.inl z)), hD2, (rh2.kd D kD2).1, (rh2.kd D kD2).2, nk, RTs.back ((RTs.back (k := (gi.keep D).kp) rvs).stp s12), ?_⟩
              generalize lcGoR b ft fe (wp ρ own) (xs.drop (i + 1)) h1 = r at fin' ⊢
              cases r with
              | ok vs h' => exact fun g' H' us' st' => fin' g' H' us' (s12.back.trans st')
              | no => exact fin'
              | exc _ _ _ _ => exact fin'
            | true =>
              rw [if_pos rfl]
              refine ⟨g2, ρ', h1, rh2, rs2.stp st2, ?_⟩
              simp only [Res.bind, if_pos rfl] at fin
              cases ee : fe ρ' h1 with
              | no => rw [ee] at fin; exact fin.elim
              | exc _ _ _ _ => rw [ee] at fin; exact fin.elim
              | ok v h2 =>
                rw [ee] at fin
                simp only at fin
                intro g3 H3 yv st3 rh3 rv3
                have s13 : Stp (gi.keep D) H g3 H3 := s12.trans st3
                have kD3 : g3.kp D := st3.kp D kD2
                have hD3 : H3 D = some (.lst us) := by rw [st3.kH D kD2]; exact hD2
                have rvs3 : RTs c g3 H3 acc us := (RTs.back (k := (gi.keep D).kp) rvs).stp s13
                have nf3 := (rh3.kd D kD3).1
                have ni3 := (rh3.kd D kD3).2
                refine ⟨us, hD3, by rw [← rvs.len]; exact SZ_lt (by omega), ?_⟩
                -- write D
                have sw : Stp (g3.back gi.kp) H3 (g3.back gi.kp) (upd H3 D (.lst (us ++ [yv]))) := Stp.wr (c := c) (g := g3.back gi.kp) nf3 nk (fun ys z => by rw [hD3] at z; cases z)
                have rhb : RH c (g3.back gi.kp) h2 H3 := rh3.back (fun p z => s13.kp p (.inl z))
                have rhw : RH c (g3.back gi.kp) h2 (upd H3 D (.lst (us ++ [yv]))) := by
                  refine ⟨rhb.len, rhb.nd, fun n o a q1 q2 => ?_, fun q z => ?_, fun q z => ?_, rhb.kd, rhb.tb.upd (by rw [hD3]; exact noTab_of (fun _ z => by cases z) (fun _ z => by cases z)), fun q z ps y => rhb.nt q z ps (by rw [upd_ne (show q ≠ D from fun e => z.elim (fun z => nf3 (e ▸ z)) (fun z => nk (e ▸ z)))] at y; exact y)⟩
                  · have na : a ≠ D := fun z => ni3 (z ▸ List.mem_of_getElem? q2)
                    exact RO.stp sw (fun h => h) (upd_ne na) (rhb.at' n o a q1 q2)
                  · rw [upd_ne (show q ≠ D from fun e => nf3 (e ▸ z))]; exact rhb.fz q z
                  · rw [upd_ne (show q ≠ D from fun e => nk (e ▸ z))]; exact rhb.kp q z
                refine ⟨g3.back gi.kp, h2, acc ++ [v], us ++ [yv], by rw [List.length_append]; simp; omega, (st.trans s13.back).trans sw, rhw, upd_same, nf3, ni3, nk, ?_, ?_⟩
                · exact (RTs.app (RTs.back (k := gi.kp) rvs3) (RTs.one (RT.back rfl rfl rv3))).stp sw
                · generalize lcGoR b ft fe (wp ρ own) (xs.drop (i + 1)) h2 = r at fin ⊢
                  cases r with
                  | ok vs h' =>
                    intro g' H' us' st' rh' d1 d2 d3 d4 rv'
                    rw [List.append_assoc] at rv'
                    exact fin g' H' us' ((s13.back.trans sw).trans st') rh' d1 d2 d3 d4 rv'
                  | no => exact fin
                  | exc _ _ _ _ => exact fin
    · have e : i = xs.length := by omega
      subst e
      refine .inl ⟨dl.stop gi H st.f _ (Nat.le_refl _), ?_⟩
      rw [List.drop_length] at fin
      unfold lcGoR at fin
      refine fin gi H us .refl rhi hDl nf ni nk ?_
      rw [List.append_nil]; exact rvs
section
variable {X : Cx} {W : WX}
theorem tLcR_of {own : List Nat} {it : AF} {b : VV → VSt → Option VSt} {ft : TF} {fe : EF} {tg : TG} (pat : PatOk X.K tg b own)
    {σ : St} {H : Hp} {Q : VK} (h : tE (ct X) W (eLcR own it b ft fe) σ H Q) :
    tLc (tI (ct X) W it) tg (tT (ct X) W0 ft) (tE (ct X) W0 fe) own σ H Q := by
  obtain ⟨g, ρ, h0, rh, rs, p⟩ := tG.bind (R := fun g H xs J => Deliv (ct X) g H xs J) (f := it) (k := fun (xs : List VV) ρ h1 => if xs.length > SZ then .no else (match lcGoR b ft fe (wp ρ own) xs h1 with
      | .ok vs h2 => Res.ok (VV.obj h2.length) (h2 ++ [VO.lo vs])
      | _ => .no)) h
  refine ⟨g, ρ, h0, rh, rs, p.imp fun J H1 ⟨g1, ρ1, xs, h1, rh1, rs1, dl, p1⟩ D hD => ?_⟩
  by_cases hz : xs.length > SZ
  · rw [if_pos hz] at p1; exact p1.elim
  · rw [if_neg hz] at p1
    refine lc_runR (Wx := W) (fun _ _ _ _ z => z) rfl pat dl (by omega) rh1 rs1 hD ?_
    generalize lcGoR b ft fe (wp ρ1 own) xs h1 = r at p1 ⊢
    cases r with
    | ok vs h' =>
      intro g' H' us st rh' e nf ni nk rv'
      have q := Pst.step st p1
      refine q (g'.add D) H' (.ref D) .add (rh'.add ni nk ⟨nf, us, e, rv'.stp .add⟩) ⟨D, ?_, rfl⟩
      show (g'.io ++ [D])[h'.length]? = some D
      rw [← rh'.len, List.getElem?_append_right (Nat.le_refl _), Nat.sub_self]; rfl
    | no => exact p1
    | exc _ _ _ _ => exact p1
theorem j_lcR {elt tg iter : Expr} {ifs : List Expr} {scope : Scope} {own : List (Str × Nat)} {pos : Pos} {it : AF} {g : TG} {b : VV → VSt → Option VSt} {ft : TF} {fe : EF} (hc : X.calm = true) (hN : X.N.Nodup) (hi : PI X tg iter (tI (ct X) W it)) (ok : BlkOk X.N X.env.scope scope own)
    (hg : ∀ (s : Shared) (H : Hp) (C : Addr) (cl : List (Str × Addr)) (fp : List Addr), PG (X.blk s H scope (compEnvC scope cl C X.env) fp) tg g) (pat : PatOk X.K g b (own.map (·.2)))
    (ht : ∀ (s : Shared) (H : Hp) (C : Addr) (cl : List (Str × Addr)) (fp : List Addr), PTs (X.blk s H scope (compEnvC scope cl C X.env) fp) ifs (tT (ct X) W0 ft))
    (he : ∀ (s : Shared) (H : Hp) (C : Addr) (cl : List (Str × Addr)) (fp : List Addr), PE (X.blk s H scope (compEnvC scope cl C X.env) fp) elt (tE (ct X) W0 fe)) (hs : ∀ x, foldedSetIterable iter X.env x = pure x := by intro _; rfl) :
    PE X (.ListComp elt [⟨tg, iter, ifs, 0⟩] scope pos) (tE (ct X) W (eLcR (own.map (·.2)) it b ft fe)) :=
  PE.mono (pe_lc hc hN hi ok hg ht he hs) fun σ H Q h => tLcR_of pat h
end
end J
namespace J
open PySem L2
open PyProof.Rows (envOfC)
/-! calls with keywords -/
section
variable {X : Cx} {W : WX}
theorem PK.mono {e : List Keyword} {t t' : TA} (h : PK X e t) (m : ∀ σ H Q, t' σ H Q → t σ H Q) : PK X e t' := ⟨fun pos pins s σ H Q I q => h.run pos pins s σ H Q I (m σ H Q q)⟩
/-- positional values, then the keywords' -/
def aApp (n m : Nat) (a b : AF) : AF := fun ρ h => (a ρ h).bind fun vs h1 => (b ρ h1).bind fun ws h2 => if vs.length = n ∧ ws.length = m then .ok (vs ++ ws) h2 else .no
end
section
variable {X : Cx} {W : WX}
/-! xs[i] op= e, xs a root -/
/-- o[i] += e, ints -/
def augV (fe : EF) (ρ : VSt) (ov iv : VV) (h2 : VH) : SR := if ov.isObj = true then (match opIx h2 ov iv with
  | some (.int a) => (fe ρ h2).st ρ fun v h3 => match v with
    | .int b => match setI h3 ov iv (.int (a + b)) with
      | some h4 => .nx ρ h4
      | none => .no
    | _ => .no
  | _ => .no) else .no
def sAugI (o i e : EF) : SF := fun ρ h => (o ρ h).st ρ fun ov h1 => (i ρ h1).st ρ fun iv h2 => augV e ρ ov iv h2
end
end J
namespace J
open PySem L2
open PyProof.Rows (envOfC)
/-! x in y -/
def seqV (h : VH) : VV → Option (List VV)
  | .tup xs => some xs
  | v => lstOf h v
theorem seqV_get {c : Ct} {g : Gh} {h : VH} {H : Hp} {v : VV} {u : V} {xs : List VV} (rh : RH c g h H) (rv : RT c g H v u) (e : seqV h v = some xs) : ∃ p us, u = .ref p ∧ (SqL c.K H p us ∨ SqT c.K H p us) ∧ RVs c g.fz H xs us := by
  have old : lstOf h v = some xs → ∃ p us, u = .ref p ∧ (SqL c.K H p us ∨ SqT c.K H p us) ∧ RVs c g.fz H xs us := fun e => by
    obtain ⟨p, us, a, b, r⟩ := lstOf_get rh rv e
    exact ⟨p, us, a, .inl b, r⟩
  cases v with
  | tup ys =>
    cases e
    obtain ⟨p, us, a, b, r⟩ := tup_get rv
    exact ⟨p, us, a, .inr b.sq, r⟩
  | _ => exact old e
/-- lists of tuples of ints -/
def tupsOf : List VV → Option (List (List Int))
  | [] => some []
  | v :: vs => (intsV v).bind fun k => (tupsOf vs).map fun ks => k :: ks
theorem tupsOf_inv : ∀ {xs : List VV} {ks : List (List Int)}, tupsOf xs = some ks → xs = ks.map tupI
  | [], ks, e => by cases e; rfl
  | v :: vs, ks, e => by
    unfold tupsOf at e
    obtain ⟨k, e1, e2⟩ := Option.bind_eq_some_iff.mp e
    obtain ⟨l, e3, e4⟩ := Option.map_eq_some_iff.mp e2
    subst e4
    rw [intsV_inv e1, tupsOf_inv e3]; rfl
theorem isD_tupI (k : List Int) : isD (tupI k) = true := by unfold tupI; rw [isD]; exact isDs_ints k
theorem isDs_tups : ∀ ks : List (List Int), isDs (ks.map tupI) = true
  | [] => rfl
  | k :: ks => by rw [List.map_cons, isDs, isD_tupI, isDs_tups ks]; rfl
theorem toD_tupI (k : List Int) : toD (tupI k) = .tuple (k.map PyData.int) := by unfold tupI; rw [toD, toDs_ints]
theorem toDs_tups : ∀ ks : List (List Int), toDs (ks.map tupI) = ks.map fun k => .tuple (k.map PyData.int)
  | [] => rfl
  | k :: ks => by rw [List.map_cons, toDs, toD_tupI, toDs_tups ks]; rfl
theorem eqv_tups (k l : List Int) : PyData.eqv (.tuple (k.map PyData.int)) (.tuple (l.map PyData.int)) = decide (k = l) := by rw [PyData.eqv, eqvAll_ints]
theorem canLay_tups : ∀ ks : List (List Int), PyData.canLayAll0 (ks.map fun k => .tuple (k.map PyData.int)) = true
  | [] => rfl
  | k :: ks => by rw [List.map_cons, PyData.canLayAll0, PyData.canLay0, canLay_ints, canLay_tups ks]; rfl
theorem depth_tups : ∀ ks : List (List Int), PyData.depthAll (ks.map fun k => .tuple (k.map PyData.int)) ≤ 1
  | [] => Nat.zero_le _
  | k :: ks => by
    rw [List.map_cons, PyData.depthAll, PyData.depth, depth_ints]
    have := depth_tups ks
    omega
theorem shaped_tupI (k : List Int) : SeqAt.shaped (toD (tupI k)) = true := by
  rw [toD_tupI]; unfold SeqAt.shaped; rw [PyData.canLay0, canLay_ints, PyData.depth, depth_ints]; rfl
theorem shaped_tups (ks : List (List Int)) : SeqAt.shaped (toD (.lst (ks.map tupI))) = true := by
  rw [toD, toDs_tups]; unfold SeqAt.shaped; rw [PyData.canLay0, canLay_tups, PyData.depth]
  have := depth_tups ks
  rw [decide_eq_true (by omega)]; rfl
theorem eq_tups {h : VH} {l m : List (List Int)} : opEq h (.lst (l.map tupI)) (.lst (m.map tupI)) = some (.bl (decide (l = m))) := by
  show (eqD _ _).map VV.bl = _
  unfold eqD
  simp only [isD, isDs_tups, shaped_tups, and_self, if_true]
  rw [toD, toD, toDs_tups, toDs_tups, PyData.eqv]
  have : ∀ l m : List (List Int), PyData.eqvAll (l.map fun k => .tuple (k.map PyData.int)) (m.map fun k => .tuple (k.map PyData.int)) = decide (l = m) := by
    intro l
    induction l with
    | nil => intro m; cases m <;> simp [PyData.eqvAll]
    | cons k l ih =>
      intro m
      cases m with
      | nil => simp [PyData.eqvAll]
      | cons k' m => rw [List.map_cons, List.map_cons, PyData.eqvAll, eqv_tups, ih]; simp
  rw [this]; rfl
/-- what is in -/
def inV (h : VH) (x y : VV) : Option Bool := match dOf h y with
  | some a => (keyV x).map fun k => hasK a.1 k
  | none => match x with
    | .int i => (seqV h y).bind fun xs => (intsOf xs).map fun ns => decide (i ∈ ns)
    | .str i => (seqV h y).bind fun xs => (strsOf xs).map fun ns => decide (i ∈ ns)
    | .tup k => (intsV (.tup k)).bind fun k => match y with
      | .lst xs => (tupsOf xs).map fun ks => decide (k ∈ ks)
      | _ => none
    | _ => none
def opIn : Op2 := fun h x y => (inV h x y).map .bl
theorem any_dec {α : Type} [DecidableEq α] (x : α) : ∀ l : List α, (l.any fun y => decide (y = x)) = decide (x ∈ l)
  | [] => rfl
  | y :: l => by
    rw [List.any_cons, any_dec x l]
    by_cases h : y = x
    · subst h; simp
    · simp [h, Ne.symm h]
theorem inV_int {i : Int} {ns : List Int} : L2.inV (.int i) (ns.map V.int) = decide (i ∈ ns) := by
  unfold L2.inV
  rw [List.any_map, ← any_dec]
  rfl
theorem inV_str {i : Str} {ns : List Str} : L2.inV (.str i) (ns.map V.str) = decide (i ∈ ns) := by
  unfold L2.inV
  rw [List.any_map, ← any_dec]
  rfl
theorem flat_ints (ns : List Int) : (ns.map V.int).all flatV = true := by simp [flatV]
theorem flat_strs (ns : List Str) : (ns.map V.str).all flatV = true := by simp [flatV]
section
variable {X : Cx} {W : WX}
theorem inV_cases {c : Ct} {g : Gh} {h : VH} {H : Hp} {v w : VV} {x y : V} {b : Bool} (rh : RH c g h H) (rv : RT c g H v x) (rw' : RT c g H w y) (e : inV h v w = some b) :
    (∃ a o, y = .ref a ∧ DGet H a x o ∧ o.isSome = b) ∨ (∃ p xs, y = .ref p ∧ (SqL c.K H p xs ∨ SqT c.K H p xs) ∧ flatV x = true ∧ xs.all flatV = true ∧ L2.inV x xs = b)
      ∨ ∃ d ds, Dp c.K H x d ∧ Dp c.K H y (.list ds) ∧ SeqAt.shaped d = true ∧ SeqAt.shaped (.list ds) = true ∧ (ds.any fun z => PyData.eqv z d) = b := by
  unfold inV at e
  split at e
  · rename_i a ea
    obtain ⟨k, e1, e2⟩ := Option.map_eq_some_iff.mp e
    obtain ⟨p, us, rfl, hp, hl, rvs⟩ := dOf_get rh rw' ea
    obtain ⟨q, rfl, hb⟩ := keyV_at rv e1
    exact .inl ⟨p, _, rfl, .inr ⟨_, _, _, hp, rfl, hb, rfl⟩, by rw [valV_has hl]; exact e2⟩
  · split at e
    · rename_i i
      obtain ⟨xs, e1, e2⟩ := Option.bind_eq_some_iff.mp e
      obtain ⟨ns, e3, e4⟩ := Option.map_eq_some_iff.mp e2
      obtain ⟨p, us, ep, sq, rvs⟩ := seqV_get rh rw' e1
      have eu := intsOf_rv rvs e3
      subst eu
      rw [int_get rv]
      exact .inr (.inl ⟨p, _, ep, sq, rfl, flat_ints ns, by rw [inV_int]; exact e4⟩)
    · rename_i i
      obtain ⟨xs, e1, e2⟩ := Option.bind_eq_some_iff.mp e
      obtain ⟨ns, e3, e4⟩ := Option.map_eq_some_iff.mp e2
      obtain ⟨p, us, ep, sq, rvs⟩ := seqV_get rh rw' e1
      have eu := strsOf_rv rvs e3
      subst eu
      rw [str_get rv]
      exact .inr (.inl ⟨p, _, ep, sq, rfl, flat_strs ns, by rw [inV_str]; exact e4⟩)
    · rename_i k
      obtain ⟨k', e1, e2⟩ := Option.bind_eq_some_iff.mp e
      split at e2
      · rename_i xs
        obtain ⟨ks, e3, e4⟩ := Option.map_eq_some_iff.mp e2
        have ek := intsV_inv e1
        have ex := tupsOf_inv e3
        subst ex
        have d1 := dp_of _ _ (rv.rv (by rfl)) (by rw [ek]; exact isD_tupI k')
        have d2 := dp_of _ _ (rw'.rv (by rfl)) (by rw [isD]; exact isDs_tups ks)
        have s1 := shaped_tupI k'
        have s2 := shaped_tups ks
        rw [ek, toD_tupI] at d1
        rw [toD, toDs_tups] at d2
        rw [toD_tupI] at s1
        rw [toD, toDs_tups] at s2
        refine .inr (.inr ⟨_, _, d1, d2, s1, s2, ?_⟩)
        rw [← e4, List.any_map]
        have := any_dec k' ks
        refine Eq.trans (congrArg ks.any (funext fun n => eqv_tups n k')) (this.trans ?_)
        congr
      · cases e2
    · cases e
theorem op_din (hu : X.A.units + 1 < cLine) : OpR X (compareOp .In) (fun x y H Q => ∃ a o, y = .ref a ∧ DGet H a x o ∧ Q (.bl o.isSome) H) := by
  intro pins s σ H x y v u Q I rx ry h
  obtain ⟨a, o, rfl, g, q⟩ := h
  obtain rfl : u = Value.ref a := ry
  exact d_in hu I g rx fun s' I' => ⟨.bl o.isSome, H, I', rfl, q⟩
theorem or_in {k : Nat} (hr : Room k X.A) : OpR X (compareOp .In) (Rd2 (ct X) opIn) :=
  OpR.imp (OpR.or (op_din (by have := hr.units; omega)) (OpR.or op_in_seq (op_inD (by have := hr.un; omega)))) fun x y H Q ⟨g, h, v, w, r, rh, rv, rw', e, kk⟩ => by
    obtain ⟨b, e1, e2⟩ := Option.map_eq_some_iff.mp e
    subst e2
    have fin := kk g H _ .refl rh rt_bl
    rcases inV_cases rh rv rw' e1 with ⟨a, o, q1, q2, q3⟩ | ⟨p, xs, q1, q2, q3, q4, q5⟩ | ⟨d, ds, q1, q2, q3, q4, q5⟩
    · exact .inl ⟨a, o, q1, q2, by rw [q3]; exact fin⟩
    · exact .inr (.inl ⟨p, xs, q1, q2, q3, q4, by rw [q5]; exact fin⟩)
    · exact .inr (.inr ⟨d, ds, q1, q2, q3, q4, by rw [q5]; exact fin⟩)
/-! min, int -/
def cMin : OpN := fun _ vs => match vs with
  | [.int i, .int j] => some (.int (if j < i then j else i))
  | _ => none
theorem cr_minJ (hc : X.calm = true) : CallR X (.builtin "min") (RdN (ct X) cMin) :=
  CallR.imp (call_min2 hc) fun xs H Q ⟨g, h, vs, r, rh, rv, e, kk⟩ => by
    unfold cMin at e
    split at e
    · cases e
      obtain ⟨u, q, rfl, a, u2, q2, rfl, a2, rfl⟩ := rv
      exact ⟨_, _, by rw [int_get a, int_get a2], kk g H _ .refl rh rt_int⟩
    · cases e
/-! new lists as roots -/
abbrev OpL := VH → List VV → Option (List VV)
def newO (o : Option (List VV)) (h : VH) : Res VV := match o with
  | some xs => .ok (.obj h.length) (h ++ [.fl xs])
  | none => .no
def eNewO (op : OpL) (a : AF) : EF := fun ρ h => (a ρ h).bind fun v h1 => newO (op h1 v) h1
def RnN (c : Ct) (op : OpL) : List V → Hp → VK → Prop := fun xs H Q => ∃ g h vs r, RH c g h H ∧ RTs c g H vs xs ∧ op h vs = some r ∧ ∀ g' H' u, Stp g H g' H' → RH c g' (h ++ [.fl r]) H' → RT c g' H' (.obj h.length) u → Q u H'
theorem tCBO_of {r : List V → Hp → VK → Prop} {op : OpL} {fa : AF} (m : ∀ x H Q, RnN (ct X) op x H Q → r x H Q) {σ : St} {H : Hp} {Q : VK} (h : tE (ct X) W (eNewO op fa) σ H Q) : tCB r (tA (ct X) W fa) σ H Q := by
  obtain ⟨g, ρ, h0, rh, rs, p⟩ := h
  refine ⟨g, ρ, h0, rh, rs, (Pst.bind (R := RTs (ct X)) p).imp fun u H1 ⟨g1, v, h1, st, rh1, rv1, p1⟩ => ?_⟩
  unfold newO at p1
  split at p1
  · rename_i xs e
    exact m _ _ _ ⟨g1, h1, v, xs, rh1, rv1, e, fun g' H' u st' rh' rv' => p1 g' H' u st' rh' rv'⟩
  · exact p1.elim
theorem j_callTyO {x : Str} {p pos : Pos} {T : String} {op : OpL} {e : Expr} {es : List Expr} {fa : AF} (hc : CallR X (.type T) (RnN (ct X) op)) (hg : Gl X x) (hm : X.mg x = none) (hv : bootBuiltins x = some (.type T)) (ha : PA X (e :: es) (tA (ct X) W fa)) (hn : x ≠ "__name__" := by decide) (hdb : (x == ("__debug__" : Str)) = false := by decide)
    (he : starEach (e :: es) X.env = (false, eval e X.env) :: starEach es X.env := by rfl) (hpl : (backTo pos (starEach es X.env)).any (·.1) = false := by rfl) :
    PE X (.Call (.Name x p) (e :: es) [] pos) (tE (ct X) W (eNewO op fa)) :=
  PE.mono (pe_callTy hc hg hm hv ha hn hdb he hpl) fun σ H Q h => tCBO_of (fun _ _ _ q => q) h
def lList : OpL := fun h vs => match vs with
  | [v] => seqV h v
  | _ => none
theorem root_of {c : Ct} {g : Gh} {h : VH} {H : Hp} {p : Addr} {vs : List VV} {us : List V} (rh : RH c g h H) (hp : H p = none) (rv : RVs c g.fz H vs us) :
    Stp g H (g.add p) (upd H p (.lst us)) ∧ RH c (g.add p) (h ++ [.fl vs]) (upd H p (.lst us)) ∧ RT c (g.add p) (upd H p (.lst us)) (.obj h.length) (.ref p) := by
  have st : Stp g H g (upd H p (.lst us)) := .junk rh hp
  have rh1 : RH c g h (upd H p (.lst us)) := rh.junk hp
  have nq : p ∉ g.io := fun z => by
    obtain ⟨o, e⟩ := rh.root z
    rw [hp] at e; cases e
  refine ⟨st.trans .add, rh1.add nq (fun z => ?_) ⟨fun z => ?_, us, upd_same, st.rvs rv⟩, ⟨p, ?_, rfl⟩⟩
  · obtain ⟨o, e⟩ := rh.kp p z; rw [hp] at e; cases e
  · obtain ⟨o, e⟩ := rh.fz p z; rw [hp] at e; cases e
  · show (g.io ++ [p])[h.length]? = some p
    rw [← rh.len, List.getElem?_append_right (Nat.le_refl _), Nat.sub_self]; rfl
theorem cr_listO : CallR X (.type "list") (RnN (ct X) lList) :=
  CallR.imp call_list_of fun xs H Q ⟨g, h, vs, r, rh, rv, e, kk⟩ => by
    unfold lList at e
    split at e
    · obtain ⟨u, q, rfl, a, rfl⟩ := rv
      obtain ⟨p, us, ep, sp, rp⟩ := seqV_get rh a e
      refine ⟨p, us, by rw [ep], sp, fun l hl => ?_⟩
      obtain ⟨s1, s2, s3⟩ := root_of rh hl rp
      exact kk _ _ _ s1 s2 s3
    · cases e
/-- [..] * n as a root -/
def repO (v w : VV) : Option (List VV) := match v, w with
  | .lst xs, .int k => if -(2 ^ 63) ≤ k ∧ k < 2 ^ 63 ∧ xs.length * k.toNat ≤ SZ then some (List.replicate k.toNat xs).flatten else none
  | _, _ => none
def eRepO (a b : EF) : EF := fun ρ h => (a ρ h).bind fun v h1 => (b ρ h1).bind fun w h2 => newO (repO v w) h2
/-! list(range(n)) -/
theorem cr_range1 : CallR X (.type "range") (fun vs H Q => ∃ i, vs = [V.int i] ∧ ∀ p, H p = none → Q (.ref p) (upd H p (.rng 0 i))) := by
  intro pins s σ H vs us Q I r h
  obtain ⟨i, rfl, q⟩ := h
  obtain ⟨u1, rfl, ri⟩ := r.one
  obtain ⟨t, rfl⟩ := ri
  refine call_range_1 ⟨.ref s.heap.objs.size, upd H s.heap.objs.size (.rng 0 i), I.laid (t' := s.toks + 1 + 1) (fun b o e => Heap.get?_push_of_some _ e) (Nat.le_refl _) ?_, rfl, q _ (I.hok.fresh (Nat.le_refl _))⟩
  exact ⟨s.toks, t, s.toks + 1, Heap.get?_push_size _ rfl⟩
theorem vals_items {n : Nat} {acc : Array Value} (it : ItemsOf (fun i v => ∃ t, v = Value.int (0 + (i : Int) * 1) t) acc n) : Vals ((List.range n).map fun (i : Nat) => V.int ((i : Nat) : Int)) acc.toList := by
  have key : ∀ (l : List Value) (k : Nat), (∀ (j : Nat) (v : Value), l[j]? = some v → ∃ t, v = Value.int (((k + j : Nat) : Nat) : Int) t) → Vals ((List.range' k l.length).map fun (i : Nat) => V.int ((i : Nat) : Int)) l := by
    intro l
    induction l with
    | nil => intro k _; exact .nil
    | cons x l ih =>
      intro k hx
      rw [List.length_cons, List.range'_succ, List.map_cons]
      obtain ⟨t, e⟩ := hx 0 x rfl
      refine .cons ⟨t, e⟩ (ih (k + 1) fun j v hj => ?_)
      obtain ⟨t', e'⟩ := hx (j + 1) v (by simpa using hj)
      exact ⟨t', by rw [e', show k + (j + 1) = k + 1 + j by omega]⟩
  have h := key acc.toList 0 fun j v hj => by
    obtain ⟨t, e⟩ := it.2 j v (by simpa using hj)
    exact ⟨t, by rw [e]; congr 1; omega⟩
  rw [Array.length_toList, it.1, ← List.range_eq_range'] at h
  exact h
theorem cr_listRng (hc : X.calm = true) : CallR X (.type "list") (fun vs H Q => ∃ a n, vs = [V.ref a] ∧ H a = some (.rng 0 n) ∧ n ≤ SZ ∧ 0 ≤ n ∧ ∀ p, H p = none → Q (.ref p) (upd H p (.lst ((List.range n.toNat).map fun (i : Nat) => V.int ((i : Nat) : Int))))) := by
  intro pins s σ H vs us Q I r h
  obtain ⟨a, n, rfl, ha, hn, h0, q⟩ := h
  obtain ⟨u, rfl, ru⟩ := r.one
  cases ru
  obtain ⟨t, u, v, ho⟩ := (show ObjOk X.prog X.w H s.heap a (.rng 0 n) from I.hok a _ ha)
  refine call_list_range (a := 0) (b := n) (c := 1) (n := n.toNat) (I.ok.hd hc) ho ?_ ?_ ?_ fun h' tk acc c' kp e it => ?_
  · unfold Builtin.Range.small
    have : n ≤ 16777216 := hn
    have sz : Builtin.Range.rangeSize 0 n 1 = n.toNat := by
      unfold Builtin.Range.rangeSize
      simp
      omega
    have f : ∀ m : Int, 0 ≤ m → m ≤ 16777216 → Builtin.Range.rangeFitsLong m = true := fun m h1 h2 => by
      unfold Builtin.Range.rangeFitsLong
      simp
      omega
    rw [sz, f 0 (by omega) (by omega), f n h0 this, f 1 (by omega) (by omega), f _ (by omega) (by omega)]
    simp
    exact .inr (f n h0 this)
  · unfold Builtin.Range.rangeSize
    simp
    omega
  · show n.toNat ≤ 16777216
    have : n ≤ 16777216 := hn
    omega
  · have fr := I.hok.fresh (a := s.heap.objs.size) (Nat.le_refl _)
    refine ⟨.ref s.heap.objs.size, _, I.laid (o := .lst ((List.range n.toNat).map fun (i : Nat) => V.int ((i : Nat) : Int))) kp (Nat.le_refl _) ?_, rfl, q _ fr⟩
    refine ⟨?_, acc.toList, c', vals_items it, ?_⟩
    · rw [List.length_map, List.length_range]; exact SZ_le (by have : n ≤ 16777216 := hn; show n.toNat ≤ 16777216; omega)
    · rw [e]
def eListRngO (f : EF) : EF := fun ρ h => (f ρ h).bind fun v h1 => match v with
  | .int n => if 0 ≤ n ∧ n ≤ SZ then .ok (.obj h1.length) (h1 ++ [.fl (rngV 0 n.toNat)]) else .no
  | _ => .no
theorem rvs_rng {c : Ct} {z : Addr → Prop} {H : Hp} (n : Nat) : RVs c z H (rngV 0 n) ((List.range n).map fun (i : Nat) => V.int ((i : Nat) : Int)) := by
  unfold rngV
  generalize List.range n = l
  induction l with
  | nil => exact RVs.nil
  | cons x l ih =>
    refine RVs.cons ?_ ih
    show RV c z H (.int (0 + (x : Int))) _
    rw [Int.zero_add]; exact rv_int _ _ _ _
theorem j_listRngO {a : Expr} {f : EF} {p p2 pos pos2 : Pos} (hc : X.calm = true) (g1 : Gl X "list") (m1 : X.mg "list" = none) (g2 : Gl X "range") (m2 : X.mg "range" = none) (ha : PE X a (tE (ct X) W f))
    (hs : starEach [a] X.env = (false, eval a X.env) :: starEach [] X.env := by rfl) (hs2 : starEach [.Call (.Name "range" p2) [a] [] pos2] X.env = (false, eval (.Call (.Name "range" p2) [a] [] pos2) X.env) :: starEach [] X.env := by rfl)
    (hpl : (backTo pos (starEach [] X.env)).any (·.1) = false := by rfl) (hpl2 : (backTo pos2 (starEach [] X.env)).any (·.1) = false := by rfl) :
    PE X (.Call (.Name "list" p) [.Call (.Name "range" p2) [a] [] pos2] [] pos) (tE (ct X) W (eListRngO f)) :=
  PE.mono (pe_callTy (cr_listRng hc) g1 m1 (by decide +kernel) (pa_cons (pe_callTy cr_range1 g2 m2 (by decide +kernel) (pa_cons ha pa_nil hs) (by decide) (by decide) hs hpl2) pa_nil hs2) (by decide) (by decide) hs2 hpl) fun σ H Q ⟨g, ρ, h0, rh, rs, p⟩ => by
    refine ⟨g, ρ, h0, rh, rs, (Pst.bind (R := RT (ct X)) p).imp fun u H1 ⟨g1, v, h1, st, rh1, rv1, p1⟩ => ?_⟩
    split at p1
    · rename_i n
      split at p1
      · rename_i cc
        refine ⟨n, by rw [int_get rv1], fun q hq => ⟨q, n, rfl, upd_same, cc.2, cc.1, fun l hl => ?_⟩⟩
        have s0 : Stp g1 H1 g1 (upd H1 q (.rng 0 n)) := .junk rh1 hq
        obtain ⟨s1, s2, s3⟩ := root_of (rh1.junk hq) hl (rvs_rng n.toNat)
        exact p1 _ _ _ (s0.trans s1) s2 s3
      · exact p1.elim
    · exact p1.elim
/-! l.index(x), tuples of ints -/
/-- a statement that is never reached -/
theorem js_never {st : Stmt} : PS X st (tS (ct X) W (fun _ _ => .no)) := PS.mono ps_never fun D σ H ⟨g, ρ, h, rh, rs, p⟩ => p
end
end J
namespace J
open PySem L2
open PyProof.Rows (envOfC)
def eDnew : EF := fun _ h => .ok (.obj h.length) (h ++ [.dT [] []])
theorem j_dnew' {X : Cx} {W : WX} {pos : Pos} : PE X (.Dict [] [] pos) (tE (ct X) W eDnew) := j_dnew
/-! methods and classes of the text -/
structure Dm (K : PySem.W.Frag) (x q : Str) (st : Stmt) (dvs : List V) (kws : List (Str × V)) (f : Addr) (fd : FuncData) : Prop where
  F : FunD K x q (defArgs st) (defBody st) (defScope st) dvs kws f fd
/-- a class: what is read of it -/
structure ClsT (K : PySem.W.Frag) (mg : Str → Option Value) (cn : Str) (C : Addr) : Prop where
  m : mg cn = some (.ref C)
  c : Cls K C
section
variable {P : Program} {w : World} {K : PySem.W.Frag} {mg : Str → Option Value} {base : Heap}
theorem fnokM_of {x q : Str} {st : Stmt} {dvs : List V} {kws : List (Str × V)} {f : Addr} {fd : FuncData} {N ps : List Str} {k n m : Nat} {B : SF} (D : Dm K x q st dvs kws f fd) (S : FnScope N ps (defScope st)) (hn : n = N.length) (hp : ps.length ≤ n) (hm : m = ps.length)
    (hbody : ∀ (cdv : Value) (A : Around) (outer : List Env) (s : Shared) (H : Hp) (E : XK), Room k (A.deeper (envOfC q (defScope st) s.heap.objs.size f cdv)) →
      PSs (cxOf (L2N.CX P w) P w K mg base N q (defScope st) f cdv A outer s H E) (defBody st) (tS ⟨K, mg⟩ (fun a d _ H' => E a d H') B)) :
    FnOk P w K mg base (L2N.CX P w) (k + 1) f fd ps (spF ⟨K, mg⟩ m (fnF n B)) := by
  subst hm
  exact fn_ok D.F S hn hp hbody
/-- all parameters are given -/
theorem okM_of {cn x q : Str} {st : Stmt} {kws : List (Str × V)} {C f : Addr} {fd : FuncData} {ps : List Str} {k m : Nat} {Fm : FF} (T : ClsT K mg cn C) (M : Meth K C x f) (D : Dm K x q st [] kws f fd) (hF : FnOk P w K mg base (L2N.CX P w) k f fd ps (spF ⟨K, mg⟩ m Fm))
    (hb : ∀ (kV doc pm : Value) (an : Option Addr) (cdv ct : Value) (us : List Value), us.length = ps.length → bindArgs (PySem.W.fnOf x q (defArgs st) (defBody st) (defScope st) .none kV doc pm an cdv ct) ⟨us, []⟩ = pure (ps.zip us)) :
    OkM P w K mg base k cn x m [] Fm := ⟨C, f, fd, ps, [], [], T.m, T.c, M, hF, D.F.bindsN hb, .nil, fun _ _ => rfl⟩
/-- .. with defaults (the first j of them given) -/
theorem okCD_of {cn x q : Str} {st : Stmt} {dvs : List V} {C f : Addr} {fd : FuncData} {ps : List Str} {k m : Nat} {Fm : FF} {dws : List VV} (T : ClsT K mg cn C) (M : Mk K C f) (D : Dm K x q st dvs [] f fd) (hF : FnOk P w K mg base (L2N.CX P w) k f fd ps (spF ⟨K, mg⟩ m Fm)) (n j : Nat) (hd : dvs ≠ []) (hn : n + (dvs.length - j) = ps.length)
    (h : ∀ (T : Addr) (kV doc pm : Value) (an : Option Addr) (cdv ct : Value) (us its : List Value), us.length = n → its.length = dvs.length →
      ∃ k, bindArgs (PySem.W.fnOf x q (defArgs st) (defBody st) (defScope st) (.ref T) kV doc pm an cdv ct) ⟨us, []⟩ = seqItems? (.ref T) >>= k ∧ k (some its.toArray) = pure (ps.zip (us ++ its.drop j)))
    (hr : ∀ g H, RTs ⟨K, mg⟩ g H dws (dvs.drop j)) : OkC P w K mg base k cn m dws Fm := by
  obtain ⟨ds, h1, h2⟩ := D.F.binds1 n j hd hn h
  exact ⟨C, f, fd, ps, _, ds, T.m, M, hF, h2, h1, hr⟩
end
theorem fld_of {K : PySem.W.Frag} {mg : Str → Option Value} {cn f : Str} {C : Addr} (T : ClsT K mg cn C) (n : PySem.W.findIn K (.ref C) f = some none) : ∀ C', mg cn = some (.ref C') → Cls K C' ∧ NoAttr K C' f := fun C' e => by
  rw [T.m] at e
  cases e
  exact ⟨T.c, n⟩
end J
namespace J
open PySem L2
/-! evaluation of what J8 to J27 added -/
section
variable {ρ : VSt} {h : VH}
def frzO (o : Option VO) (n : Nat) (h : VH) : Res VV := match o with
  | some (.fl xs) => .ok (.lst xs) (h.set n (.fzn (.lst xs)))
  | some (.fzn w) => .ok w h
  | some (.dT ks vs) => .ok (.dT ks vs) (h.set n (.fzn (.dT ks vs)))
  | some (.dK ks vs) => .ok (.dK ks vs) (h.set n (.fzn (.dK ks vs)))
  | some (.lo xs) => frzR (.obj n) h
  | some (.ins _ _ _) => frzR (.obj n) h
  | none => .no
theorem a_frzD {f} : eFrzD f ρ h = bnd (f ρ h) frzR (tg _) := nr rfl
theorem frzR_obj {n : Nat} : frzR (.obj n) h = frzO (h[n]?) n h := by
  cases e : h[n]? with
  | none => simp only [frzO, frzR, frzV, e]
  | some o => cases o <;> simp only [frzO, frzR, frzV, e]
theorem frzO_fl {xs n} : frzO (some (.fl xs)) n h = .ok (.lst xs) (h.set n (.fzn (.lst xs))) := nr rfl
theorem frzO_fzn {w n} : frzO (some (.fzn w)) n h = .ok w h := nr rfl
theorem frzR_lst {xs} : frzR (.lst xs) h = .ok (.lst xs) h := nr rfl
theorem frzR_tup {xs} : frzR (.tup xs) h = .ok (.tup xs) h := nr rfl
theorem frzR_int {i} : frzR (.int i) h = .ok (.int i) h := nr rfl
theorem a_newO {op a} : eNewO op a ρ h = bnd (a ρ h) (fun v h1 => newO (op h1 v) h1) (tg _) := nr rfl
theorem newO_some {xs} : newO (some xs) h = .ok (.obj h.length) (h ++ [.fl xs]) := nr rfl
theorem lList_lst {xs} : lList h [.lst xs] = some xs := nr rfl
theorem lList_tup {xs} : lList h [.tup xs] = some xs := nr rfl
def lrO (v : VV) (h1 : VH) : Res VV := match v with
  | .int n => if 0 ≤ n ∧ n ≤ SZ then .ok (.obj h1.length) (h1 ++ [.fl (rngV 0 n.toNat)]) else .no
  | _ => .no
theorem a_listRngO {f} : eListRngO f ρ h = bnd (f ρ h) lrO (tg _) := nr rfl
theorem lrO_int {n : Int} : lrO (.int n) h = if 0 ≤ n ∧ n ≤ SZ then .ok (.obj h.length) (h ++ [.fl (rngV 0 n.toNat)]) else .no := nr rfl
theorem a_repO {a b} : eRepO a b ρ h = bnd (a ρ h) (fun v h1 => bnd (b ρ h1) (fun w h2 => newO (repO v w) h2) (tg _)) (tg _) := nr rfl
theorem repO_lst {xs : List VV} {k : Int} : repO (.lst xs) (.int k) = if -(2 ^ 63) ≤ k ∧ k < 2 ^ 63 ∧ xs.length * k.toNat ≤ SZ then some (List.replicate k.toNat xs).flatten else none := nr rfl
def chkL {α : Type} (o : Option (List VV)) (r : Res α) : Res α := match o with
  | none => .no
  | some _ => r
theorem chkL_some {α : Type} {xs : List VV} {r : Res α} : chkL (some xs) r = r := nr rfl
def lstO (o : Option VO) : Option (List VV) := match o with
  | some (.fl xs) => some xs
  | some (.fzn (.lst xs)) => some xs
  | _ => none
theorem lstOf_obj {n : Nat} : lstOf h (.obj n) = lstO (h[n]?) := by
  unfold lstOf lstO
  rfl
theorem lstO_fl {xs} : lstO (some (.fl xs)) = some xs := nr rfl
theorem lstO_fzn {xs} : lstO (some (.fzn (.lst xs))) = some xs := nr rfl
def lstRO (o : Option VO) : Option (List VV) := match o with
  | some (.lo xs) => some xs
  | some (.fl xs) => some xs
  | some (.fzn (.lst xs)) => some xs
  | _ => none
theorem lstR_obj {n : Nat} : lstR h (.obj n) = lstRO (h[n]?) := by
  cases e : h[n]? with
  | none => simp only [lstR, lstRO, lstOf, e]
  | some o =>
    cases o with
    | fzn w => cases w <;> simp only [lstR, lstRO, lstOf, e]
    | _ => simp only [lstR, lstRO, lstOf, e]
theorem lstRO_fl {xs} : lstRO (some (.fl xs)) = some xs := nr rfl
theorem lstRO_lo {xs} : lstRO (some (.lo xs)) = some xs := nr rfl
theorem lstRO_fzn {xs} : lstRO (some (.fzn (.lst xs))) = some xs := nr rfl
def popO (o : Option VO) (n : Nat) (k : Int) (h : VH) : Res VV := match o with
  | some (.fl xs) => if 0 ≤ k ∧ k < xs.length ∧ k < 2 ^ 62 then (match xs[k.toNat]? with
    | some v => .ok v (h.set n (.fl (xs.eraseIdx k.toNat)))
    | none => .no) else .no
  | _ => .no
def popR (h : VH) (ov iv : VV) : Res VV := match popI h ov iv with
  | some (v, h3) => .ok v h3
  | none => .no
theorem a_pop {fo fi} : ePop fo fi ρ h = bnd (fo ρ h) (fun ov h1 => chkL (lstOf h1 ov) (bnd (fi ρ h1) (fun iv h2 => popR h2 ov iv) (tg _))) (tg _) := by
  unfold ePop
  cases fo ρ h with
  | no => rfl
  | exc => rfl
  | ok ov h1 =>
    show (match lstOf h1 ov with
      | none => Res.no
      | some _ => _) = chkL (lstOf h1 ov) _
    cases lstOf h1 ov with
    | none => rfl
    | some _ => rfl
theorem popR_obj {n : Nat} {k : Int} : popR h (.obj n) (.int k) = popO (h[n]?) n k h := by
  cases e : h[n]? with
  | none => simp only [popR, popI, popO, e]
  | some o =>
    cases o with
    | fl xs =>
      simp only [popR, popI, popO, e]
      by_cases c : 0 ≤ k ∧ k < xs.length ∧ k < 2 ^ 62
      · rw [if_pos c, if_pos c]
        cases xs[k.toNat]? <;> rfl
      · rw [if_neg c, if_neg c]
    | _ => simp only [popR, popI, popO, e]
theorem popO_fl {xs : List VV} {n : Nat} {k : Int} {v : VV} (hk : 0 ≤ k) (hl : k < xs.length) (hb : k < 2 ^ 62) (e : xs[k.toNat]? = some v) : popO (some (.fl xs)) n k h = .ok v (h.set n (.fl (xs.eraseIdx k.toNat))) := by
  unfold popO
  simp only [if_pos (And.intro hk (And.intro hl hb)), e]
def appO (o : Option VO) (n : Nat) (h2 : VH) (v : VV) : Res VV := match o with
  | some (.fl xs) => if xs.length ≥ SZ then .no else if v.isObj = true then .ok .non (h2.set n (.lo (xs ++ [v]))) else .ok .non (h2.set n (.fl (xs ++ [v])))
  | some (.lo xs) => if xs.length ≥ SZ then .no else .ok .non (h2.set n (.lo (xs ++ [v])))
  | _ => .no
theorem a_app {o e} : eApp o e ρ h = bnd (o ρ h) (fun ov h1 => chkL (lstR h1 ov) (bnd (e ρ h1) (fun v h2 => appV h2 ov v) (tg _))) (tg _) := by
  unfold eApp
  cases o ρ h with
  | no => rfl
  | exc => rfl
  | ok ov h1 =>
    show (match lstR h1 ov with
      | none => Res.no
      | some _ => _) = chkL (lstR h1 ov) _
    cases lstR h1 ov with
    | none => rfl
    | some _ => rfl
theorem appV_obj {n : Nat} {v : VV} : appV h (.obj n) v = appO (h[n]?) n h v := nr rfl
theorem appO_fl {xs : List VV} {n : Nat} {v : VV} (hl : xs.length < 16777216) (hv : v.isObj = false) : appO (some (.fl xs)) n h v = .ok .non (h.set n (.fl (xs ++ [v]))) := by
  show (if xs.length ≥ 16777216 then _ else _) = _
  rw [if_neg (by omega), if_neg (by rw [hv]; decide)]
def enumI (v : List VV) (h : VH) : Res (List VV) := match v with
  | [.lst xs] => .ok (enum 0 xs) h
  | [.scr xs] => .ok (enum 0 xs) h
  | _ => .no
theorem enumI_lst {xs} : enumI [.lst xs] h = .ok (enum 0 xs) h := nr rfl
theorem s_augI {o i e} : sAugI o i e ρ h = sbd (o ρ h) ρ (fun ov h1 => sbd (i ρ h1) ρ (fun iv h2 => augV e ρ ov iv h2) (tg _)) (tg _) := nr rfl
def augO (fe : EF) (ρ : VSt) (n : Nat) (k : Int) (o : Option VV) (h2 : VH) : SR := match o with
  | some (.int a) => sbd (fe ρ h2) ρ (fun v h3 => match v with
    | .int b => onh (setI h3 (.obj n) (.int k) (.int (a + b))) ρ
    | _ => .no) (tg _)
  | _ => .no
theorem augV_obj {fe n} {k : Int} : augV fe ρ (.obj n) (.int k) h = augO fe ρ n k (opIx h (.obj n) (.int k)) h := by
  unfold augV augO
  rw [if_pos (show (VV.obj n).isObj = true from rfl)]
  rfl
theorem augO_int {fe n} {k a : Int} : augO fe ρ n k (some (.int a)) h = sbd (fe ρ h) ρ (fun v h3 => match v with
    | .int b => onh (setI h3 (.obj n) (.int k) (.int (a + b))) ρ
    | _ => .no) (tg _) := rfl
theorem s_setD {o i e} : sSetD o i e ρ h = sbd (e ρ h) ρ (fun v h1 => sbd (o ρ h1) ρ (fun ov h2 => sbd (i ρ h2) ρ (fun iv h3 => onh (setD h3 ov iv v) ρ) (tg _)) (tg _)) (tg _) := nr rfl
theorem a_dnew : eDnew ρ h = .ok (.obj h.length) (h ++ [.dT [] []]) := nr rfl
def fldR (cn f : Str) (o : Option (Str × List Str × List VV)) (h : VH) : Res VV := match o with
  | some a => if a.1 = cn then lift (lookN a.2.1 a.2.2 f) h else .no
  | none => .no
theorem a_fld {cn f fe} : eFld cn f fe ρ h = bnd (fe ρ h) (fun v h1 => fldR cn f (insOf h1 v) h1) (tg _) := nr rfl
def insO (o : Option VO) : Option (Str × List Str × List VV) := match o with
  | some (.ins c ns vs) => some (c, ns, vs)
  | some (.fzn (.ins c ns vs)) => some (c, ns, vs)
  | _ => none
theorem insOf_obj {n : Nat} : insOf h (.obj n) = insO (h[n]?) := by
  unfold insOf insO
  rfl
theorem insO_ins {c ns vs} : insO (some (.ins c ns vs)) = some (c, ns, vs) := nr rfl
theorem insOf_ins {c ns vs} : insOf h (.ins c ns vs) = some (c, ns, vs) := nr rfl
def methC (cn m : Str) (o : Option (Str × List Str × List VV)) (r : Res VV) : Res VV := match o with
  | some a => if a.1 = cn ∧ lookN a.2.1 a.2.2 m = none then r else .no
  | none => .no
theorem a_meth {cn m n F dws fo fa} : eMeth cn m n F dws fo fa ρ h = bnd (fo ρ h) (fun v h1 => methC cn m (insOf h1 v) (bnd (fa ρ h1) (fun vs h2 => if (v :: (vs ++ dws)).length = n then noX (F (v :: (vs ++ dws)) h2) else .no) (tg _))) (tg _) := by
  unfold eMeth
  cases fo ρ h with
  | no => rfl
  | exc => rfl
  | ok v h1 =>
    show (match insOf h1 v with
      | some a => _
      | none => Res.no) = methC cn m (insOf h1 v) _
    cases insOf h1 v with
    | none => rfl
    | some _ => rfl
theorem noX_ok {α : Type} {a : α} : noX (.ok a h) = .ok a h := nr rfl
theorem a_make {cn n F dws fa} : eMakeZ cn n F dws fa ρ h = bnd (fa ρ h) (fun vs h1 => if (VV.obj h1.length :: (vs ++ dws)).length = n then mkZ h1.length (F (.obj h1.length :: (vs ++ dws)) (h1 ++ [.ins cn [] []])) else .no) (tg _) := nr rfl
theorem s_fldS {cn f fo fe} : sFldS cn f fo fe ρ h = sbd (fe ρ h) ρ (fun v h1 => sbd (fo ρ h1) ρ (fun ov h2 => onh (setF h2 cn f ov v) ρ) (tg _)) (tg _) := nr rfl
def setFO (o : Option VO) (n : Nat) (h : VH) (cn f : Str) (v : VV) : Option VH := match o with
  | some (.ins c ns vs) => if c = cn ∧ ns.length < 1000 then some (h.set n (.ins c (putN ns f) (putW ns vs f v))) else none
  | _ => none
theorem setF_obj {n : Nat} {cn f v} : setF h cn f (.obj n) v = setFO (h[n]?) n h cn f v := nr rfl
theorem a_aApp {n m a b} : aApp n m a b ρ h = bnd (a ρ h) (fun vs h1 => bnd (b ρ h1) (fun ws h2 => if vs.length = n ∧ ws.length = m then .ok (vs ++ ws) h2 else .no) (tg _)) (tg _) := nr rfl
def afterR (r : Res (List VV)) : Res VV := match r with
  | .ok vs h2 => .ok (.obj h2.length) (h2 ++ [.lo vs])
  | _ => .no
theorem afterR_ok {vs : List VV} : afterR (.ok vs h) = .ok (.obj h.length) (h ++ [.lo vs]) := nr rfl
theorem a_lcR {own it b t e} : eLcR own it b t e ρ h = bnd (it ρ h) (fun xs h1 => if xs.length > SZ then .no else afterR (lcGoR b t e (wp ρ own) xs h1)) (tg _) := nr rfl
theorem a_lenSc {own it b fe} : eLenSc own it b fe ρ h = bnd (it ρ h) (fun xs h1 => bnd (noX (accGo b (stSet fe) (wp ρ own) xs h1 [])) (fun a h2 => .ok (.int a.length) h2) (tg _)) (tg _) := nr rfl
theorem a_dc2 {own it b it1 b1 vs1 fk fv} : eDc2 own it b it1 b1 vs1 fk fv ρ h = bnd (it ρ h) (fun xs h1 => bnd (noX (accGo b (stIn it1 b1 vs1 (stDict fk fv)) (wp ρ own) xs h1 ([], []))) (fun a h2 => .ok (.dT a.1 a.2) h2) (tg _)) (tg _) := nr rfl
theorem a_enum {f} : iEnum f ρ h = bnd (f ρ h) enumI (tg _) := nr rfl
end
/-! loops -/
section
variable {α : Type}
theorem lc_map {b : VV → VSt → Option VSt} {t : TF} {e : EF} {ρ : VSt} {h : VH} (f g : α → VV) {ys : List α} (hy : ∀ y ∈ ys, ∃ ρ', b (f y) ρ = some ρ' ∧ t ρ' h = .ok true h ∧ e ρ' h = .ok (g y) h ∧ (g y).isObj = false) : lcGo b t e ρ (ys.map f) h = .ok (ys.map g) h := by
  induction ys with
  | nil => rfl
  | cons y ys ih =>
    obtain ⟨ρ', h1, h2, h3, h4⟩ := hy y List.mem_cons_self
    rw [List.map_cons, lcGo, h1]
    simp only [h2, bind_ok, h3, h4, Bool.false_eq_true, if_false, if_true, ih fun z hz => hy z (List.mem_cons_of_mem _ hz), List.map_cons]
theorem lc_mapF {b : VV → VSt → Option VSt} {t : TF} {e : EF} {ρ : VSt} {h : VH} (f : α → VV) (p : α → Bool) (g : α → VV) {ys : List α} (hy : ∀ y ∈ ys, ∃ ρ', b (f y) ρ = some ρ' ∧ t ρ' h = .ok (p y) h ∧ (p y = true → e ρ' h = .ok (g y) h ∧ (g y).isObj = false)) : lcGo b t e ρ (ys.map f) h = .ok ((ys.filter p).map g) h := by
  induction ys with
  | nil => rfl
  | cons y ys ih =>
    obtain ⟨ρ', h1, h2, h3⟩ := hy y List.mem_cons_self
    have ih := ih fun z hz => hy z (List.mem_cons_of_mem _ hz)
    rw [List.map_cons, lcGo, h1]
    cases hp : p y with
    | false => simp only [h2, hp, bind_ok, Bool.false_eq_true, if_false, ih, List.filter_cons]
    | true =>
      obtain ⟨h4, h5⟩ := h3 hp
      simp only [h2, hp, bind_ok, h4, h5, Bool.false_eq_true, if_false, if_true, ih, List.filter_cons, List.map_cons]
/-- elements that draw, typed -/
theorem lc_draw {β : Type} {b : VV → VSt → Option VSt} {t : TF} {e : EF} {ρ : VSt} (f : α → VV) (g : β → VV) (I : VH → Prop) (P : β → Prop) : ∀ {ys : List α} {h : VH}, I h → (∀ y ∈ ys, ∀ h, I h → ∃ ρ' v h', b (f y) ρ = some ρ' ∧ t ρ' h = .ok true h ∧ e ρ' h = .ok (g v) h' ∧ (g v).isObj = false ∧ I h' ∧ P v) →
    ∃ (vs : List β) (h' : VH), lcGo b t e ρ (ys.map f) h = .ok (vs.map g) h' ∧ I h' ∧ vs.length = ys.length ∧ ∀ v ∈ vs, P v
  | [], h, hi, _ => ⟨[], h, rfl, hi, rfl, fun v hv => by simp at hv⟩
  | y :: ys, h, hi, hx => by
    obtain ⟨ρ', v, h1, e1, e2, e3, e4, hi1, hp⟩ := hx y List.mem_cons_self h hi
    obtain ⟨vs, h2, e5, hi2, hl, hps⟩ := lc_draw f g I P (ys := ys) hi1 fun z hz => hx z (List.mem_cons_of_mem _ hz)
    refine ⟨v :: vs, h2, ?_, hi2, by simp [hl], fun w hw => ?_⟩
    · rw [List.map_cons, lcGo, e1]
      simp only [e2, bind_ok, e3, e4, Bool.false_eq_true, if_false, if_true, e5, List.map_cons]
    · rcases List.mem_cons.mp hw with rfl | hw
      · exact hp
      · exact hps w hw
/-- a loop by what holds behind each first part of the items -/
theorem for_pre {b : VV → VSt → Option VSt} {body : SF} (f : α → VV) (I : List α → VSt → VH → Prop) (ys : List α) {ρ : VSt} {h : VH} (h0 : I [] ρ h)
    (hs : ∀ pre y post, ys = pre ++ y :: post → ∀ ρ h, I pre ρ h → ∃ ρ' ρ2 h2, b (f y) ρ = some ρ' ∧ body ρ' h = .nx ρ2 h2 ∧ I (pre ++ [y]) ρ2 h2) : ∃ ρ2 h2, forGo b body (ys.map f) ρ h = .nx ρ2 h2 ∧ I ys ρ2 h2 := by
  have key : ∀ (post pre : List α), ys = pre ++ post → ∀ ρ h, I pre ρ h → ∃ ρ2 h2, forGo b body (post.map f) ρ h = .nx ρ2 h2 ∧ I ys ρ2 h2 := by
    intro post
    induction post with
    | nil =>
      intro pre e ρ h hi
      rw [List.append_nil] at e
      subst e
      exact ⟨ρ, h, for_nil, hi⟩
    | cons y post ih =>
      intro pre e ρ h hi
      obtain ⟨ρ', ρ2, h2, e1, e2, hi2⟩ := hs pre y post e ρ h hi
      obtain ⟨ρ3, h3, e3, hi3⟩ := ih (pre ++ [y]) (by rw [e]; simp) ρ2 h2 hi2
      refine ⟨ρ3, h3, ?_, hi3⟩
      rw [List.map_cons, for_cons, e1, obd_some, e2, trn_nx, e3]
  exact key ys [] rfl ρ h h0
theorem acc_pre {β : Type} {b : VV → VSt → Option VSt} {stp : VSt → VH → β → Res β} {ρ : VSt} {h : VH} (f : α → VV) (st : List α → β) (ys : List α)
    (hs : ∀ pre y post, ys = pre ++ y :: post → ∃ ρ', b (f y) ρ = some ρ' ∧ stp ρ' h (st pre) = .ok (st (pre ++ [y])) h) : accGo b stp ρ (ys.map f) h (st []) = .ok (st ys) h := by
  have key : ∀ (post pre : List α), ys = pre ++ post → accGo b stp ρ (post.map f) h (st pre) = .ok (st ys) h := by
    intro post
    induction post with
    | nil =>
      intro pre e
      rw [List.append_nil] at e
      subst e
      rfl
    | cons y post ih =>
      intro pre e
      obtain ⟨ρ', e1, e2⟩ := hs pre y post e
      rw [List.map_cons, accGo, e1]
      simp only [e2, bind_ok]
      exact ih (pre ++ [y]) (by rw [e]; simp)
  exact key ys [] rfl
end
end J
namespace M
open J
/-! sorted lists of ints -/
def leI (a b : Int) : Bool := decide (a ≤ b)
def isort (l : List Int) : List Int := l.mergeSort leI
theorem leI_trans (a b c : Int) (h1 : leI a b = true) (h2 : leI b c = true) : leI a c = true := by
  unfold leI at *; simp only [decide_eq_true_eq] at *; omega
theorem leI_total (a b : Int) : (leI a b || leI b a) = true := by
  unfold leI; simp only [Bool.or_eq_true, decide_eq_true_eq]; omega
theorem isort_perm (l : List Int) : (isort l).Perm l := List.mergeSort_perm l leI
theorem isort_pw (l : List Int) : (isort l).Pairwise (fun a b => a ≤ b) := by
  have := List.pairwise_mergeSort (le := leI) leI_trans leI_total l
  exact this.imp fun h => by unfold leI at h; simpa using h
theorem isort_len (l : List Int) : (isort l).length = l.length := (isort_perm l).length_eq
theorem isort_mem {l : List Int} {a : Int} : a ∈ isort l ↔ a ∈ l := (isort_perm l).mem_iff
theorem sort_uniq {l m : List Int} (h1 : l.Pairwise (fun a b => a ≤ b)) (h2 : m.Pairwise (fun a b => a ≤ b)) (p : l.Perm m) : l = m :=
  List.Perm.eq_of_pairwise (le := fun a b => a ≤ b) (fun a b _ _ h1 h2 => Int.le_antisymm h1 h2) h1 h2 p
theorem isort_eq {l m : List Int} (h : l.Pairwise (fun a b => a ≤ b)) (p : l.Perm m) : isort m = l :=
  sort_uniq (isort_pw m) h ((isort_perm m).trans p.symm)
theorem isort_id {l : List Int} (h : l.Pairwise (fun a b => a ≤ b)) : isort l = l := isort_eq h (List.Perm.refl l)
/-- strictly growing -/
abbrev Inc (l : List Int) : Prop := l.Pairwise (fun a b => a < b)
theorem Inc.le {l : List Int} (h : Inc l) : l.Pairwise (fun a b => a ≤ b) := h.imp fun h => Int.le_of_lt h
theorem Inc.nodup {l : List Int} (h : Inc l) : l.Nodup := List.nodup_iff_pairwise_ne.mpr (h.imp fun h => by omega)
theorem inc_of {l : List Int} (h : l.Pairwise (fun a b => a ≤ b)) (n : l.Nodup) : Inc l := by
  have := (List.nodup_iff_pairwise_ne.mp n).and h
  exact this.imp fun h => by omega
theorem inc_isort {l : List Int} (n : l.Nodup) : Inc (isort l) := inc_of (isort_pw l) ((isort_perm l).nodup_iff.mpr n)
theorem Inc.sub {l m : List Int} (h : Inc m) (s : l.Sublist m) : Inc l := List.Pairwise.sublist s h
/-- of growing lists: the lesser one lies in the greater one -/
theorem inc_sublist : ∀ {l m : List Int}, Inc l → Inc m → (∀ x ∈ l, x ∈ m) → l.Sublist m
  | [], m, _, _, _ => List.nil_sublist _
  | x :: l, [], _, _, h => by simpa using h x List.mem_cons_self
  | x :: l, y :: m, h1, h2, h => by
    have h1' := List.pairwise_cons.mp h1
    have h2' := List.pairwise_cons.mp h2
    by_cases e : x = y
    · subst e
      refine (inc_sublist h1'.2 h2'.2 fun z hz => ?_).cons_cons x
      rcases List.mem_cons.mp (h z (List.mem_cons_of_mem _ hz)) with e | hm
      · have := h1'.1 z hz; omega
      · exact hm
    · refine (inc_sublist h1 h2'.2 fun z hz => ?_).cons y
      rcases List.mem_cons.mp (h z hz) with rfl | hm
      · rcases List.mem_cons.mp hz with rfl | hz'
        · exact absurd rfl e
        · have a1 := h1'.1 z hz'
          rcases List.mem_cons.mp (h x List.mem_cons_self) with e2 | hx
          · exact absurd e2 e
          · have := h2'.1 x hx; omega
      · exact hm
/-! all parts of a list -/
def allS (l : List Int) : List (List Int) := l.foldl (fun acc p => acc ++ acc.map (fun s => s ++ [p])) [[]]
def subs (l : List Int) : List (List Int) := (allS l).drop 1
theorem foldl_all (f : List Int) : ∀ acc : List (List Int), ∀ s, s ∈ f.foldl (fun acc p => acc ++ acc.map (fun s => s ++ [p])) acc ↔ ∃ a ∈ acc, ∃ t, t.Sublist f ∧ s = a ++ t := by
  induction f with
  | nil =>
    intro acc s
    simp only [List.foldl_nil]
    constructor
    · exact fun h => ⟨s, h, [], .slnil, by simp⟩
    · rintro ⟨a, ha, t, ht, rfl⟩
      have : t = [] := List.sublist_nil.mp ht
      subst this
      simpa using ha
  | cons p f ih =>
    intro acc s
    rw [List.foldl_cons, ih]
    constructor
    · rintro ⟨a, ha, t, ht, rfl⟩
      rcases List.mem_append.mp ha with ha | ha
      · exact ⟨a, ha, t, ht.cons p, rfl⟩
      · obtain ⟨b, hb, rfl⟩ := List.mem_map.mp ha
        exact ⟨b, hb, p :: t, ht.cons_cons p, by simp⟩
    · rintro ⟨a, ha, t, ht, rfl⟩
      cases ht with
      | cons _ h => exact ⟨a, List.mem_append_left _ ha, t, h, rfl⟩
      | cons_cons _ h => exact ⟨a ++ [p], List.mem_append_right _ (List.mem_map.mpr ⟨a, ha, rfl⟩), _, h, by simp⟩
theorem mem_allS {l s : List Int} : s ∈ allS l ↔ s.Sublist l := by
  unfold allS
  rw [foldl_all]
  constructor
  · rintro ⟨a, ha, t, ht, rfl⟩
    rw [List.mem_singleton] at ha
    subst ha
    simpa using ht
  · exact fun h => ⟨[], by simp, s, h, by simp⟩
theorem foldl_len (f : List Int) : ∀ acc : List (List Int), (f.foldl (fun acc p => acc ++ acc.map (fun s => s ++ [p])) acc).length = acc.length * 2 ^ f.length := by
  induction f with
  | nil => intro acc; simp
  | cons p f ih =>
    intro acc
    rw [List.foldl_cons, ih, List.length_append, List.length_map, List.length_cons, Nat.pow_succ]
    rw [← Nat.two_mul, Nat.mul_assoc, Nat.mul_left_comm, Nat.mul_comm 2]
theorem allS_len (l : List Int) : (allS l).length = 2 ^ l.length := by
  unfold allS; rw [foldl_len]; simp
theorem foldl_head (f : List Int) : ∀ acc : List (List Int), (∃ r, acc = [] :: r ∧ ∀ s ∈ r, s ≠ []) → ∃ r, f.foldl (fun acc p => acc ++ acc.map (fun s => s ++ [p])) acc = [] :: r ∧ ∀ s ∈ r, s ≠ [] := by
  induction f with
  | nil => intro acc h; exact h
  | cons p f ih =>
    rintro acc ⟨r, rfl, hr⟩
    rw [List.foldl_cons]
    refine ih _ ⟨r ++ ([] :: r).map (fun s => s ++ [p]), rfl, fun s hs => ?_⟩
    rcases List.mem_append.mp hs with h | h
    · exact hr s h
    · obtain ⟨b, _, rfl⟩ := List.mem_map.mp h
      simp
theorem allS_head (l : List Int) : ∃ r, allS l = [] :: r ∧ ∀ s ∈ r, s ≠ [] := foldl_head l [[]] ⟨[], rfl, by simp⟩
theorem mem_subs {l s : List Int} : s ∈ subs l ↔ s.Sublist l ∧ s ≠ [] := by
  obtain ⟨r, e, hr⟩ := allS_head l
  unfold subs
  rw [e, List.drop_succ_cons, List.drop_zero]
  constructor
  · exact fun h => ⟨mem_allS.mp (by rw [e]; exact List.mem_cons_of_mem _ h), hr s h⟩
  · rintro ⟨h1, h2⟩
    have := mem_allS.mpr h1
    rw [e] at this
    rcases List.mem_cons.mp this with h | h
    · exact absurd h h2
    · exact h
theorem subs_len {l : List Int} : (subs l).length + 1 = 2 ^ l.length := by
  obtain ⟨r, e, hr⟩ := allS_head l
  have := allS_len l
  unfold subs
  rw [e] at this ⊢
  simpa using this
/-! faces -/
/-- points told in any order -/
structure Pts (f : List Int) : Prop where
  nd : f.Nodup
  pos : f ≠ []
  le : f.length ≤ 4
  rng : ∀ p ∈ f, 0 ≤ p ∧ p ≤ 15
/-- a face: growing -/
structure Face (f : List Int) : Prop where
  inc : Inc f
  pos : f ≠ []
  le : f.length ≤ 4
  rng : ∀ p ∈ f, 0 ≤ p ∧ p ≤ 15
theorem Face.pts {f : List Int} (h : Face f) : Pts f := ⟨h.inc.nodup, h.pos, h.le, h.rng⟩
theorem Pts.face {f : List Int} (h : Pts f) : Face (isort f) := ⟨inc_isort h.nd, fun e => h.pos (by have := isort_len f; rw [e] at this; exact List.length_eq_zero_iff.mp this.symm), by rw [isort_len]; exact h.le, fun p hp => h.rng p (isort_mem.mp hp)⟩
theorem Face.srt {f : List Int} (h : Face f) : isort f = f := isort_id h.inc.le
theorem Face.sub {f s : List Int} (h : Face f) (hs : s.Sublist f) (n : s ≠ []) : Face s := ⟨h.inc.sub hs, n, Nat.le_trans hs.length_le h.le, fun p hp => h.rng p (hs.subset hp)⟩
/-! lists of faces, in order -/
def fsort (l : List (List Int)) : List (List Int) := l.mergeSort leL
theorem fsort_perm (l : List (List Int)) : (fsort l).Perm l := List.mergeSort_perm l leL
theorem fsort_pw (l : List (List Int)) : (fsort l).Pairwise (fun a b => leL a b = true) := List.pairwise_mergeSort leL_trans leL_total l
theorem fsort_uniq {l m : List (List Int)} (h1 : l.Pairwise (fun a b => leL a b = true)) (h2 : m.Pairwise (fun a b => leL a b = true)) (p : l.Perm m) : l = m :=
  List.Perm.eq_of_pairwise (le := fun a b => leL a b = true) (fun a b _ _ h1 h2 => leL_anti h1 h2) h1 h2 p
theorem fsort_eq {l m : List (List Int)} (p : l.Perm m) : fsort l = fsort m := sort_perm p
/-- the faces of faces, each once, in order -/
def parts (fs : List (List Int)) : List (List Int) := fs.flatMap fun f => subs (isort f)
def clo (fs : List (List Int)) : List (List Int) := fsort (parts fs).eraseDups
theorem mem_parts {fs : List (List Int)} {s : List Int} : s ∈ parts fs ↔ ∃ f ∈ fs, s.Sublist (isort f) ∧ s ≠ [] := by
  unfold parts
  rw [List.mem_flatMap]
  exact ⟨fun ⟨f, h1, h2⟩ => ⟨f, h1, mem_subs.mp h2⟩, fun ⟨f, h1, h2⟩ => ⟨f, h1, mem_subs.mpr h2⟩⟩
theorem mem_clo {fs : List (List Int)} {s : List Int} : s ∈ clo fs ↔ ∃ f ∈ fs, s.Sublist (isort f) ∧ s ≠ [] := by
  unfold clo
  rw [(fsort_perm _).mem_iff, List.mem_eraseDups, mem_parts]
theorem clo_nodup (fs : List (List Int)) : (clo fs).Nodup := (fsort_perm _).nodup_iff.mpr (nodup_eraseDups _)
theorem clo_pw (fs : List (List Int)) : (clo fs).Pairwise (fun a b => leL a b = true) := fsort_pw _
/-- a web's faces -/
structure WebF (E : List (List Int)) : Prop where
  face : ∀ f ∈ E, Face f
  nd : E.Nodup
  pw : E.Pairwise (fun a b => leL a b = true)
  down : ∀ f ∈ E, ∀ s, s.Sublist f → s ≠ [] → s ∈ E
theorem webf_clo {fs : List (List Int)} (h : ∀ f ∈ fs, Pts f) : WebF (clo fs) where
  face f hf := by
    obtain ⟨t, ht, s, n⟩ := mem_clo.mp hf
    exact (h t ht).face.sub s n
  nd := clo_nodup fs
  pw := clo_pw fs
  down f hf s hs n := by
    obtain ⟨t, ht, s', n'⟩ := mem_clo.mp hf
    exact mem_clo.mpr ⟨t, ht, hs.trans s', n⟩
theorem nodup_perm {l m : List (List Int)} (h1 : l.Nodup) (h2 : m.Nodup) (h : ∀ x, x ∈ l ↔ x ∈ m) : l.Perm m := by
  rw [List.perm_iff_count]
  intro a
  by_cases ha : a ∈ l
  · rw [h1.count, h2.count, if_pos ha, if_pos ((h a).mp ha)]
  · rw [List.count_eq_zero_of_not_mem ha, List.count_eq_zero_of_not_mem (fun z => ha ((h a).mpr z))]
/-! few faces -/
def Few (fs : List (List Int)) : Prop := ∃ D : List (List Int), D.length < 61 ∧ ∀ s ∈ parts fs, s ∈ D
theorem Few.low {fs : List (List Int)} (h : Few fs) : (parts fs).eraseDups.length < 61 := by
  obtain ⟨D, hl, hD⟩ := h
  exact Nat.lt_of_le_of_lt (few_of (nodup_eraseDups _) fun x hx => hD x (List.mem_eraseDups.mp hx)) hl
theorem Few.len {fs : List (List Int)} (h : Few fs) : (parts fs).eraseDups.length < 76 := Nat.lt_trans h.low (by decide)
theorem Few.clo_low {fs : List (List Int)} (h : Few fs) : (clo fs).length < 61 := by
  unfold clo; rw [(fsort_perm _).length_eq]; exact h.low
/-- faces among at most six points -/
theorem few_six {p : List Int} {fs : List (List Int)} (nd : p.Nodup) (hl : p.length ≤ 6) (h : ∀ f ∈ fs, f.Nodup ∧ f.length ≤ 4 ∧ ∀ x ∈ f, x ∈ p) : Few fs := by
  refine ⟨(subs (isort p)).filter (fun s => decide (s.length ≤ 4)), ?_, fun s hs => ?_⟩
  · have hl' : (isort p).length ≤ 6 := by rw [isort_len]; exact hl
    generalize isort p = q at hl'
    match q, hl' with
    | [], _ => decide
    | [a], _ => exact (by decide : 1 < 61)
    | [a, b], _ => exact (by decide : 3 < 61)
    | [a, b, c], _ => exact (by decide : 7 < 61)
    | [a, b, c, d], _ => exact (by decide : 15 < 61)
    | [a, b, c, d, e], _ => exact (by decide : 30 < 61)
    | [a, b, c, d, e, f], _ => exact (by decide : 56 < 61)
  · obtain ⟨f, hf, s1, n⟩ := mem_parts.mp hs
    obtain ⟨h1, h2, h3⟩ := h f hf
    refine List.mem_filter.mpr ⟨mem_subs.mpr ⟨inc_sublist ((inc_isort h1).sub s1) (inc_isort nd) fun x hx => isort_mem.mpr (h3 x (isort_mem.mp (s1.subset hx))), n⟩, ?_⟩
    rw [decide_eq_true_eq]
    have := s1.length_le
    rw [isort_len] at this
    omega
/-! faces told by places -/
def pick (p : List Int) (ix : List Nat) : List Int := ix.map fun i => p.getD i 0
def nins (x : Nat) : List Nat → List Nat
  | [] => [x]
  | y :: l => if x ≤ y then x :: y :: l else y :: nins x l
theorem nins_perm (x : Nat) : ∀ l : List Nat, (nins x l).Perm (x :: l)
  | [] => List.Perm.refl _
  | y :: l => by
    unfold nins
    split
    · exact List.Perm.refl _
    · exact ((nins_perm x l).cons y).trans (List.Perm.swap x y l)
def nsort : List Nat → List Nat
  | [] => []
  | x :: l => nins x (nsort l)
theorem nsort_perm : ∀ l : List Nat, (nsort l).Perm l
  | [] => List.Perm.refl _
  | x :: l => (nins_perm x _).trans ((nsort_perm l).cons x)
def allN (l : List Nat) : List (List Nat) := l.foldr (fun x acc => acc ++ acc.map (fun s => x :: s)) [[]]
theorem mem_allN : ∀ {l s : List Nat}, s.Sublist l → s ∈ allN l
  | [], s, h => by rw [List.sublist_nil.mp h]; exact List.mem_singleton.mpr rfl
  | x :: l, s, h => by
    show s ∈ allN l ++ (allN l).map (fun s => x :: s)
    cases h with
    | cons _ h => exact List.mem_append_left _ (mem_allN h)
    | cons_cons _ h => exact List.mem_append_right _ (List.mem_map.mpr ⟨_, mem_allN h, rfl⟩)
theorem few_places {p : List Int} (ixs D : List (List Nat)) (hD : D.length < 61) (h : (ixs.all fun ix => (allN ix).all fun j => j.isEmpty || D.contains (nsort j)) = true) : Few (ixs.map (pick p)) := by
  refine ⟨D.map fun j => isort (pick p j), by rw [List.length_map]; exact hD, fun s hs => ?_⟩
  obtain ⟨f, hf, s1, n⟩ := mem_parts.mp hs
  obtain ⟨ix, hix, rfl⟩ := List.mem_map.mp hf
  obtain ⟨t, pt, st⟩ := List.exists_perm_sublist s1 (isort_perm (pick p ix))
  obtain ⟨j, hj, rfl⟩ := List.sublist_map_iff.mp st
  have hs' : isort (pick p j) = s := isort_eq (List.Pairwise.sublist s1 (isort_pw _)) pt.symm
  have h1 := List.all_eq_true.mp (List.all_eq_true.mp h ix hix) j (mem_allN hj)
  rw [Bool.or_eq_true] at h1
  rcases h1 with h1 | h1
  · have : j = [] := List.isEmpty_iff.mp h1
    subst this
    exact absurd (List.Perm.eq_nil pt.symm) n
  · rw [List.contains_iff_mem] at h1
    refine List.mem_map.mpr ⟨nsort j, h1, ?_⟩
    rw [← hs']
    exact isort_eq (isort_pw _) ((isort_perm _).trans ((nsort_perm j).map _).symm)
end M
namespace M
open J PySem L2
/-! each thing once, in the order in which they come -/
section
variable {α : Type} [DecidableEq α]
def dd (l : List α) : List α := l.foldl (fun a x => if x ∈ a then a else a ++ [x]) []
theorem dd_snoc (l : List α) (x : α) : dd (l ++ [x]) = if x ∈ dd l then dd l else dd l ++ [x] := by
  unfold dd; rw [List.foldl_append]; rfl
theorem dd_gen (l : List α) : ∀ acc : List α, (∀ x, x ∈ l.foldl (fun a x => if x ∈ a then a else a ++ [x]) acc ↔ x ∈ acc ∨ x ∈ l) ∧ (acc.Nodup → (l.foldl (fun a x => if x ∈ a then a else a ++ [x]) acc).Nodup)
    ∧ (l.foldl (fun a x => if x ∈ a then a else a ++ [x]) acc).length ≤ acc.length + l.length ∧ ((l.foldl (fun a x => if x ∈ a then a else a ++ [x]) acc).length = acc.length + l.length ↔ l.Nodup ∧ ∀ y ∈ l, y ∉ acc) := by
  induction l with
  | nil => intro acc; simp
  | cons y l ih =>
    intro acc
    rw [List.foldl_cons]
    by_cases hy : y ∈ acc
    · rw [if_pos hy]
      obtain ⟨i1, i2, i3, i4⟩ := ih acc
      refine ⟨fun x => ?_, i2, by rw [List.length_cons]; omega, ?_⟩
      · rw [i1]
        constructor
        · rintro (h | h)
          · exact .inl h
          · exact .inr (List.mem_cons_of_mem _ h)
        · rintro (h | h)
          · exact .inl h
          · rcases List.mem_cons.mp h with rfl | h
            · exact .inl hy
            · exact .inr h
      · rw [List.length_cons]
        constructor
        · intro h; omega
        · rintro ⟨_, h⟩
          exact absurd hy (h y List.mem_cons_self)
    · rw [if_neg hy]
      obtain ⟨i1, i2, i3, i4⟩ := ih (acc ++ [y])
      rw [List.length_append, List.length_singleton] at i3 i4
      refine ⟨fun x => ?_, fun hn => i2 ?_, by rw [List.length_cons]; omega, ?_⟩
      · rw [i1, List.mem_append, List.mem_singleton, List.mem_cons, or_assoc]
      · rw [List.nodup_append]
        exact ⟨hn, by simp, fun a ha b hb => by rw [List.mem_singleton] at hb; subst hb; exact fun e => hy (e ▸ ha)⟩
      · rw [List.length_cons, show acc.length + (l.length + 1) = acc.length + 1 + l.length by omega, i4, List.nodup_cons]
        constructor
        · rintro ⟨h1, h2⟩
          refine ⟨⟨fun h => h2 y h (by simp), h1⟩, fun z hz => ?_⟩
          rcases List.mem_cons.mp hz with rfl | hz
          · exact hy
          · exact fun h => h2 z hz (List.mem_append_left _ h)
        · rintro ⟨⟨h1, h2⟩, h3⟩
          refine ⟨h2, fun z hz h => ?_⟩
          rcases List.mem_append.mp h with h | h
          · exact h3 z (List.mem_cons_of_mem _ hz) h
          · rw [List.mem_singleton] at h
            subst h
            exact h1 hz
theorem mem_dd {l : List α} {x : α} : x ∈ dd l ↔ x ∈ l := by
  have := (dd_gen l []).1 x
  unfold dd; rw [this]; simp
theorem dd_nodup (l : List α) : (dd l).Nodup := (dd_gen l []).2.1 (by simp)
theorem dd_le (l : List α) : (dd l).length ≤ l.length := by
  have := (dd_gen l []).2.2.1
  unfold dd; simpa using this
theorem dd_lt (l : List α) : decide ((dd l).length < l.length) = !decide l.Nodup := by
  have h1 := (dd_gen l []).2.2.1
  have h2 := (dd_gen l []).2.2.2
  simp only [List.length_nil, Nat.zero_add, List.not_mem_nil, not_false_iff, implies_true, and_true] at h1 h2
  unfold dd
  by_cases hn : l.Nodup
  · rw [h2.mpr hn]; simp [hn]
  · have : ¬ (l.foldl (fun a x => if x ∈ a then a else a ++ [x]) []).length = l.length := fun e => hn (h2.mp e)
    rw [decide_eq_true (by omega), decide_eq_false hn]; rfl
end
theorem fsort_dd (l : List (List Int)) : fsort (dd l) = fsort l.eraseDups :=
  fsort_eq (nodup_perm (dd_nodup l) (nodup_eraseDups l) fun x => by rw [mem_dd, List.mem_eraseDups])
theorem dd_len (l : List (List Int)) : (dd l).length = l.eraseDups.length :=
  (nodup_perm (dd_nodup l) (nodup_eraseDups l) fun x => by rw [mem_dd, List.mem_eraseDups]).length_eq
/-! dict keys -/
def keyI (k : List Int) : List Key := k.map Sum.inl
theorem keyI_inj : ∀ {k l : List Int}, keyI k = keyI l → k = l
  | [], [], _ => rfl
  | [], _ :: _, h => by cases h
  | _ :: _, [], h => by cases h
  | x :: k, y :: l, h => by
    have h' : Sum.inl x :: keyI k = (Sum.inl y : Key) :: keyI l := h
    injection h' with h1 h2
    rw [Sum.inl.inj h1, keyI_inj h2]
theorem keyL_ints : ∀ k : List Int, keyL (k.map VV.int) = some (keyI k)
  | [] => rfl
  | x :: k => by rw [List.map_cons, keyL, keyL_ints k]; rfl
theorem keyV_tupI (k : List Int) : keyV (tupI k) = some (keyI k) := keyL_ints k
theorem hasK_map (ks : List (List Int)) (k : List Int) : hasK (ks.map keyI) (keyI k) = decide (k ∈ ks) := by
  unfold hasK
  rw [List.any_map]
  refine Eq.trans (congrArg ks.any (funext fun x => ?_)) ((any_dec k ks).trans (by congr))
  show decide (keyI x = keyI k) = decide (x = k)
  exact Bool.eq_iff_iff.mpr (by simp only [decide_eq_true_eq]; exact ⟨keyI_inj, fun h => by rw [h]⟩)
theorem putKs_dd (l : List (List Int)) (x : List Int) : putKs ((dd l).map keyI) (keyI x) = (dd (l ++ [x])).map keyI := by
  unfold putKs
  rw [hasK_map, dd_snoc]
  by_cases h : x ∈ dd l
  · rw [decide_eq_true h, if_pos rfl, if_pos h]
  · rw [decide_eq_false h, if_neg (by decide), if_neg h, List.map_append]; rfl
theorem putVs_dd (l : List (List Int)) (x : List Int) : putVs ((dd l).map keyI) ((dd l).map fun _ => VV.bl true) (keyI x) (.bl true) = (dd (l ++ [x])).map fun _ => VV.bl true := by
  unfold putVs
  rw [hasK_map, dd_snoc]
  by_cases h : x ∈ dd l
  · rw [decide_eq_true h, if_pos rfl, if_pos h, List.zip_map', List.map_map]
    refine List.map_congr_left fun y _ => ?_
    show (if keyI y = keyI x then VV.bl true else VV.bl true) = VV.bl true
    split <;> rfl
  · rw [decide_eq_false h, if_neg (by decide), if_neg h, List.map_append]; rfl
theorem keyB_I (k : List Int) : VV.tup ((keyI k).map keyB) = tupI k := by
  unfold keyI tupI; rw [List.map_map]; rfl
/-! a web as a value -/
def sz (E : List (List Int)) (k : Nat) : List (List Int) := E.filter fun f => decide (f.length = k)
def szL (E : List (List Int)) (k : Nat) : VV := .lst ((sz E k).map tupI)
def idxs (l : List (List Int)) : List VV := (List.range l.length).map fun (i : Nat) => VV.int (i : Int)
def ordE (E : List (List Int)) : List (List Int) := sz E 1 ++ (sz E 2 ++ (sz E 3 ++ sz E 4))
def ordV (E : List (List Int)) : List VV := idxs (sz E 1) ++ (idxs (sz E 2) ++ (idxs (sz E 3) ++ idxs (sz E 4)))
def webV (E : List (List Int)) : VV := .ins "Web" ["table", "places"] [.lst [szL E 1, szL E 2, szL E 3, szL E 4], .dT ((ordE E).map keyI) (ordV E)]
theorem mem_sz {E : List (List Int)} {k : Nat} {f : List Int} : f ∈ sz E k ↔ f ∈ E ∧ f.length = k := by
  unfold sz; rw [List.mem_filter, decide_eq_true_eq]
theorem sz_nodup {E : List (List Int)} (h : E.Nodup) (k : Nat) : (sz E k).Nodup := h.sublist List.filter_sublist
theorem mem_ordE {E : List (List Int)} (hE : ∀ f ∈ E, Face f) {f : List Int} : f ∈ ordE E ↔ f ∈ E := by
  unfold ordE
  simp only [List.mem_append, mem_sz]
  constructor
  · rintro (h | h | h | h) <;> exact h.1
  · intro h
    have h1 := (hE f h).le
    have h2 : 0 < f.length := List.length_pos_iff.mpr (hE f h).pos
    have : f.length = 1 ∨ f.length = 2 ∨ f.length = 3 ∨ f.length = 4 := by omega
    rcases this with e | e | e | e
    · exact .inl ⟨h, e⟩
    · exact .inr (.inl ⟨h, e⟩)
    · exact .inr (.inr (.inl ⟨h, e⟩))
    · exact .inr (.inr (.inr ⟨h, e⟩))
theorem idxs_len (l : List (List Int)) : (l.map keyI).length = (idxs l).length := by unfold idxs; simp
theorem not_key {l : List (List Int)} {f : List Int} (h : f ∉ l) : keyI f ∉ l.map keyI := fun z => by
  obtain ⟨g, hg, e⟩ := List.mem_map.mp z
  exact h (keyI_inj e ▸ hg)
end M
namespace J
open PySem L2 M
section
variable {ρ : VSt} {h : VH}
theorem len_obj {n : Nat} : cLen h [.obj n] = (lstRO (h[n]?)).map fun xs => .int xs.length := by
  show (lstR h (.obj n)).map _ = _
  rw [lstR_obj]
theorem omap_some {α β : Type} {f : α → β} {a : α} : (some a).map f = some (f a) := nr rfl
theorem fin_low {v : VV} {n : Nat} {h : VH} {t : VH} (hn : h.length = n) (hv : lowV n v = true) (ho : h.all (lowO n) = true) : (SR.ret v (h ++ t)).fin n = .ok v h := by
  show Res.ok v (trim n v (h ++ t)) = _
  unfold trim
  by_cases e : (h ++ t).length = n
  · rw [if_pos e]
    have : t = [] := by
      rw [List.length_append] at e
      exact List.length_eq_zero_iff.mp (by omega)
    rw [this, List.append_nil]
  · rw [if_neg e]
    have : (h ++ t).take n = h := by rw [← hn, List.take_left]
    rw [this, if_pos ⟨hv, ho⟩]
theorem fin_o {v : VV} {o : VO} {t : VH} (hv : lowV 1 v = true) (ho : lowO 1 o = true) : (SR.ret v (o :: t)).fin 1 = .ok v [o] := fin_low (h := [o]) rfl hv (by simp [ho])
theorem log2_ok {m : Int} (h1 : 0 < m) (h2 : m < 2 ^ 100) : m.natAbs.log2 < 9000 := by
  have : m.natAbs < 2 ^ 100 := by omega
  exact Nat.lt_trans ((Nat.log2_lt (by omega)).mpr this) (by decide)
/-! sorted -/
theorem all_isI (l : List Int) : (l.map VV.int).all isI = true := by simp [isI]
theorem srt_ints (l : List Int) : srt (l.map VV.int) = some (.lst ((isort l).map VV.int)) := by
  unfold srt okS
  rw [all_isI, Bool.true_or, if_pos rfl]
  congr 2
  exact (List.map_mergeSort (r := leI) (s := leS) (f := VV.int) (fun a _ b _ => by rw [leS_int]; rfl)).symm
theorem sorted_tup {l : List Int} : cSorted h [tupI l] = some (.lst ((isort l).map VV.int)) := srt_ints l
theorem sorted_lst {l : List Int} : cSorted h [.lst (l.map VV.int)] = some (.lst ((isort l).map VV.int)) := srt_ints l
theorem isT1_tupI {k : List Int} (hk : k ≠ []) : isT1 (tupI k) = true := by
  unfold isT1
  rw [intsV_tupI]
  cases k with
  | nil => exact absurd rfl hk
  | cons => rfl
theorem all_isT1 {ks : List (List Int)} (hk : ∀ k ∈ ks, k ≠ []) : (ks.map tupI).all isT1 = true := by
  rw [List.all_map, List.all_eq_true]
  exact fun k h => isT1_tupI (hk k h)
theorem sorted_tups {ks : List (List Int)} (hk : ∀ k ∈ ks, k ≠ []) : cSorted h [.lst (ks.map tupI)] = some (.lst ((fsort ks).map tupI)) := by
  show srt (ks.map tupI) = _
  unfold srt okS
  rw [all_isT1 hk, Bool.or_true, if_pos rfl]
  congr 2
  exact (List.map_mergeSort (r := leL) (s := leS) (f := tupI) (fun a _ b _ => by rw [leS_tup]; rfl)).symm
theorem filterMap_tups (ks : List (List Int)) : (ks.map tupI).filterMap intsV = ks := by
  induction ks with
  | nil => rfl
  | cons k ks ih => rw [List.map_cons, List.filterMap_cons, intsV_tupI, ih]
theorem sortSet_tups {ks : List (List Int)} (hk : ∀ k ∈ ks, k ≠ []) (hf : ks.eraseDups.length < 306) : cSortSet h [.lst (ks.map tupI)] = some (.lst ((fsort ks.eraseDups).map tupI)) := by
  show (if _ then _ else _) = _
  rw [filterMap_tups, if_pos ⟨all_isT1 hk, hf⟩]; rfl
theorem isObj_tupI {k : List Int} : (tupI k).isObj = false := nr rfl
theorem rng_eq (n : Nat) : rngV 0 n = (List.range n).map fun (i : Nat) => VV.int (0 + (i : Int)) := nr rfl
theorem cut_tail {xs : List VV} (hl : xs ≠ []) : cut xs (some 1) none = xs.drop 1 := by
  unfold cut
  have e1 : HT.sIx xs.length 0 (some 1) = min 1 xs.length := by
    unfold HT.sIx
    simp
  have e2 : HT.sIx xs.length xs.length none = xs.length := rfl
  have : 0 < xs.length := List.length_pos_iff.mpr hl
  rw [e1, e2, Nat.min_eq_left this]
  exact List.take_of_length_le (by rw [List.length_drop]; omega)
theorem sl_lst {xs : List VV} {lo hi : Option Int} : opSl h (.lst xs) lo hi = some (.lst (cut xs lo hi)) := nr rfl
theorem add_lst {xs ys : List VV} (hl : xs.length + ys.length ≤ 16777216) : opAdd h (.lst xs) (.lst ys) = some (.lst (xs ++ ys)) := by
  show (if xs.length + ys.length ≤ 16777216 then _ else _) = _
  rw [if_pos hl]
theorem add_tup {xs ys : List VV} (hl : xs.length + ys.length ≤ 16777216) : opAdd h (.tup xs) (.tup ys) = some (.tup (xs ++ ys)) := by
  show (if xs.length + ys.length ≤ 16777216 then _ else _) = _
  rw [if_pos hl]
end
end J
namespace J
end J
namespace J
open PySem L2
/-! dicts with ints or texts as keys, by value -/
abbrev DKA := List Key × List VV
def hasQ (ks : List Key) (k : Key) : Bool := ks.any fun x => decide (x = k)
def putVQ {α : Type} (ks : List Key) (vs : List α) (k : Key) (v : α) : List α := if hasQ ks k = true then (ks.zip vs).map (fun p => if p.1 = k then v else p.2) else vs ++ [v]
def putKQ (ks : List Key) (k : Key) : List Key := if hasQ ks k = true then ks else ks ++ [k]
section
variable {X : Cx} {W : WX}
def eKnew : EF := fun _ h => .ok (.obj h.length) (h ++ [.dK [] []])
/-- d[k] = v, d a root -/
def setK (h : VH) (o i v : VV) : Option VH := match o with
  | .obj n => match h[n]? with
    | some (.dK ks vs) => (keyA i).bind fun k => if v.isObj = true ∨ ks.length ≥ SZ then none else some (h.set n (.dK (putKQ ks k) (putVQ ks vs k v)))
    | _ => none
  | _ => none
def sSetK (o i e : EF) : SF := fun ρ h => (e ρ h).st ρ fun v h1 => (o ρ h1).st ρ fun ov h2 => (i ρ h2).st ρ fun iv h3 => match setK h3 ov iv v with
  | some h4 => .nx ρ h4
  | none => .no
/-! for k in d -/
def iKeysK (f : EF) : AF := fun ρ h => (f ρ h).bind fun v h1 => match v with
  | .dK ks vs => .ok (ks.map keyB) h1
  | _ => .no
end
/-! {k: v for t in xs} -/
def dcGo (b : VV → VSt → Option VSt) (fk fv : EF) (ρ : VSt) : List VV → VH → DKA → Res DKA
  | [], h, a => .ok a h
  | x :: xs, h, a => match b x ρ with
    | none => .no
    | some ρ' => (fk ρ' h).bind fun kv h2 => (fv ρ' h2).bind fun v h3 => match keyA kv with
      | some k => if v.isObj = true then .no else dcGo b fk fv ρ xs h3 (putKQ a.1 k, putVQ a.1 a.2 k v)
      | none => .no
def eDc1 (own : List Nat) (it : AF) (b : VV → VSt → Option VSt) (fk fv : EF) : EF := fun ρ h => (it ρ h).bind fun xs h1 => if xs.length > SZ then .no else match dcGo b fk fv (wp ρ own) xs h1 ([], []) with
  | .ok a h2 => .ok (.dK a.1 a.2) h2
  | _ => .no
end J
namespace J
open PySem PySem.Spec L2 PyProof.Rows
/-! sorted(set(xs)), sorted({..}): ints -/
theorem nodup_eraseDupsI_n : ∀ (n : Nat) (l : List Int), l.length ≤ n → l.eraseDups.Nodup
  | _, [], _ => by simp
  | 0, _ :: _, h => by simp at h
  | n + 1, x :: l, h => by
    rw [List.eraseDups_cons, List.nodup_cons]
    refine ⟨fun z => ?_, nodup_eraseDupsI_n n _ (Nat.le_trans (List.length_filter_le _ _) (by simpa using h))⟩
    rw [List.mem_eraseDups, List.mem_filter] at z
    simp at z
theorem nodup_eraseDupsI (l : List Int) : l.eraseDups.Nodup := nodup_eraseDupsI_n _ l (Nat.le_refl _)
def leJ (a b : Int) : Bool := decide (a ≤ b)
def srtI (l : List Int) : List Int := l.eraseDups.mergeSort leJ
end J
namespace J
open PySem L2
open PyProof.Rows (IntsAre)
/-! sorted(set(xs)), ints -/
theorem intsAre_of : ∀ {ks : List Int} {its : List Value}, Vals (ks.map V.int) its → IntsAre its ks
  | [], _, .nil => .nil
  | k :: ks, _, .cons a b => by
    obtain ⟨t, rfl⟩ := a
    exact .cons _ _ (intsAre_of b)
section
variable {X : Cx} {W : WX}
/-! sorted({e for x in xs}) -/
def eSortSc (own : List Nat) (it : AF) (b : VV → VSt → Option VSt) (fe : EF) : EF := fun ρ h => (it ρ h).bind fun xs h1 => (noX (accGo b (stSet fe) (wp ρ own) xs h1 [])).bind fun a h2 => if a.length < 64 then .ok (.lst ((srtI a).map .int)) h2 else .no
/-! xs.insert(i, e), xs a root -/
def insI (h : VH) (o i v : VV) : Option VH := match o, i with
  | .obj n, .int k => match h[n]? with
    | some (.fl xs) => if 0 ≤ k ∧ k < 2 ^ 62 ∧ xs.length < SZ ∧ v.isObj = false then some (h.set n (.fl (xs.take k.toNat ++ [v] ++ xs.drop k.toNat))) else none
    | _ => none
  | _, _ => none
def eIns (fo fi fe : EF) : EF := fun ρ h => (fo ρ h).bind fun ov h1 => match lstOf h1 ov with
  | none => .no
  | some _ => (aCons fi (aCons fe aNil) ρ h1).bind fun vs h2 => match vs with
    | [iv, v] => (match insI h2 ov iv v with
      | some h3 => .ok .non h3
      | none => .no)
    | _ => .no
/-! o.m(e, .., k=v) -/
end
end J
namespace J
open PySem L2
/-! [e for .. in .. for .. in .. if ..] -/
/-- the loop of the inner clause: the list at D grows behind acc0 -/
theorem lc_seg {c : Ct} {W0 : WX} {own : List Nat} {b : VV → VSt → Option VSt} {ft : TF} {fe : EF} {tg : TG} {J : It} {xs acc0 : List VV} {ρ : VSt} {σ : St} {g : Gh} {h : VH} {H1 : Hp} {D : Addr} {us0 : List V} {N : Hp → Prop} {K : PySem.W.Frag}
    (hW : ∀ a d s h, W0 a d s h → False) (ek : c.K = K) (pat : PatOk K tg b own) (dl : Deliv c g H1 xs J) (hsz : acc0.length + xs.length ≤ SZ) (rh : RH c g h H1) (rs : RS c g H1 ρ σ) (hD : H1 D = some (.lst us0)) (dz : Dz g D) (rv0 : RVs c g.fz H1 acc0 us0)
    (fin : match lcGo b ft fe (wp ρ own) xs h with
      | .ok vs h' => ∀ g' H' us, Stp g H1 g' H' → RH c g' h' H' → H' D = some (.lst us) → ¬ g'.fz D → D ∉ g'.io → ¬ g'.kp D → RVs c g'.fz H' (acc0 ++ vs) us → N H'
      | _ => False) :
    ∃ Wv : Nat → Nat → Hp → Prop, (∃ m, Wv 0 m H1) ∧ ∀ i m H, Wv i m H →
      (J.stop i H ∧ N H) ∨ (J.go i H ∧ ∃ Nx : Hp → Prop, (∀ H', Nx H' → ∃ m', m' < m ∧ Wv (i + 1) m' H') ∧ ∀ x H', J.yld i H x H' → tg x (wipe σ own) H' fun σ2 H2 => wipe σ2 own = wipe σ own ∧ tT c W0 ft σ2 H2 fun bb H3 =>
        if bb = true then tE c W0 fe σ2 H3 fun y H4 => ∃ acc, H4 D = some (.lst acc) ∧ acc.length < sizeLine ∧ Nx (upd H4 D (.lst (acc ++ [y]))) else Nx H3) := by
  let P : Nat → Hp → Prop := fun i H => ∃ (gi : Gh) (hi : VH) (acc : List VV) (us : List V), acc.length ≤ acc0.length + i ∧ Stp g H1 gi H ∧ RH c gi hi H ∧ H D = some (.lst us) ∧ ¬ gi.fz D ∧ D ∉ gi.io ∧ ¬ gi.kp D ∧ RVs c gi.fz H acc us ∧
    (match lcGo b ft fe (wp ρ own) (xs.drop i) hi with
      | .ok vs h' => ∀ g' H' us, Stp gi H g' H' → RH c g' h' H' → H' D = some (.lst us) → ¬ g'.fz D → D ∉ g'.io → ¬ g'.kp D → RVs c g'.fz H' (acc ++ vs) us → N H'
      | _ => False)
  refine ⟨fun i m H => m = xs.length - i ∧ i ≤ xs.length ∧ P i H, ⟨xs.length, by simp, Nat.zero_le _, ?_⟩, ?_⟩
  · exact ⟨g, h, acc0, us0, Nat.le_refl _, .refl, rh, hD, dz.nf, dz.ni, dz.nk, rv0, by rw [List.drop_zero]; exact fin⟩
  · rintro i m H ⟨rfl, hi, gi, hh, acc, us, hacc, st, rhi, hDl, nf, ni, nk, rvs, fin⟩
    by_cases hlt : i < xs.length
    · refine .inr ⟨dl.go gi H st.f i hlt, P (i + 1), fun H' p' => ⟨xs.length - (i + 1), by omega, rfl, hlt, p'⟩, fun x H' y => ?_⟩
      have ed : xs.drop i = xs[i] :: xs.drop (i + 1) := List.drop_eq_getElem_cons hlt
      have rhk : RH c (gi.keep D) hh H := rhi.keep hDl nf ni
      have stk : Stp g H1 (gi.keep D) H := st.trans .keep
      obtain ⟨g1, st1, rh1, rt1⟩ := dl.yld (gi.keep D) H stk.f i xs[i] hh (List.getElem?_eq_getElem hlt) rhk x H' y
      rw [ed] at fin
      unfold lcGo at fin
      cases e : b xs[i] (wp ρ own) with
      | none => rw [e] at fin; exact fin.elim
      | some ρ' =>
        rw [e] at fin
        simp only at fin
        have rs1 : RS c g1 H' (wp ρ own) (wipe σ own) := ((rs.wipe own).stp stk).stp st1
        refine pat.run c g1 hh H' _ _ _ _ ρ' ek rh1 rs1 rt1 e _ fun σ2 rs2 o2 l2 => ⟨?_, ?_⟩
        · refine wipe_same (l2.trans (wipe_length _ _)) fun j hj => (o2 j hj).trans (wipe_out hj)
        · refine ⟨g1, ρ', hh, rh1, rs2, ?_⟩
          cases et : ft ρ' hh with
          | no => rw [et] at fin; exact fin.elim
          | exc _ _ _ _ => rw [et] at fin; exact fin.elim
          | ok k h1 =>
            rw [et] at fin
            intro g2 H2 bb st2 rh2 eb
            cases (show bb = k from eb)
            have hD2 : H2 D = some (.lst us) := by rw [st2.kH D (st1.kp D (.inr rfl)), st1.kH D (.inr rfl)]; exact hDl
            have kD2 : g2.kp D := st2.kp D (st1.kp D (.inr rfl))
            have s12 : Stp (gi.keep D) H g2 H2 := st1.trans st2
            cases k with
            | false =>
              rw [if_neg Bool.false_ne_true]
              have fin' : match lcGo b ft fe (wp ρ own) (xs.drop (i + 1)) h1 with
                | .ok vs h' => ∀ g' H' us, Stp gi H g' H' → RH c g' h' H' → H' D = some (.lst us) → ¬ g'.fz D → D ∉ g'.io → ¬ g'.kp D → RVs c g'.fz H' (acc ++ vs) us → N H'
                | _ => False := by
                simp only [Res.bind, if_neg Bool.false_ne_true] at fin; exact fin
              refine ⟨g2.back gi.kp, h1, acc, us, Nat.le_succ_of_le hacc, st.trans s12.back, rh2.back (fun p z => s12.kp p (.inl z)), hD2, (rh2.kd D kD2).1, (rh2.kd D kD2).2, nk, RVs.gback (s12.rvs (show RVs c (gi.keep D).fz H acc us from rvs)), ?_⟩
              generalize lcGo b ft fe (wp ρ own) (xs.drop (i + 1)) h1 = r at fin' ⊢
              cases r with
              | ok vs h' => exact fun g' H' us' st' => fin' g' H' us' (s12.back.trans st')
              | no => exact fin'
              | exc _ _ _ _ => exact fin'
            | true =>
              rw [if_pos rfl]
              refine ⟨g2, ρ', h1, rh2, rs2.stp st2, ?_⟩
              simp only [Res.bind, if_pos rfl] at fin
              cases ee : fe ρ' h1 with
              | no => rw [ee] at fin; exact fin.elim
              | exc _ _ _ _ => rw [ee] at fin; exact fin.elim
              | ok v h2 =>
                rw [ee] at fin
                simp only at fin
                intro g3 H3 yv st3 rh3 rv3
                have s13 : Stp (gi.keep D) H g3 H3 := s12.trans st3
                have kD3 : g3.kp D := st3.kp D kD2
                have hD3 : H3 D = some (.lst us) := by rw [st3.kH D kD2]; exact hD2
                have rvs3 : RVs c g3.fz H3 acc us := s13.rvs (show RVs c (gi.keep D).fz H acc us from rvs)
                have nf3 := (rh3.kd D kD3).1
                have ni3 := (rh3.kd D kD3).2
                refine ⟨us, hD3, by rw [← rvs.len]; exact SZ_lt (by omega), ?_⟩
                cases ov : v.isObj with
                | true => rw [ov] at fin; simp at fin
                | false =>
                  simp only [ov, if_neg Bool.false_ne_true] at fin
                  have sw : Stp (g3.back gi.kp) H3 (g3.back gi.kp) (upd H3 D (.lst (us ++ [yv]))) := Stp.wr (c := c) (g := g3.back gi.kp) nf3 nk (fun ys z => by rw [hD3] at z; cases z)
                  have rhb : RH c (g3.back gi.kp) h2 H3 := rh3.back (fun p z => s13.kp p (.inl z))
                  have rhw : RH c (g3.back gi.kp) h2 (upd H3 D (.lst (us ++ [yv]))) := rhb.wrD ⟨nf3, ni3, nk⟩ (fun ys z => by rw [hD3] at z; cases z) (by rw [hD3]; exact noTab_of (fun _ z => by cases z) (fun _ z => by cases z))
                  refine ⟨g3.back gi.kp, h2, acc ++ [v], us ++ [yv], by rw [List.length_append]; simp; omega, (st.trans s13.back).trans sw, rhw, upd_same, nf3, ni3, nk, ?_, ?_⟩
                  · exact sw.rvs (RVs.app (RVs.gback rvs3) (RVs.one (show RV c (g3.back gi.kp).fz H3 v yv from rv3.rv ov)))
                  · generalize lcGo b ft fe (wp ρ own) (xs.drop (i + 1)) h2 = r at fin ⊢
                    cases r with
                    | ok vs h' =>
                      intro g' H' us' st' rh' d1 d2 d3 d4 rv'
                      rw [List.append_assoc] at rv'
                      exact fin g' H' us' ((s13.back.trans sw).trans st') rh' d1 d2 d3 d4 rv'
                    | no => exact fin
                    | exc _ _ _ _ => exact fin
    · have e : i = xs.length := by omega
      subst e
      refine .inl ⟨dl.stop gi H st.f _ (Nat.le_refl _), ?_⟩
      rw [List.drop_length] at fin
      unfold lcGo at fin
      refine fin gi H us .refl rhi hDl nf ni nk ?_
      rw [List.append_nil]; exact rvs
def lc2Go (b : VV → VSt → Option VSt) (t : TF) (it1 : AF) (b1 : VV → VSt → Option VSt) (vs1 : List Nat) (t1 : TF) (e : EF) (ρ : VSt) : List VV → VH → List VV → Res (List VV)
  | [], h, acc => .ok acc h
  | x :: xs, h, acc => match b x ρ with
    | none => .no
    | some ρ' => (t ρ' h).bind fun k h1 => if k = true then (it1 ρ' h1).bind fun ys h2 => if acc.length + ys.length > SZ then .no else (lcGo b1 t1 e (wp ρ' vs1) ys h2).bind fun vs h3 => lc2Go b t it1 b1 vs1 t1 e ρ xs h3 (acc ++ vs) else lc2Go b t it1 b1 vs1 t1 e ρ xs h1 acc
def eLc2 (own : List Nat) (it : AF) (b : VV → VSt → Option VSt) (t : TF) (it1 : AF) (b1 : VV → VSt → Option VSt) (vs1 : List Nat) (t1 : TF) (e : EF) : EF := fun ρ h => (it ρ h).bind fun xs h1 => match lc2Go b t it1 b1 vs1 t1 e (wp ρ own) xs h1 [] with
  | .ok vs h2 => .ok (.lst vs) h2
  | _ => .no
section
variable {X : Cx} {W : WX}
theorem tLc2_of {own vs1 own1 : List Nat} {it it1 : AF} {b b1 : VV → VSt → Option VSt} {ft ft1 : TF} {fe : EF} {tg tg1 : TG} (pat : PatOk X.K tg b own) (pat1 : PatOk X.K tg1 b1 vs1)
    {σ : St} {H : Hp} {Q : VK} (h : tE (ct X) W (eLc2 own it b ft it1 b1 vs1 ft1 fe) σ H Q) :
    tLc2 (tI (ct X) W it) tg (tT (ct X) W0 ft) (tI (ct X) W0 it1) tg1 (tT (ct X) W0 ft1) (tE (ct X) W0 fe) own vs1 σ H Q := by
  obtain ⟨g, ρ, h0, rh, rs, p⟩ := tG.bind (R := fun g H xs J => Deliv (ct X) g H xs J) (f := it) (k := fun (xs : List VV) ρ h1 => (match lc2Go b ft it1 b1 vs1 ft1 fe (wp ρ own) xs h1 [] with
      | .ok vs h2 => Res.ok (VV.lst vs) h2
      | _ => .no)) h
  refine ⟨g, ρ, h0, rh, rs, p.imp fun J H1 ⟨g1, ρ1, xs, h1, rh1, rs1, dl, p1⟩ D hD => ?_⟩
  clear p rs rh
  rename_i g0
  let P : Nat → Hp → Prop := fun i H => ∃ (gi : Gh) (hi : VH) (acc : List VV) (us : List V), Stp g1 H1 gi H ∧ RH (ct X) gi hi H ∧ H D = some (.lst us) ∧ Dz gi D ∧ RVs (ct X) gi.fz H acc us ∧
    (match lc2Go b ft it1 b1 vs1 ft1 fe (wp ρ1 own) (xs.drop i) hi acc with
      | .ok vs h' => ∀ g' H' us, Stp gi H g' H' → RH (ct X) g' h' H' → H' D = some (.lst us) → Dz g' D → RVs (ct X) g'.fz H' vs us → Q (.ref D) H'
      | _ => False)
  refine ⟨fun i m H => m = xs.length - i ∧ i ≤ xs.length ∧ P i H, ⟨xs.length, by simp, Nat.zero_le _, ?_⟩, ?_⟩
  · refine ⟨g1, h1, [], [], .junk rh1 hD, rh1.junk hD, upd_same, ⟨fun z => ?_, fun z => ?_, fun z => ?_⟩, RVs.nil, ?_⟩
    · obtain ⟨o, e⟩ := rh1.fz D z; rw [hD] at e; cases e
    · obtain ⟨o, e⟩ := rh1.root z; rw [hD] at e; cases e
    · obtain ⟨o, e⟩ := rh1.kp D z; rw [hD] at e; cases e
    · rw [List.drop_zero]
      generalize lc2Go b ft it1 b1 vs1 ft1 fe (wp ρ1 own) xs h1 [] = r at p1 ⊢
      cases r with
      | ok vs h' =>
        intro g' H' us st rh' e dz rv'
        have q := Pst.step ((Stp.junk rh1 hD).trans st) p1
        obtain ⟨s2, r2⟩ := frz_nobody rh' dz e
        refine q (g'.frz D) H' (.ref D) s2 r2 ?_
        show RV _ _ _ _ _
        rw [RV]
        exact ⟨D, us, rfl, .inr rfl, e, s2.rvs rv'⟩
      | no => exact p1
      | exc _ _ _ _ => exact p1
  · rintro i m H ⟨rfl, hi, gi, hh, acc, us, st, rhi, hDl, dz, rvs, fin⟩
    by_cases hlt : i < xs.length
    · refine .inr ⟨dl.go gi H st.f i hlt, P (i + 1), fun H' p' => ⟨xs.length - (i + 1), by omega, rfl, hlt, p'⟩, fun x H' y => ?_⟩
      have ed : xs.drop i = xs[i] :: xs.drop (i + 1) := List.drop_eq_getElem_cons hlt
      have rhk : RH (ct X) (gi.keep D) hh H := rhi.keep hDl dz.nf dz.ni
      have stk : Stp g1 H1 (gi.keep D) H := st.trans .keep
      obtain ⟨g2, st2, rh2, rt2⟩ := dl.yld (gi.keep D) H stk.f i xs[i] hh (List.getElem?_eq_getElem hlt) rhk x H' y
      rw [ed] at fin
      unfold lc2Go at fin
      cases e : b xs[i] (wp ρ1 own) with
      | none => rw [e] at fin; exact fin.elim
      | some ρ' =>
        rw [e] at fin
        simp only at fin
        have rs2 : RS (ct X) g2 H' (wp ρ1 own) (wipe σ own) := ((rs1.wipe own).stp stk).stp st2
        refine pat.run (ct X) g2 hh H' _ _ _ _ ρ' rfl rh2 rs2 rt2 e _ fun σ2 rs3 o2 l2 => ⟨?_, ?_⟩
        · refine wipe_same (l2.trans (wipe_length _ _)) fun j hj => (o2 j hj).trans (wipe_out hj)
        · refine ⟨g2, ρ', hh, rh2, rs3, ?_⟩
          cases et : ft ρ' hh with
          | no => rw [et] at fin; exact fin.elim
          | exc _ _ _ _ => rw [et] at fin; exact fin.elim
          | ok k h2 =>
            rw [et] at fin
            intro g3 H3 bb st3 rh3 eb
            cases (show bb = k from eb)
            have s13 : Stp (gi.keep D) H g3 H3 := st2.trans st3
            have kD3 : g3.kp D := s13.kp D (.inr rfl)
            have hD3 : H3 D = some (.lst us) := by rw [s13.kH D (.inr rfl)]; exact hDl
            cases k with
            | false =>
              rw [if_neg Bool.false_ne_true]
              simp only [Res.bind, if_neg Bool.false_ne_true] at fin
              refine ⟨g3.back gi.kp, h2, acc, us, st.trans s13.back, rh3.back (fun p z => s13.kp p (.inl z)), hD3, ⟨(rh3.kd D kD3).1, (rh3.kd D kD3).2, dz.nk⟩, RVs.gback (s13.rvs (show RVs (ct X) (gi.keep D).fz H acc us from rvs)), ?_⟩
              generalize lc2Go b ft it1 b1 vs1 ft1 fe (wp ρ1 own) (xs.drop (i + 1)) h2 acc = r at fin ⊢
              cases r with
              | ok vs h' => exact fun g' H' us' st' => fin g' H' us' (s13.back.trans st')
              | no => exact fin
              | exc _ _ _ _ => exact fin
            | true =>
              rw [if_pos rfl]
              simp only [Res.bind, if_pos rfl] at fin
              refine ⟨g3, ρ', h2, rh3, rs3.stp st3, ?_⟩
              cases ei : it1 ρ' h2 with
              | no => rw [ei] at fin; exact fin.elim
              | exc _ _ _ _ => rw [ei] at fin; exact fin.elim
              | ok ys h3 =>
                rw [ei] at fin
                simp only at fin
                intro g4 H4 J1 st4 rh4 dl1
                by_cases cz : acc.length + ys.length > SZ
                · rw [if_pos cz] at fin; exact fin.elim
                · rw [if_neg cz] at fin
                  have s14 : Stp (gi.keep D) H g4 H4 := s13.trans st4
                  have kD4 : g4.kp D := st4.kp D kD3
                  have hD4 : H4 D = some (.lst us) := by rw [st4.kH D kD3]; exact hD3
                  have dzb : Dz (g4.back gi.kp) D := ⟨(rh4.kd D kD4).1, (rh4.kd D kD4).2, dz.nk⟩
                  have rhb : RH (ct X) (g4.back gi.kp) h3 H4 := rh4.back (fun p z => s14.kp p (.inl z))
                  have dlb : Deliv (ct X) (g4.back gi.kp) H4 ys J1 := ⟨fun g H f => dl1.go g H ⟨f.fz, f.fH, f.tp⟩, fun g H f => dl1.stop g H ⟨f.fz, f.fH, f.tp⟩, fun g H f => dl1.yld g H ⟨f.fz, f.fH, f.tp⟩⟩
                  have sB : Stp g4 H4 g4 H4 := .refl
                  have rsb : RS (ct X) (g4.back gi.kp) H4 ρ' σ2 := ⟨((rs3.stp st3).stp st4).len, fun i v e => by
                    obtain ⟨u, a1, a2⟩ := ((rs3.stp st3).stp st4).get i v e
                    exact ⟨u, a1, a2.back rfl rfl⟩⟩
                  refine lc_seg (fun _ _ _ _ z => z) rfl pat1 dlb (by omega) rhb rsb hD4 dzb (RVs.gback (s14.rvs (show RVs (ct X) (gi.keep D).fz H acc us from rvs))) ?_
                  cases el : lcGo b1 ft1 fe (wp ρ' vs1) ys h3 with
                  | no => rw [el] at fin; exact fin
                  | exc _ _ _ _ => rw [el] at fin; exact fin
                  | ok vs h4 =>
                    rw [el] at fin
                    simp only at fin ⊢
                    intro g5 H5 us5 st5 rh5 d1 d2 d3 d4 rv5
                    refine ⟨g5, h4, acc ++ vs, us5, (st.trans s14.back).trans st5, rh5, d1, ⟨d2, d3, d4⟩, rv5, ?_⟩
                    generalize lc2Go b ft it1 b1 vs1 ft1 fe (wp ρ1 own) (xs.drop (i + 1)) h4 (acc ++ vs) = r at fin ⊢
                    cases r with
                    | ok vs h' => exact fun g' H' us' st' => fin g' H' us' ((s14.back.trans st5).trans st')
                    | no => exact fin
                    | exc _ _ _ _ => exact fin
    · have e : i = xs.length := by omega
      subst e
      refine .inl ⟨dl.stop gi H st.f _ (Nat.le_refl _), ?_⟩
      rw [List.drop_length] at fin
      unfold lc2Go at fin
      exact fin gi H us .refl rhi hDl dz rvs
theorem j_lc2 {elt tg iter tg1 iter1 : Expr} {ifs ifs1 : List Expr} {scope : Scope} {own : List (Str × Nat)} {vs1 : List Nat} {pos : Pos} {it it1 : AF} {g g1 : TG} {b b1 : VV → VSt → Option VSt} {ft ft1 : TF} {fe : EF} (hc : X.calm = true) (hN : X.N.Nodup) (hi : PI X tg iter (tI (ct X) W it)) (ok : BlkOk X.N X.env.scope scope own)
    (hg : ∀ (s : Shared) (H : Hp) (C : Addr) (cl : List (Str × Addr)) (fp : List Addr), PG (X.blk s H scope (compEnvC scope cl C X.env) fp) tg g) {own0 : List Nat} (pat : PatOk X.K g b own0) (hsub : ∀ i ∈ own0, i ∈ own.map (·.2))
    (ht : ∀ (s : Shared) (H : Hp) (C : Addr) (cl : List (Str × Addr)) (fp : List Addr), PTs (X.blk s H scope (compEnvC scope cl C X.env) fp) ifs (tT (ct X) W0 ft))
    (hi1 : ∀ (s : Shared) (H : Hp) (C : Addr) (cl : List (Str × Addr)) (fp : List Addr), PI (X.blk s H scope (compEnvC scope cl C X.env) fp) tg1 iter1 (tI (ct X) W0 it1))
    (hg1 : ∀ (s : Shared) (H : Hp) (C : Addr) (cl : List (Str × Addr)) (fp : List Addr), PG (X.blk s H scope (compEnvC scope cl C X.env) fp) tg1 g1) (pat1 : PatOk X.K g1 b1 vs1) (hv : ∀ i ∈ vs1, i ∈ own.map (·.2))
    (ht1 : ∀ (s : Shared) (H : Hp) (C : Addr) (cl : List (Str × Addr)) (fp : List Addr), PTs (X.blk s H scope (compEnvC scope cl C X.env) fp) ifs1 (tT (ct X) W0 ft1))
    (he : ∀ (s : Shared) (H : Hp) (C : Addr) (cl : List (Str × Addr)) (fp : List Addr), PE (X.blk s H scope (compEnvC scope cl C X.env) fp) elt (tE (ct X) W0 fe)) (hs : ∀ x, foldedSetIterable iter X.env x = pure x := by intro _; rfl) (hs1 : ∀ env x, foldedSetIterable iter1 env x = pure x := by intro _ _; rfl) :
    PE X (.ListComp elt [⟨tg, iter, ifs, 0⟩, ⟨tg1, iter1, ifs1, 0⟩] scope pos) (tE (ct X) W (eLc2 (own.map (·.2)) it b ft it1 b1 vs1 ft1 fe)) :=
  PE.mono (pe_lc2 hc hN hi ok hv hg ht hi1 hg1 ht1 he hs hs1) fun σ H Q h => tLc2_of (own1 := []) ⟨fun c g h H ρ σ v u ρ' e1 e2 e3 e4 e5 Q k => pat.run c g h H ρ σ v u ρ' e1 e2 e3 e4 e5 Q fun σ' a b d => k σ' a (fun i hi => b i fun z => hi (hsub i z)) d⟩ pat1 h
end
end J
namespace J
open PySem L2
/-! [e for x in xs if ..], xs a root that nothing in it changes -/
def rootL (v : VV) (h : VH) : Option (List VV) := match v with
  | .obj n => match h[n]? with
    | some (.fl xs) => some xs
    | _ => none
  | _ => none
def afterP (r : Res (List VV)) (h : VH) : Res VV := match r with
  | .ok vs _ => .ok (.lst vs) h
  | _ => .no
def eLcP (own : List Nat) (fo : EF) (b : VV → VSt → Option VSt) (t : TF) (e : EF) : EF := fun ρ h => (fo ρ h).bind fun v h1 => match rootL v h1 with
  | none => .no
  | some xs => if xs.length > SZ then .no else afterP (lcGo b t e (wp ρ own) xs h1) h1
end J
namespace J
open PySem L2
/-! len(set(xs)), ints -/
theorem set_card {w : World} {h : Heap} {a : Addr} {ks : List Int} {m : Nat} (R : SetR w h a (fun j => decide (j ∈ ks)) m) : m = ks.eraseDups.length := by
  obtain ⟨o, es, ep, t, ho, hex, hd, g, nd, hm, hb, hf, hn, hr, hl⟩ := R
  have p := (List.perm_ext_iff_of_nodup nd (nodup_eraseDupsI ks)).mpr fun k => by
    rw [List.mem_eraseDups, ← hm k, decide_eq_true_eq]
  have := p.length_eq
  rw [List.length_map, Array.length_toList] at this
  omega
end J
namespace J
open PySem L2
/-! dict(zip(xs, ys)), the keys unlike -/
def keysA : List VV → Option (List Key)
  | [] => some []
  | v :: vs => (keyA v).bind fun k => (keysA vs).map fun r => k :: r
def dzM (vs : List VV) : Option VV := match vs with
  | [.lst xs, .lst ys] => (keysA xs).bind fun ks => if ks.Nodup ∧ ks.length = ys.length ∧ ks.length ≤ 1000 then some (.dK ks ys) else none
  | _ => none
def eDictZip (a : AF) : EF := fun ρ h => (a ρ h).bind fun vs h1 => lift (dzM vs) h1
end J
namespace J
open PySem L2 M
/-! evaluation of what J28 to J31 added -/
section
variable {ρ : VSt} {h : VH}
theorem a_knew : eKnew ρ h = .ok (.obj h.length) (h ++ [.dK [] []]) := nr rfl
theorem s_setK {o i e} : sSetK o i e ρ h = sbd (e ρ h) ρ (fun v h1 => sbd (o ρ h1) ρ (fun ov h2 => sbd (i ρ h2) ρ (fun iv h3 => onh (setK h3 ov iv v) ρ) (tg _)) (tg _)) (tg _) := nr rfl
def keysI (v : VV) (h1 : VH) : Res (List VV) := match v with
  | .dK ks vs => .ok (ks.map keyB) h1
  | _ => .no
theorem a_keysK {f} : iKeysK f ρ h = bnd (f ρ h) keysI (tg _) := nr rfl
theorem keysI_dK {ks vs} : keysI (.dK ks vs) h = .ok (ks.map keyB) h := nr rfl
def afterK (r : Res DKA) : Res VV := match r with
  | .ok a h2 => .ok (.dK a.1 a.2) h2
  | _ => .no
theorem a_dc1 {own it b fk fv} : eDc1 own it b fk fv ρ h = bnd (it ρ h) (fun xs h1 => if xs.length > SZ then .no else afterK (dcGo b fk fv (wp ρ own) xs h1 ([], []))) (tg _) := nr rfl
theorem a_sortSc {own it b fe} : eSortSc own it b fe ρ h = bnd (it ρ h) (fun xs h1 => bnd (noX (accGo b (stSet fe) (wp ρ own) xs h1 [])) (fun a h2 => if a.length < 64 then .ok (.lst ((srtI a).map .int)) h2 else .no) (tg _)) (tg _) := nr rfl
def insM (o : Option VH) : Res VV := match o with
  | some h3 => .ok .non h3
  | none => .no
def insR (h2 : VH) (ov : VV) (vs : List VV) : Res VV := match vs with
  | [iv, v] => insM (insI h2 ov iv v)
  | _ => .no
theorem a_ins {fo fi fe} : eIns fo fi fe ρ h = bnd (fo ρ h) (fun ov h1 => chkL (lstOf h1 ov) (bnd (aCons fi (aCons fe aNil) ρ h1) (fun vs h2 => insR h2 ov vs) (tg _))) (tg _) := by
  unfold eIns
  cases fo ρ h with
  | no => rfl
  | exc => rfl
  | ok ov h1 =>
    show (match lstOf h1 ov with
      | none => Res.no
      | some _ => _) = chkL (lstOf h1 ov) _
    cases lstOf h1 ov with
    | none => rfl
    | some _ => rfl
theorem a_lc2 {own it b t it1 b1 vs1 t1 e} : eLc2 own it b t it1 b1 vs1 t1 e ρ h = bnd (it ρ h) (fun xs h1 => afterL (lc2Go b t it1 b1 vs1 t1 e (wp ρ own) xs h1 [])) (tg _) := nr rfl
theorem frzO_dK {ks vs n} : frzO (some (.dK ks vs)) n h = .ok (.dK ks vs) (h.set n (.fzn (.dK ks vs))) := nr rfl
theorem frzR_dK {ks vs} : frzR (.dK ks vs) h = .ok (.dK ks vs) h := nr rfl
def lcP (own : List Nat) (b : VV → VSt → Option VSt) (t : TF) (e : EF) (ρ : VSt) (h1 : VH) (o : Option (List VV)) : Res VV := match o with
  | none => .no
  | some xs => if xs.length > SZ then .no else afterP (lcGo b t e (wp ρ own) xs h1) h1
theorem a_lcP {own fo b t e} : eLcP own fo b t e ρ h = bnd (fo ρ h) (fun v h1 => lcP own b t e ρ h1 (rootL v h1)) (tg _) := nr rfl
theorem lcP_some {own b t e xs} : lcP own b t e ρ h (some xs) = if xs.length > SZ then .no else afterP (lcGo b t e (wp ρ own) xs h) h := nr rfl
def rootO (o : Option VO) : Option (List VV) := match o with
  | some (.fl xs) => some xs
  | _ => none
theorem rootL_obj {n : Nat} : rootL (.obj n) h = rootO (h[n]?) := by
  cases e : h[n]? with
  | none => simp only [rootL, rootO, e]
  | some o => cases o <;> simp only [rootL, rootO, e]
theorem rootO_fl {xs} : rootO (some (.fl xs)) = some xs := nr rfl
theorem a_dictZip {a : AF} : eDictZip a ρ h = bnd (a ρ h) (fun vs h1 => lift (dzM vs) h1) (tg _) := nr rfl
/-! points led -/
end
end J
namespace J
open PySem L2
open PyProof.Rows (envOfC)
/-! refusals: own exception classes over one own base whose __init__ sets word and at -/
theorem takesN0 {X : Cx} : L2N.Takes X (fun _ _ _ _ => False) := fun _ _ x => by
  obtain ⟨_, _, _, _, _, _, _, _, _, _, _, _, _, _, _, _, z⟩ := x
  exact z.elim
section
variable {X : Cx} {W : WX}
def sRaise0 (x : Str) : SF := fun ρ h => .exc x ["at", "word"] [.int (-1), .str x] ρ h
end
end J
namespace J
open PySem L2
open PyProof.Rows (envOfC)
/-! methods and classes that let refusals out -/
abbrev Wc (E : XK) : WX := fun a d _ H' => E a d H'
def eMethX (cn m : Str) (n : Nat) (F : FF) (dws : List VV) (fo : EF) (fa : AF) : EF := fun ρ h => (fo ρ h).bind fun v h1 => match insOf h1 v with
  | some a => if a.1 = cn ∧ lookN a.2.1 a.2.2 m = none then (fa ρ h1).bind fun vs h2 => if (v :: (vs ++ dws)).length = n then F (v :: (vs ++ dws)) h2 else .no else .no
  | none => .no
def mkX (n0 : Nat) (r : Res VV) : Res VV := match r with
  | .ok .non h' => if n0 ≤ h'.length ∧ (h'.take n0).all (lowO n0) = true then (match dzV h' n0 8 (.obj n0) with
    | some w => .ok w (h'.take n0)
    | none => .no) else .no
  | .exc x ns vs h' => .exc x ns vs h'
  | _ => .no
def eMakeX (cn : Str) (n : Nat) (F : FF) (dws : List VV) (fa : AF) : EF := fun ρ h => (fa ρ h).bind fun vs h1 => if (VV.obj h1.length :: (vs ++ dws)).length = n then mkX h1.length (F (.obj h1.length :: (vs ++ dws)) (h1 ++ [.ins cn [] []])) else .no
end J
namespace J
open PySem L2
open PyProof.Rows (envOfC)
/-! within an except suite -/
end J
namespace J
open PySem L2
open PyProof.Rows (envOfC)
theorem PIH.mono {X : Cx} {tg e : Expr} {t t' : TI} (h : L2H.PIH X tg e t) (m : ∀ σ H R, t' σ H R → t σ H R) : L2H.PIH X tg e t' := ⟨fun pins s σ H R I q => h.run pins s σ H R I (m σ H R q)⟩
/-! isinstance of the handled exception (which has a dict) -/
end J
namespace J
open PySem L2
open PyProof.Rows (envOfC)
end J
namespace J
open PySem L2
end J
namespace J
open PySem L2
open PyProof.Rows (envOfC)
/-! _law_refusal(lambda: ..) -/
end J
namespace J
open PySem L2
open PyProof.Rows (envOfC)
/-- the context of a lambda's body; what it lets out has no context of its own -/
abbrev lamN (X : Cx) (A : Around) (outer : List Env) (s : Shared) (H : Hp) (E : XK) (scope : Scope) (f c' : Addr) : Cx := (LamX.lamCx X A outer s H E scope f c').wish fun e s' =>
  wpAny (model X.prog X.w) (A.deeper (LamX.lamEnv X scope s.heap.objs.size f c')) (leaving (LamX.lamEnv X scope s.heap.objs.size f c') e) (fun _ s2 => L2N.CX X.prog X.w outer H s E e s2) (fun e2 s2 => L2N.CX X.prog X.w outer H s E e2 s2) s'
def eRef (xs : List Str) (fb : EF) : EF := fun ρ h => match fb ρ h with
  | .no => .no
  | .ok _ h' => .ok (.tup [.str "let", .int (-1)]) (trim h.length .non h')
  | .exc x ns vs h' => if x ∈ xs ∧ ns = (["at", "word"] : List Str) then (match vs with
    | [.int n, .str y] => if y = x then .ok (.tup [.str x, .int n]) (trim h.length .non h') else .no
    | _ => .no) else .no
end J
namespace J
open PySem L2
open PyProof.Rows (envOfC)
/-- what _law_refusal makes of a lambda, at the def g0 -/
def RefRun (X : Cx) (g0 : Addr) (xs : List Str) (kk : Nat) : Prop := ∀ (W : WX) (fb : EF) (k : Nat) (params : Arguments) (body : Expr) (scope : Scope), Room (k + 2) X.A → kk ≤ k → LamX.LamS X.env.scope scope →
  (∀ (q : Str) (cl : List (Str × Addr)) (pm cv ctv : Value), bindArgs (PySem.W.kla_fn "<lambda>" q params body scope cl pm cv ctv) ⟨[], []⟩ = pure []) →
  (∀ (A : Around) (outer : List Env) (s : Shared) (H : Hp) (E : XK) (f c' : Addr), Room k (A.deeper (LamX.lamEnv X scope s.heap.objs.size f c')) → PE (lamN X A outer s H E scope f c') body (tE (ct X) (Wc E) fb)) →
  ∀ (pins : List (Addr × Obj)) (s1 : Shared) (σ : St) (H1 : Hp) (Q : VK) (g : Gh) (ρ : VSt) (h0 : VH) (f c' : Addr) (pm2 ctv : Value), Inv X pins σ H1 s1 → s1.heap.get? f = some (PySem.W.kla_obj "<lambda>" (X.env.qual ++ "<lambda>") params body scope (cloFrom X.env.cells scope.names []) pm2 c' ctv) → H1 f = none → f ∉ frs X.stack → H1 c' = some (LamX.CodeO c' (X.env.qual ++ "<lambda>")) →
    RH (ct X) g h0 H1 → RS (ct X) g H1 ρ σ → Pst (ct X) W σ (RT (ct X)) g H1 Q (eRef xs fb ρ h0) → wpAny (model X.prog X.w) X.A (call (.ref g0) [.ref f]) (EP X pins σ Q) X.xe s1
structure OkR (P : Program) (w : World) (K : PySem.W.Frag) (mg : Str → Option Value) (base : Heap) (xs : List Str) (kk : Nat) : Prop where
  ex : ∃ g0, mg "_law_refusal" = some (.ref g0) ∧ PySem.W.keepIn K (.ref g0) = true ∧ ∀ X : Cx, X.prog = P → X.w = w → X.K = K → X.mg = mg → X.base = base → RefRun X g0 xs kk
end J
namespace J
open PySem L2
open PyProof.Rows (envOfC)
end J
namespace J
open PySem L2
open PyProof.Rows (envOfC)
/-! x = [a]; x.append(b): a list of two, as data -/
def sSetApp (i : Nat) (fa fb : EF) : SF := fun ρ h => (fa ρ h).st ρ fun v h1 => (fb (ρ.set i none) h1).st (ρ.set i none) fun w h2 => if (v.isObj || w.isObj) = true then .no else .nx (ρ.set i (some (.lst [v, w]))) h2
end J
namespace J
open PySem L2
variable {ρ : VSt} {h h' : VH}
theorem s_setApp {i fa fb} : sSetApp i fa fb ρ h = sbd (fa ρ h) ρ (fun v h1 => sbd (fb (ρ.set i none) h1) (ρ.set i none) (fun w h2 => if (v.isObj || w.isObj) = true then .no else .nx (ρ.set i (some (.lst [v, w]))) h2) (tg _)) (tg _) := nr rfl
theorem s_raise0 {x} : sRaise0 x ρ h = .exc x ["at", "word"] [.int (-1), .str x] ρ h := nr rfl
end J
namespace J
open PySem L2
open PyProof.Rows (envOfC)
/-! == and != of instances, by the class's own __eq__ -/
section
open PySem.W PySem.Calls PyProof.Rows
variable {prog : Program} {w : World} {A : Around} {E : Value → Shared → Prop} {s : Shared} {K : Frag} {x C L f : Addr} {h₀ : Heap} {m : Str → Option Value} {ox : Obj} {od : Option Obj} {b : Value}
/-- x != b: object's own, which asks __eq__ -/
theorem cmp_ne {Q : Value → Shared → Prop} (hu : A.units + 1 < cLine) (X : K.In s.heap) (I : InstAt s.heap x ox C od) (hb : Looks (model prog w) s.heap (typeOf b) (.ref C)) (hn : findIn K (.ref C) "__ne__" = some (some (.builtin "object.__ne__"))) (hm : mroIn K C (.type "object") = some true)
    (hs : findIn K (.ref C) "__eq__" = some (some (.ref f))) (hf : isFn K (.ref f) = true)
    (h : wpAny (model prog w) A.in1 (call (.ref f) [.ref x, b]) (fun v s' => ∃ r, v = .bool r ∧ Q (.bool (!r)) s') E s) : wpAny (model prog w) A (richCompare .NotEq (.ref x) b) Q E s := by
  have isO : Looks (model prog w) s.heap (isInstance (.ref x) (.type "object")) true := I.type.andThen (looks_mroIn X hm)
  have inner : wpAny (model prog w) A (call (.builtin "object.__ne__") [.ref x, b]) (fun v s' => (∃ r, v = .bool r) ∧ Q v s') E s := by
    apply wpAny_call
    refine codeAny_call_builtin PySem.F.slot_object_ne.plain PySem.F.entry_object_ne ?_
    refine @check_slot (model prog w) _ _ s "object.__ne__" "object" "__ne__" (.ref x) [b] [] _ (by decide +kernel) (by decide +kernel) isO (PySem.F.args_object_ne_2 (.ref x) b) ?_
    unfold Builtin.«object.__ne__»
    apply wpAny_bind
    refine wpAny_of_eq (a := ((Value.ref x : Value), [b])) (by first | rfl | (simp only [slotArgs]; rfl)) ?_
    apply wpAny_bind
    refine wpAny_cRoomFor (show A.in1.units < cLine from hu) ?_
    apply wpAny_bind
    refine ifBound_K X I hs hf (wpAny_mono h (fun v s' hv => ?_) fun _ _ e => e)
    obtain ⟨r, rfl, q⟩ := hv
    show wpAny _ _ (do ret (.bool (!(← truthy (.bool r))))) _ _ _
    apply wpAny_bind
    refine wpAny_truthy_bool ?_
    exact wpAny_pure ⟨⟨_, rfl⟩, q⟩
  have one : wpAny (model prog w) A (tryCompare (.ref x) "__ne__" b) (fun r s' => ∃ v, r = some v ∧ Q v s') E s := by
    unfold tryCompare
    apply wpAny_bind
    simp only [callSpecialIfBound?, bindSpecialIfBound?]
    apply wpAny_holding
    apply wpAny_bind
    apply wpAny_bind
    apply wpAny_bind
    refine I.type.here ((looks_findIn X hn).here ?_)
    apply wpAny_bind
    apply wpAny_askSetting
    apply wpAny_ite
    have go : wpAny (model prog w) A (call (.builtin "object.__ne__") ([.ref x] ++ [b]) >>= fun v => pure (some v)) (fun r s' => wpAny (model prog w) A (match r with
      | some .notImplemented | none => pure none
      | some v => pure (some v)) (fun r s' => ∃ v, r = some v ∧ Q v s') E s') E s := by
      apply wpAny_bind
      refine wpAny_mono inner (fun v s' hv => ?_) fun _ _ e => e
      obtain ⟨⟨r, rfl⟩, q⟩ := hv
      exact wpAny_pure (wpAny_pure ⟨_, rfl, q⟩)
    have eb := PySem.F.slot_object_ne.bind (.ref x)
    split
    · apply wpAny_bind
      rw [eb]
      exact wpAny_pure (wpAny_pure (by exact go))
    · apply wpAny_tryCatch
      apply wpAny_bind
      rw [eb]
      exact wpAny_pure (wpAny_pure (by exact go))
  unfold richCompare
  simp only [oneThing_ref]
  apply wpAny_holding
  apply wpAny_bind
  refine wpAny_cRoomFor (by omega) ?_
  apply wpAny_bind
  refine I.type.here ?_
  apply wpAny_bind
  refine hb.here ?_
  split
  · rename_i q
    simp at q
  · apply wpAny_bind
    apply wpAny_pure
    simp only [Bool.false_eq_true, if_false]
    apply wpAny_bind
    refine wpAny_mono one (fun r s' z => ?_) fun _ _ e => e
    obtain ⟨v, rfl, hq⟩ := z
    exact wpAny_pure hq
end
/-- what is asked of two instances -/
def RdE (c : Ct) (cn : Str) (Fm : FF) (ne : Bool) : R2 := fun x y H Q => ∃ g h v w a b, RH c g h H ∧ RT c g H v x ∧ RT c g H w y ∧ insOf h v = some a ∧ a.1 = cn ∧ insOf h w = some b ∧ b.1 = cn ∧
  Pst c W0 [] (RT c) g H (fun u H' => ∃ r, u = .bl r ∧ Q (.bl (if ne = true then !r else r)) H') (Fm [v, w] h)
/-- the class has object's own != -/
def NeC (K : PySem.W.Frag) (mg : Str → Option Value) (cn : Str) : Prop := ∀ C, mg cn = some (.ref C) → PySem.W.findIn K (.ref C) "__ne__" = some (some (.builtin "object.__ne__")) ∧ PySem.W.mroIn K C (.type "object") = some true
section
variable {X : Cx} {W : WX} {k : Nat} {cn : Str} {Fm : FF}
theorem eq_run {A : Around} (O : OkM X.prog X.w X.K X.mg X.base k cn "__eq__" 2 [] Fm) (hr : Room k A) (fr : A.frames = X.A.frames) {C f : Addr} {pins : List (Addr × Obj)} {s : Shared} {σ : St} {H : Hp} {p q : Addr} {Q : V → Hp → Prop} {g : Gh} {h : VH} {v w : VV} (hC : X.mg cn = some (.ref C)) (hf : PySem.W.findIn X.K (.ref C) "__eq__" = some (some (.ref f))) (I : Inv X pins σ H s) (rh : RH (ct X) g h H) (rv : RT (ct X) g H v (.ref p)) (rw' : RT (ct X) g H w (.ref q))
    (pp : Pst (ct X) W0 [] (RT (ct X)) g H Q (Fm [v, w] h)) : wpAny (model X.prog X.w) A (call (.ref f) [.ref p, .ref q]) (EP X pins σ Q) X.xe s := by
  obtain ⟨C', f', fd, ps, dvs, ds, m, cl, me, F, bi, vd, rd⟩ := O.ex
  have eC : C' = C := by rw [hC] at m; cases m; rfl
  subst eC
  have ef : f' = f := by have z := me.at_; rw [hf] at z; cases z; rfl
  subst ef
  have e0 := rd g H
  have dn : dvs = [] := e0
  subst dn
  cases vd
  have hsp : spF (ct X) 2 Fm [.ref p, .ref q] H Q X0 := ⟨g, [v, w], h, rh, ⟨_, _, rfl, rv, _, _, rfl, rw', rfl⟩, rfl, pp⟩
  have r2 : Vals [V.ref p, V.ref q] [Value.ref p, Value.ref q] := .cons rfl (.cons rfl .nil)
  have hl := F.len _ _ _ _ hsp
  have bb := bi s [.ref p, .ref q] I.kIn (by simpa using hl)
  have env : Env0 X.prog X.w X.K X.mg X.base A X.stack s H := by
    have e := I.env0
    exact ⟨by rw [fr]; exact e.frames, e.mod, e.bs, e.bsz, e.funs, e.frf, e.hok, e.bare⟩
  refine wpAny_call (codeAny_mono (F.run A X.stack s H ⟨[.ref p, .ref q], []⟩ [.ref p, .ref q] [.ref p, .ref q] Q X0 hr env (by simpa using bb) r2 hsp) fun rr s' z => ?_)
  cases rr with
  | error er => exact (cx_no z).elim
  | ok fl =>
    cases fl with
    | ret u => exact I.after z
    | next => exact z.elim
    | brk => exact z.elim
    | cont => exact z.elim
theorem or_ownEq (O : OkM X.prog X.w X.K X.mg X.base k cn "__eq__" 2 [] Fm) (hr : Room k X.A) : OpR X (compareOp .Eq) (RdE (ct X) cn Fm false) := by
  intro pins s σ H x y v u Q I rx ry ⟨g, h, va, wa, a, b, rh, rv, rw', ea, ca, eb, cb, pp⟩
  obtain ⟨p, C, dx, us, rfl, mC, hp, _, _⟩ := insOf_get rh rv ea
  obtain ⟨q, C2, dy, us2, rfl, mC2, hq, _, _⟩ := insOf_get rh rw' eb
  rw [ca] at mC
  rw [cb] at mC2
  have eC : C2 = C := by have z := mC.symm.trans mC2; cases z; rfl
  subst eC
  cases rx
  cases ry
  obtain ⟨C', f, fd, ps, dvs, ds, m, cl, me, F, bi, vd, rd⟩ := id O.ex
  have eC : C' = C2 := by have z := m.symm.trans mC; cases z; rfl
  subst eC
  obtain ⟨mA, J1, _⟩ := ins_get I.hok hp
  obtain ⟨mB, J2, _⟩ := ins_get I.hok hq
  obtain ⟨od1, J1, _⟩ := J1.look
  obtain ⟨od2, J2, _⟩ := J2.look
  obtain ⟨mm, hF⟩ := I.fr
  show wpAny (model X.prog X.w) X.A (richCompare .Eq (.ref p) (.ref q)) (EP X pins σ Q) X.xe s
  refine PySem.W.cmp_K (op := .Eq) (tb := .ref C') hr.units0 hF I.ok.mod.kin J1 J2.type (by simp [PySem.W.notFirst]) me.at_ me.fn ?_
  refine wpAny_mono (eq_run O hr rfl mC me.at_ I rh rv rw' pp) (fun z s' e => ?_) fun _ _ e => e
  obtain ⟨zz, H', I', rz, r, ez, qq⟩ := e
  subst ez
  obtain rfl : z = Value.bool r := rz
  exact ⟨.bl r, H', I', rfl, qq⟩
theorem or_ownNe (O : OkM X.prog X.w X.K X.mg X.base k cn "__eq__" 2 [] Fm) (N : NeC X.K X.mg cn) (hr : Room (k + 1) X.A) : OpR X (compareOp .NotEq) (RdE (ct X) cn Fm true) := by
  intro pins s σ H x y v u Q I rx ry ⟨g, h, va, wa, a, b, rh, rv, rw', ea, ca, eb, cb, pp⟩
  obtain ⟨p, C, dx, us, rfl, mC, hp, _, _⟩ := insOf_get rh rv ea
  obtain ⟨q, C2, dy, us2, rfl, mC2, hq, _, _⟩ := insOf_get rh rw' eb
  rw [ca] at mC
  rw [cb] at mC2
  have eC : C2 = C := by have z := mC.symm.trans mC2; cases z; rfl
  subst eC
  cases rx
  cases ry
  obtain ⟨C', f, fd, ps, dvs, ds, m, cl, me, F, bi, vd, rd⟩ := id O.ex
  have eC : C' = C2 := by have z := m.symm.trans mC; cases z; rfl
  subst eC
  obtain ⟨mA, J1, _⟩ := ins_get I.hok hp
  obtain ⟨mB, J2, _⟩ := ins_get I.hok hq
  obtain ⟨od1, J1, _⟩ := J1.look
  obtain ⟨od2, J2, _⟩ := J2.look
  obtain ⟨n1, n2⟩ := N C' mC
  show wpAny (model X.prog X.w) X.A (richCompare .NotEq (.ref p) (.ref q)) (EP X pins σ Q) X.xe s
  refine cmp_ne (by have := hr.un; omega) I.kIn J1 J2.type n1 n2 me.at_ me.fn ?_
  refine wpAny_mono (eq_run O hr.in1 rfl mC me.at_ I rh rv rw' pp) (fun z s' e => ?_) fun _ _ e => e
  obtain ⟨zz, H', I', rz, r, ez, qq⟩ := e
  subst ez
  obtain rfl : z = Value.bool r := rz
  exact ⟨r, rfl, .bl (!r), H', I', rfl, qq⟩
def ownR (ne : Bool) (cn : Str) (F : FF) (v w : VV) (h2 : VH) : Res VV := match insOf h2 v, insOf h2 w with
  | some a, some b => if a.1 = cn ∧ b.1 = cn then (noX (F [v, w] h2)).bind fun r h3 => (match r with
    | .bl r => .ok (.bl (if ne = true then !r else r)) h3
    | _ => .no) else .no
  | _, _ => .no
def eOwn (ne : Bool) (cn : Str) (F : FF) (fa fb : EF) : EF := fun ρ h => (fa ρ h).bind fun v h1 => (fb ρ h1).bind fun w h2 => ownR ne cn F v w h2
theorem rdE_of {ne : Bool} {σ : St} {g : Gh} {h2 : VH} {H : Hp} {Q : VK} {v w : VV} {x y : V} (rh : RH (ct X) g h2 H) (rv : RT (ct X) g H v x) (rw' : RT (ct X) g H w y) (p : Pst (ct X) W σ (RT (ct X)) g H Q (ownR ne cn Fm v w h2)) : RdE (ct X) cn Fm ne x y H Q := by
  unfold ownR at p
  cases ea : insOf h2 v with
  | none => rw [ea] at p; exact p.elim
  | some a =>
    cases eb : insOf h2 w with
    | none => rw [ea, eb] at p; exact p.elim
    | some b =>
      rw [ea, eb] at p
      simp only at p
      by_cases cc : a.1 = cn ∧ b.1 = cn
      · rw [if_pos cc] at p
        refine ⟨g, h2, v, w, a, b, rh, rv, rw', ea, cc.1, eb, cc.2, ?_⟩
        cases er : Fm [v, w] h2 with
        | no => rw [er] at p; exact p
        | exc => rw [er] at p; exact p.elim
        | ok r h3 =>
          rw [er] at p
          cases r with
          | bl r => exact fun g' H' u st rh' rv' => ⟨r, bl_get rv', p g' H' _ st rh' rt_bl⟩
          | _ => exact p.elim
      · rw [if_neg cc] at p; exact p.elim
theorem j_ownEq {a b : Expr} {fa fb : EF} {pos : Pos} (O : OkM X.prog X.w X.K X.mg X.base k cn "__eq__" 2 [] Fm) (hr : Room k X.A) (ha : PE X a (tE (ct X) W fa)) (hb : PE X b (tE (ct X) W fb)) (hm : behindInMarks .Eq b = false) : PE X (.Compare a [.Eq] [b] pos) (tE (ct X) W (eOwn false cn Fm fa fb)) :=
  PE.mono (pe_cmpR (or_ownEq O hr) ha hb hm) fun σ H Q ⟨g, ρ, h0, rh, rs, p⟩ => by
    refine ⟨g, ρ, h0, rh, rs, (Pst.bind (R := RT (ct X)) p).imp fun u H1 ⟨g1, v, h1, st, rh1, rv1, p1⟩ => ?_⟩
    refine ⟨g1, ρ, h1, rh1, rs.stp st, (Pst.bind (R := RT (ct X)) p1).imp fun u2 H2 ⟨g2, w, h2, st2, rh2, rv2, p2⟩ => ?_⟩
    exact rdE_of rh2 (rv1.stp st2) rv2 p2
theorem j_ownNe {a b : Expr} {fa fb : EF} {pos : Pos} (O : OkM X.prog X.w X.K X.mg X.base k cn "__eq__" 2 [] Fm) (N : NeC X.K X.mg cn) (hr : Room (k + 1) X.A) (ha : PE X a (tE (ct X) W fa)) (hb : PE X b (tE (ct X) W fb)) (hm : behindInMarks .NotEq b = false) : PE X (.Compare a [.NotEq] [b] pos) (tE (ct X) W (eOwn true cn Fm fa fb)) :=
  PE.mono (pe_cmpR (or_ownNe O N hr) ha hb hm) fun σ H Q ⟨g, ρ, h0, rh, rs, p⟩ => by
    refine ⟨g, ρ, h0, rh, rs, (Pst.bind (R := RT (ct X)) p).imp fun u H1 ⟨g1, v, h1, st, rh1, rv1, p1⟩ => ?_⟩
    refine ⟨g1, ρ, h1, rh1, rs.stp st, (Pst.bind (R := RT (ct X)) p1).imp fun u2 H2 ⟨g2, w, h2, st2, rh2, rv2, p2⟩ => ?_⟩
    exact rdE_of rh2 (rv1.stp st2) rv2 p2
end
end J
namespace J
open PySem PySem.Spec L2 PyProof.Rows
section
variable {P : Program} {w : World} {A : Around} {E : Value → Shared → Prop} {s : Shared} {a : Addr} {o : Obj} {es : Array (Int × Value)} {ep : Nat} {t : SetTable}
theorem setWalk_of {Q : Array (Int × Value) → Shared → Prop} (ho : s.heap.get? a = some o) (hd : o.data = .set es ep t) (hf : t.fits es.size = true) (hl : w.params.followText "set-order" = true ∨ t.led = true)
    (hQ : ∀ ys d, ys.toList.Perm es.toList → Q ys { s with drawn := d }) : wpAny (model P w) A (setWalk a) Q E s := by
  unfold setWalk
  refine wpAny_bind (wpAny_setState_of ho hd hf ?_)
  dsimp only
  refine wpAny_bind (wpAny_byText ?_)
  split
  · exact wpAny_bind (wpAny_askSetting (wpAny_pure (hQ _ s.drawn (pick_perm _ _))))
  · rename_i hb
    split
    · refine wpAny_bind (drawOrder_at _ _ s _ (Nat.le_of_eq Array.length_toList) fun ys d p => wpAny_pure (hQ _ d (by simpa using p)))
    · refine wpAny_bind (wpAny_of_eq (a := ()) ?_ (wpAny_pure (hQ es s.drawn (.refl _))))
      show (if (!t.led && decide (es.size > 1)) = true then unsupported "set:maker-not-led" else pure ()) = pure ()
      rcases hl with hl | hl
      · exact absurd hl hb
      · rw [hl] <;> rfl
/-! set(xs) - set(ys) == set(): ints -/
/-- a set whose things are ints -/
structure SInt (h : Heap) (a : Addr) : Prop where
  ex : ∃ o es ep t, h.get? a = some o ∧ o.data = .set es ep t ∧ t.fits es.size = true ∧ ∀ e ∈ es.toList, GoodE e
theorem setsQuiet_of : ∀ {l : List Addr} {Q : Bool → Shared → Prop}, (∀ b ∈ l, SInt s.heap b) → (∀ r, Q r s) → wpAny (model P w) A (setsQuiet l) Q E s := by
  intro l Q h hQ
  unfold setsQuiet
  refine wpAny_bind ?_
  refine wpAny_forIn_list _ (fun rest b s' => s' = s ∧ b = (none, ()) ∧ ∀ c ∈ rest, c ∈ l) _ ?_ ?_ l _ ⟨rfl, rfl, fun _ h => h⟩
  · rintro x rest b s' ⟨rfl, rfl, hm⟩
    obtain ⟨o, es, ep, t, ho, hd, hf, hg⟩ := (h x (hm x (List.mem_cons_self ..))).ex
    refine wpAny_bind (wpAny_setEntries_of ho hd hf ?_)
    refine wpAny_bind ?_
    refine wpAny_forIn_array' _ (fun rest b s2 => s2 = s' ∧ b = (none, ()) ∧ ∀ c ∈ rest, GoodE c) _ ?_ ?_ es _ ⟨rfl, rfl, hg⟩
    · rintro e r2 b s2 ⟨rfl, rfl, hm2⟩
      obtain ⟨k, tk, h1, _⟩ := hm2 e (List.mem_cons_self ..)
      obtain ⟨e1, e2⟩ := e
      simp only at h1
      subst h1
      exact wpAny_pure ⟨rfl, rfl, fun c hc => hm2 c (List.mem_cons_of_mem _ hc)⟩
    · rintro b s2 ⟨rfl, rfl, _⟩
      exact wpAny_pure ⟨rfl, rfl, fun c hc => hm c (List.mem_cons_of_mem _ hc)⟩
  · rintro b s' ⟨rfl, rfl, _⟩
    exact wpAny_pure (hQ true)
theorem SetR.sint {S : Int → Bool} {n : Nat} (R : SetR w s.heap a S n) : SInt s.heap a := by
  obtain ⟨o, es, ep, t, ho, hex, hd, g, nd, hm, hb, hf, hn, hr, hl⟩ := R
  exact ⟨o, es, ep, t, ho, hd, hf, g⟩
/-- a's things, in any order; the set f that is being filled stays what it is -/
theorem walkUnseen_of {S T F : Int → Bool} {n m k : Nat} {b f : Addr} {Q : Array (Int × Value) → Shared → Prop} (R : SetR w s.heap a S n) (ho : s.heap.get? a = some o) (hd : o.data = .set es ep t) (Rb : SetR w s.heap b T m) (Rf : SetR w s.heap f F k) (nf : f ≠ a)
    (hQ : ∀ ys h' d, ys.toList.Perm es.toList → Heap.SameBut f s.heap h' → SetR w h' f F k → Q ys { s with heap := h', drawn := d }) : wpAny (model P w) A (setWalkUnseen a [b, f] (some f)) Q E s := by
  have qa := SetR.sint (a := a) R
  have qb := SetR.sint (a := b) Rb
  have qf := SetR.sint (a := f) Rf
  obtain ⟨o', es', ep', t', ho', hex, hd', g, nd, hm, hb, hf, hn, hr, hl⟩ := R
  rw [ho] at ho'; cases ho'
  rw [hd] at hd'; cases hd'
  have plain : ∀ {Q}, (∀ ys h' d, ys.toList.Perm es.toList → Heap.SameBut f s.heap h' → SetR w h' f F k → Q ys { s with heap := h', drawn := d }) → wpAny (model P w) A (setWalk a) Q E s := fun hQ => setWalk_of ho hd hf hl fun ys d p => hQ ys s.heap d p (Heap.SameBut.refl f _) Rf
  unfold setWalkUnseen
  refine wpAny_bind (wpAny_setState_of ho hd hf ?_)
  dsimp only
  refine wpAny_bind (wpAny_byText ?_)
  split
  · exact plain hQ
  · rename_i cc
    refine wpAny_bind (setsQuiet_of (fun c hc => ?_) fun r => ?_)
    · simp only [List.mem_cons, List.not_mem_nil, or_false] at hc
      rcases hc with rfl | rfl | rfl
      · exact qa
      · exact qb
      · exact qf
    · split
      · exact plain hQ
      · refine wpAny_bind (wpAny_rule ?_)
        obtain ⟨of, ef, epf, tf, hof, hexf, hdf, gf, ndf, hmf, hbf, hff, hnf, hrf, hlf⟩ := id Rf
        refine wpAny_bind (wpAny_setState_of hof hdf hff ?_)
        dsimp only
        split
        · refine wpAny_bind (wpAny_storeSet_of hof hdf ?_ (fits_of_scanBound hbf))
          refine wpAny_pure (hQ es _ s.drawn (.refl _) (Heap.SameBut.update s.heap f _) ?_)
          have hlt : t.led = true ∨ w.params.followText "set-order" = true := hl.symm
          refine ⟨_, ef, _, _, store_at (es' := ef) hof hdf, hexf, rfl, gf, ndf, hmf, hbf, ?_, hnf, hrf, ?_⟩
          · exact hff
          · rcases hlt with z | z
            · rcases hlf with y | y
              · exact .inl y
              · exact .inr (by show (tf.led && t.led) = true; rw [y, z]; rfl)
            · exact .inl z
        · exact wpAny_pure (hQ es s.heap s.drawn (.refl _) (Heap.SameBut.refl f _) Rf)
theorem isSet_of {b : Addr} {Q : Bool → Shared → Prop} (hT : s.TypeIs (.ref b) "set") (h : Q true s) : wpAny (model P w) A (Builtin.Frozenset.isAnySet (.ref b)) Q E s := by
  unfold Builtin.Frozenset.isAnySet
  refine wpAny_bind (wpAny_isInstance hT PySem.sub_set_self ?_)
  exact wpAny_pure h
theorem base_of {Q : Value → Shared → Prop} (hT : s.TypeIs (.ref a) "set") (h : Q (.type "set") s) : wpAny (model P w) A (Builtin.Frozenset.baseOf a) Q E s := by
  unfold Builtin.Frozenset.baseOf
  refine wpAny_bind (wpAny_isInstance hT PySem.sub_set_self ?_)
  exact wpAny_pure h
theorem newSet_of {Q : Value → Shared → Prop} (h : Q (.ref s.heap.objs.size) { s with heap := s.heap.push { cls := .type "set", dict := none, data := .set #[] 0 (.fresh 0 0 (!w.params.followText "set-order")) } }) : wpAny (model P w) A (newSet (.type "set")) Q E s := by
  unfold newSet
  refine wpAny_bind (wpAny_byText ?_)
  simp only [newObj]
  exact wpAny_bind (wpAny_alloc (wpAny_pure h))
theorem SetR.typeIs {S : Int → Bool} {n : Nat} (R : SetR w s.heap a S n) : s.TypeIs (.ref a) "set" := by
  obtain ⟨o, es, ep, t, ho, hex, r⟩ := R
  exact ⟨o, ho, hex.1⟩
theorem size_of {S : Int → Bool} {n : Nat} {Q : Nat → Shared → Prop} (R : SetR w s.heap a S n) (h : Q n s) : wpAny (model P w) A (Builtin.Frozenset.sizeOf a) Q E s := by
  obtain ⟨o, es, ep, t, ho, hex, hd, g, nd, hm, hb, hf, hn, r⟩ := R
  unfold Builtin.Frozenset.sizeOf
  refine wpAny_bind (wpAny_setEntries_of ho hd hf (wpAny_pure ?_))
  rw [hn]; exact h
theorem diff_of {S T : Int → Bool} {n m : Nat} {b : Addr} {nm : String} {Q : Value → Shared → Prop} (R : SetR w s.heap a S n) (Rb : SetR w s.heap b T m) (hnm : n / 4 ≤ m) (hn : n < 64)
    (hQ : ∀ h' d k, k ≤ n → SetR w h' s.heap.objs.size (fun j => S j && !T j) k → (∀ c o, s.heap.get? c = some o → h'.get? c = some o) → Q (.ref s.heap.objs.size) { s with heap := h', drawn := d }) :
    wpAny (model P w) A (Builtin.Frozenset.difference nm a (.ref b)) Q E s := by
  unfold Builtin.Frozenset.difference
  dsimp only
  refine wpAny_bind (isSet_of (SetR.typeIs Rb) ?_)
  simp only [Bool.not_true, Bool.false_eq_true, if_false, if_true]
  refine wpAny_bind (m := Builtin.Frozenset.addrOf (.ref b)) (wpAny_pure ?_)
  simp only [Bool.false_and, Bool.false_eq_true, if_false]
  refine wpAny_bind (size_of Rb ?_)
  refine wpAny_bind (size_of R ?_)
  rw [if_neg (by omega)]
  refine wpAny_bind (base_of (SetR.typeIs R) ?_)
  refine wpAny_bind (newSet_of ?_)
  refine wpAny_bind (m := Builtin.Frozenset.addrOf _) (wpAny_pure ?_)
  obtain ⟨o, es, ep, t, ho, hex, hd, g, nd, hm, hb, hf, hN, hr, hl⟩ := id R
  have old : ∀ {c : Addr} {u : Obj} (x : Obj), s.heap.get? c = some u → (s.heap.push x).get? c = some u := fun x e => Heap.get?_push_of_some _ e
  have ho1 := old { cls := .type "set", dict := none, data := .set #[] 0 (.fresh 0 0 (!w.params.followText "set-order")) } ho
  have na : s.heap.objs.size ≠ a := Nat.ne_of_gt (Heap.lt_size ho)
  have nb : s.heap.objs.size ≠ b := Nat.ne_of_gt Rb.lt
  refine wpAny_bind (wpAny_setEpoch_of ho1 hd hf ?_)
  refine wpAny_bind ?_
  refine wpAny_holding ?_
  refine wpAny_bind ?_
  have Rf := setR_fresh (h := s.heap) w
  have R1 : SetR w (s.heap.push { cls := .type "set", dict := none, data := .set #[] 0 (.fresh 0 0 (!w.params.followText "set-order")) }) a S n := R.at fun o e => old _ e
  have Rb1 : SetR w (s.heap.push { cls := .type "set", dict := none, data := .set #[] 0 (.fresh 0 0 (!w.params.followText "set-order")) }) b T m := Rb.at fun o e => old _ e
  refine walkUnseen_of (s := { s with heap := s.heap.push _ }) R1 ho1 hd Rb1 Rf na ?_
  intro ys h' d pm sb rf
  refine wpAny_bind ?_
  have keep : ∀ {h2 : Heap}, Heap.SameBut s.heap.objs.size (s.heap.push { cls := .type "set", dict := none, data := .set #[] 0 (.fresh 0 0 (!w.params.followText "set-order")) }) h2 → ∀ c u, s.heap.get? c = some u → h2.get? c = some u := fun sb c u e => (sb.2 c (Nat.ne_of_lt (Heap.lt_size e))).trans (old _ e)
  refine wpAny_forIn_array' _ (fun rest _ s2 => ∃ (h2 : Heap) (dn : List (Int × Value)) (k : Nat), s2 = { s with heap := h2, drawn := d } ∧ Heap.SameBut s.heap.objs.size (s.heap.push { cls := .type "set", dict := none, data := .set #[] 0 (.fresh 0 0 (!w.params.followText "set-order")) }) h2 ∧ ys.toList = dn ++ rest ∧ k ≤ dn.length ∧ SetR w h2 s.heap.objs.size (fun j => decide (j ∈ dn.map keyOf) && !T j) k) _ ?_ ?_ ys _ ⟨h', [], 0, rfl, sb, rfl, Nat.le_refl _, rf.congr fun j => by simp⟩
  · rintro ⟨hx, x⟩ rest _ s2 ⟨h2, dn, k, rfl, sb2, e2, hk, r2⟩
    have ge : GoodE (hx, x) := g _ (pm.mem_iff.mp (by rw [e2]; simp))
    obtain ⟨q, tk, h1, h3⟩ := ge
    simp only at h1 h3
    have hh : hashInt q = (intKind P w).hash q := rfl
    rw [hh] at h3
    subst h1 h3
    have kp := keep sb2
    have Rb2 : SetR w h2 b T m := Rb.at fun o e => kp _ _ e
    have hlen : dn.length + (rest.length + 1) = n := by
      have z := pm.length_eq
      rw [e2, List.length_append, List.length_cons] at z
      have z2 : es.toList.length = n := by rw [Array.length_toList]; exact hN
      omega
    have fin : ∀ (h3 : Heap) (k3 : Nat), Heap.SameBut s.heap.objs.size h2 h3 → k3 ≤ dn.length + 1 → SetR w h3 s.heap.objs.size (fun j => decide (j ∈ (dn ++ [((intKind P w).hash q, Value.int q tk)]).map keyOf) && !T j) k3 → wpAny (model P w) A (do Builtin.Frozenset.unchanged nm a ep; pure (ForInStep.yield PUnit.unit)) (fun r s' => r = .yield PUnit.unit ∧ ∃ (h2 : Heap) (dn : List (Int × Value)) (k : Nat), s' = { s with heap := h2, drawn := d } ∧ Heap.SameBut s.heap.objs.size (s.heap.push { cls := .type "set", dict := none, data := .set #[] 0 (.fresh 0 0 (!w.params.followText "set-order")) }) h2 ∧ ys.toList = dn ++ rest ∧ k ≤ dn.length ∧ SetR w h2 s.heap.objs.size (fun j => decide (j ∈ dn.map keyOf) && !T j) k) E { s with heap := h3, drawn := d } := by
      intro h3 k3 sb3 hk3 r3
      have ho3 : h3.get? a = some o := keep (sb2.trans sb3) _ _ ho
      refine wpAny_bind ?_
      unfold Builtin.Frozenset.unchanged
      refine wpAny_bind (wpAny_setEpoch_of ho3 hd hf ?_)
      simp only [bne_self_eq_false, Bool.false_eq_true, if_false]
      refine wpAny_pure (wpAny_pure ⟨rfl, h3, dn ++ [((intKind P w).hash q, Value.int q tk)], k3, rfl, sb2.trans sb3, by rw [e2, List.append_assoc]; rfl, by simpa using hk3, r3⟩)
    have ky : keyOf ((intKind P w).hash q, Value.int q tk) = q := rfl
    have sf := wpAny_setFind_of (prog := P) (w := w) (A := A) (E := E) (s := { s with heap := h2, drawn := d }) (intKind_is P w q tk) rfl Rb2.setOf (Q := fun r s' => r.isSome = T q ∧ s' = { s with heap := h2, drawn := d }) (fun r hr2 => ⟨hr2, rfl⟩)
    have sa : ∀ {Q' : Bool → Shared → Prop}, (∀ h', Heap.SameBut s.heap.objs.size h2 h' → SetR w h' s.heap.objs.size (fun j => (decide (j ∈ dn.map keyOf) && !T j) || decide (j = q)) (if (decide (q ∈ dn.map keyOf) && !T q) = true then k else k + 1) → Q' (!(decide (q ∈ dn.map keyOf) && !T q)) { s with heap := h', drawn := d }) → wpAny (model P w) A (setAddHashed s.heap.objs.size (.int q tk) ((intKind P w).hash q)) Q' E { s with heap := h2, drawn := d } := fun hQ' => setR_add_hashed (s := { s with heap := h2, drawn := d }) r2 (show k + 1 < 4096 by omega) hQ'
    generalize (intKind P w).hash q = hq at sf fin e2 ky sa ⊢
    dsimp only
    refine wpAny_bind ?_
    refine wpAny_holding ?_
    refine wpAny_bind ?_
    refine wpAny_mono sf (fun r s' zz => ?_) fun _ _ e => e
    obtain ⟨hr2, rfl⟩ := zz
    refine wpAny_bind (wpAny_pure ?_)
    rw [hr2]
    cases hT : T q with
    | true =>
      simp only [Bool.not_true, Bool.false_eq_true, if_false]
      refine wpAny_pure (wpAny_mono (fin h2 k (Heap.SameBut.refl _ _) (by omega) (r2.congr fun j => ?_)) (fun r s' z => ?_) fun _ _ e => e)
      · by_cases ej : j = q
        · subst ej; simp [hT]
        · rw [List.map_append, List.map_cons, List.map_nil, ky]; simp only [List.mem_append, List.mem_singleton, ej, or_false, decide_false, Bool.or_false]
      · obtain ⟨rfl, z⟩ := z
        exact z
    | false =>
      simp only [Bool.not_false, if_true]
      refine wpAny_bind (sa fun h3 sb3 r3 => wpAny_pure (wpAny_mono (fin h3 _ sb3 ?_ (r3.congr fun j => ?_)) (fun r s' z => ?_) fun _ _ e => e))
      · split <;> omega
      · by_cases ej : j = q
        · subst ej; rw [List.map_append, List.map_cons, List.map_nil, ky]; simp [hT]
        · rw [List.map_append, List.map_cons, List.map_nil, ky]; simp only [List.mem_append, List.mem_singleton, ej, or_false, decide_false, Bool.or_false]
      · obtain ⟨rfl, z⟩ := z
        exact z
  · rintro _ s2 ⟨h2, dn, k, rfl, sb2, e2, hk, r2⟩
    rw [List.append_nil] at e2
    have hlen : dn.length = n := by
      have z := pm.length_eq
      rw [e2] at z
      have z2 : es.toList.length = n := by rw [Array.length_toList]; exact hN
      omega
    refine wpAny_pure ?_
    show wpAny (model P w) A (pure (Value.ref s.heap.objs.size)) Q E _
    refine wpAny_pure (hQ h2 d k (by omega) (r2.congr fun j => ?_) (keep sb2))
    have : (j ∈ dn.map keyOf) ↔ j ∈ es.toList.map keyOf := by rw [← e2]; exact (pm.map keyOf).mem_iff
    have h4 : S j = decide (j ∈ dn.map keyOf) := by
      rw [Bool.eq_iff_iff, hm j, decide_eq_true_eq]
      exact this.symm
    rw [h4]
theorem entry_s_sub : entryFor table "set.__sub__" = some Builtin.«frozenset.__sub__» := entryFor_alias (id' := "frozenset.__sub__") (by kernel_rfl) rfl (by decide +kernel) (by kernel_rfl)
theorem entry_s_eq : entryFor table "set.__eq__" = some Builtin.«frozenset.__eq__» := entryFor_alias (id' := "frozenset.__eq__") (by kernel_rfl) rfl (by decide +kernel) (by kernel_rfl)
theorem entry_s_ne : entryFor table "set.__ne__" = some Builtin.«frozenset.__ne__» := entryFor_alias (id' := "frozenset.__ne__") (by kernel_rfl) rfl (by decide +kernel) (by kernel_rfl)
end
section
variable {P : Program} {w : World} {A : Around} {E : Value → Shared → Prop} {s : Shared} {a : Addr}
theorem sub_sets {S T : Int → Bool} {n m : Nat} {b : Addr} {Q : Value → Shared → Prop} (R : SetR w s.heap a S n) (Rb : SetR w s.heap b T m) (hnm : n / 4 ≤ m) (hn : n < 64)
    (hQ : ∀ h' d k, k ≤ n → SetR w h' s.heap.objs.size (fun j => S j && !T j) k → (∀ c o, s.heap.get? c = some o → h'.get? c = some o) → Q (.ref s.heap.objs.size) { s with heap := h', drawn := d }) :
    wpAny (model P w) A (binaryOp .Sub (.ref a) (.ref b)) Q E s := by
  refine wpAny_binaryOp_same (SetR.typeIs R) (SetR.typeIs Rb) PySem.F.fills_set_sub PySem.F.slot_set_sub ?_
  refine wpAny_call_entry PySem.F.slot_set_sub (SetR.typeIs R) entry_s_sub ?_ (PySem.F.args_set_sub_2 _ _)
  unfold Builtin.«frozenset.__sub__»
  refine wpAny_bind (m := Builtin.Frozenset.slot1 "__sub__" _) (wpAny_of_eq (a := ((.ref a : Value), (.ref b : Value))) (by rfl) ?_)
  dsimp only
  simp only [Bool.false_eq_true, if_false]
  refine wpAny_bind ?_
  refine wpAny_bind (isSet_of (SetR.typeIs R) ?_)
  show wpAny _ _ (Builtin.Frozenset.isAnySet (.ref b)) _ _ _
  refine isSet_of (SetR.typeIs Rb) ?_
  simp only [Bool.not_true, Bool.false_eq_true, if_false]
  refine wpAny_bind (m := Builtin.Frozenset.addrOf _) (wpAny_pure ?_)
  refine wpAny_bind (diff_of R Rb hnm hn fun h' d k hk r kp => ?_)
  exact wpAny_pure ⟨_, rfl, (fun z => by cases z), hQ h' d k hk r kp⟩
theorem sub_set_frozenset : isSubtype (.type "set") (.type "frozenset") = pure false := by rw [isSubtype_type]; kernel_rfl
theorem subset0 {S T : Int → Bool} {b : Addr} {nm : String} {Q : Bool → Shared → Prop} (R : SetR w s.heap a S 0) (Rb : SetR w s.heap b T 0) (h : Q true s) : wpAny (model P w) A (Builtin.Frozenset.subsetOf nm a b) Q E s := by
  unfold Builtin.Frozenset.subsetOf
  refine wpAny_bind (size_of R (wpAny_bind (size_of Rb ?_)))
  rw [if_neg (by omega)]
  obtain ⟨o, es, ep, t, ho, hex, hd, g, nd, hm, hb, hf, hn, hr, hl⟩ := R
  obtain ⟨o2, es2, ep2, t2, ho2, hex2, hd2, g2, nd2, hm2, hb2, hf2, hn2, hr2, hl2⟩ := Rb
  have e1 : es = #[] := Array.eq_empty_of_size_eq_zero hn
  have e2 : es2 = #[] := Array.eq_empty_of_size_eq_zero hn2
  subst e1 e2
  refine wpAny_bind (wpAny_setEpoch_of ho hd hf ?_)
  refine wpAny_bind ?_
  unfold Builtin.Frozenset.walkUnseen
  refine wpAny_bind (wpAny_setEntries_of ho hd hf ?_)
  refine wpAny_bind (wpAny_setEntries_of ho2 hd2 hf2 ?_)
  exact wpAny_pure (wpAny_pure h)
/-- compared with a set that has nothing -/
theorem cmp_sets {S : Int → Bool} {n : Nat} {b : Addr} {ne : Bool} {Q : Value → Shared → Prop} (hu : A.units < cLine) (R : SetR w s.heap a S n) (Rb : SetR w s.heap b (fun _ => false) 0)
    (hQ : Q (.bool (if ne = true then !decide (n = 0) else decide (n = 0))) s) :
    wpAny (model P w) A (richCompare (if ne = true then .NotEq else .Eq) (.ref a) (.ref b)) Q E s := by
  cases ne with
  | false =>
    simp only [Bool.false_eq_true, if_false] at hQ ⊢
    refine wpAny_richCompare_same_room (SetR.typeIs R) (SetR.typeIs Rb) PySem.F.slot_set_eq ?_ hu
    refine wpAny_call_entry PySem.F.slot_set_eq (SetR.typeIs R) entry_s_eq ?_ (PySem.F.args_set_eq_2 _ _)
    unfold Builtin.«frozenset.__eq__»
    refine wpAny_bind (m := Builtin.Frozenset.slot1 "__eq__" _) (wpAny_of_eq (a := ((.ref a : Value), (.ref b : Value))) (by rfl) ?_)
    dsimp only
    refine wpAny_bind (isSet_of (SetR.typeIs Rb) ?_)
    simp only [Bool.not_true, Bool.false_eq_true, if_false]
    refine wpAny_bind (m := Builtin.Frozenset.addrOf _) (wpAny_pure ?_)
    refine wpAny_bind (m := Builtin.Frozenset.addrOf _) (wpAny_pure ?_)
    refine wpAny_bind (size_of R ?_)
    refine wpAny_bind (size_of Rb ?_)
    refine wpAny_bind ?_
    by_cases h0 : n = 0
    · subst h0
      simp only [bne_self_eq_false, Bool.false_eq_true, if_false]
      refine wpAny_bind (wpAny_bind (wpAny_isInstance (SetR.typeIs R) sub_set_frozenset (wpAny_pure ?_)))
      simp only [Bool.false_eq_true, if_false]
      exact subset0 R Rb (wpAny_pure ⟨_, rfl, (fun z => by cases z), hQ⟩)
    · have e : (n != 0) = true := by simp [h0]
      rw [e, if_pos rfl]
      refine wpAny_pure (wpAny_pure ⟨_, rfl, (fun z => by cases z), ?_⟩)
      rw [decide_eq_false h0] at hQ
      exact hQ
  | true =>
    simp only [if_true] at hQ ⊢
    refine wpAny_richCompare_same_room (SetR.typeIs R) (SetR.typeIs Rb) PySem.F.slot_set_ne ?_ hu
    refine wpAny_call_entry PySem.F.slot_set_ne (SetR.typeIs R) entry_s_ne ?_ (PySem.F.args_set_ne_2 _ _)
    unfold Builtin.«frozenset.__ne__»
    refine wpAny_bind (m := Builtin.Frozenset.slot1 "__ne__" _) (wpAny_of_eq (a := ((.ref a : Value), (.ref b : Value))) (by rfl) ?_)
    dsimp only
    refine wpAny_bind (isSet_of (SetR.typeIs Rb) ?_)
    simp only [Bool.not_true, Bool.false_eq_true, if_false]
    refine wpAny_bind (m := Builtin.Frozenset.addrOf _) (wpAny_pure ?_)
    refine wpAny_bind (m := Builtin.Frozenset.addrOf _) (wpAny_pure ?_)
    refine wpAny_bind (size_of R ?_)
    refine wpAny_bind (size_of Rb ?_)
    refine wpAny_bind ?_
    by_cases h0 : n = 0
    · subst h0
      simp only [bne_self_eq_false, Bool.false_eq_true, if_false]
      refine wpAny_bind (wpAny_bind (wpAny_isInstance (SetR.typeIs R) sub_set_frozenset (wpAny_pure ?_)))
      simp only [Bool.false_eq_true, if_false]
      exact subset0 R Rb (wpAny_pure ⟨_, rfl, (fun z => by cases z), hQ⟩)
    · have e : (n != 0) = true := by simp [h0]
      rw [e, if_pos rfl]
      refine wpAny_pure (wpAny_pure ⟨_, rfl, (fun z => by cases z), ?_⟩)
      rw [decide_eq_false h0] at hQ
      exact hQ
end
end J
namespace J
open PySem PySem.Spec L2 PyProof.Rows
theorem eraseDups_le_n : ∀ (n : Nat) (l : List Int), l.length ≤ n → l.eraseDups.length ≤ l.length
  | _, [], _ => by simp
  | 0, _ :: _, h => by simp at h
  | n + 1, x :: l, h => by
    rw [List.eraseDups_cons, List.length_cons, List.length_cons]
    have h1 := List.length_filter_le (fun b => !(b == x)) l
    have h2 := eraseDups_le_n n (l.filter fun b => !(b == x)) (Nat.le_trans h1 (by simpa using h))
    omega
theorem eraseDups_le (l : List Int) : l.eraseDups.length ≤ l.length := eraseDups_le_n _ l (Nat.le_refl _)
section
variable {X : Cx} {W : WX}
def rSetIt (K : PySem.W.Frag) (w : World) : List V → Hp → VK → Prop := fun xs H Q => ∃ (l : Addr) (ks : List Int), xs = [V.ref l] ∧ SqT K H l (ks.map V.int) ∧ ks.length < 64 ∧
  ∀ S, H S = none → Q (.ref S) (upd H S (SetO w S (fun j => decide (j ∈ ks)) ks.eraseDups.length))
theorem cr_setIt (hc : X.calm = true) : CallR X (.type "set") (rSetIt X.K X.w) := by
  intro pins s σ H xs us Q I r h
  obtain ⟨l, ks, rfl, hl, hf, q⟩ := h
  rw [Vals.ref1 r]
  obtain ⟨its, rv, pl, hz⟩ := I.tuple hl
  have fr : H s.heap.objs.size = none := I.hok.fresh (Nat.le_refl _)
  refine call_set_tupI (P := X.prog) (w := X.w) ks (I.ok.hd hc) pl (by simpa using intsAre_of rv) (show ks.length + 1 < 4096 by omega) fun h' tk m R hm k => ?_
  obtain rfl := set_card R
  have I2 := I.laid (t' := tk) (o := SetO X.w s.heap.objs.size (fun j => decide (j ∈ ks)) ks.eraseDups.length) k (Nat.le_refl _) (setO_new R)
  exact ⟨.ref s.heap.objs.size, _, I2, rfl, q _ fr⟩
/-- the rest of one set behind another -/
def rSubS (w : World) : R2 := fun x y H Q => ∃ (a b : Addr) (S T : Int → Bool) (n m : Nat), x = .ref a ∧ y = .ref b ∧ H a = some (SetO w a S n) ∧ H b = some (SetO w b T m) ∧ n / 4 ≤ m ∧ n < 64 ∧
  ∀ p k, H p = none → (k = 0 ↔ ∀ j, S j = true → T j = true) → Q (.ref p) (upd H p (SetO w p (fun j => S j && !T j) k))
theorem or_subS : OpR X (binaryOp .Sub) (rSubS X.w) := by
  intro pins s σ H x y v u Q I rx ry ⟨a, b, S, T, n, m, ex, ey, ha, hb, h1, h2, q⟩
  subst ex ey
  cases rx
  cases ry
  have fr : H s.heap.objs.size = none := I.hok.fresh (Nat.le_refl _)
  refine sub_sets (setO_get I ha) (setO_get I hb) h1 h2 fun h' d k hk r kp => ?_
  refine ⟨.ref s.heap.objs.size, upd H s.heap.objs.size (SetO X.w s.heap.objs.size (fun j => S j && !T j) k), ?_, rfl, q _ k fr ?_⟩
  · exact I.call' (s' := { s with heap := h', drawn := d }) (ch := []) rfl (Un.laid kp (Nat.le_refl _) fr) (I.hok.laid kp (Nat.le_refl _) (setO_new r)) I.bare (fun _ z => nomatch z)
  · obtain ⟨o, es, ep, t, ho, hex, hd, g, nd, hm, hb, hf, hn, hr, hl⟩ := r
    constructor
    · intro z j hj
      rw [z] at hn
      have e1 : es = #[] := Array.eq_empty_of_size_eq_zero hn
      subst e1
      have := (hm j).mp
      cases hT : T j with
      | true => rfl
      | false => simp [hj, hT] at this
    · intro z
      have e : es.toList = [] := by
        cases he : es.toList with
        | nil => rfl
        | cons e l =>
          have := (hm (keyOf e)).mpr (by rw [he]; simp)
          rw [Bool.and_eq_true] at this
          rw [z _ this.1] at this
          simp at this
      rw [← hn, ← Array.length_toList, e]
      rfl
def rCmp0 (w : World) (ne : Bool) : R2 := fun x y H Q => ∃ (a b : Addr) (S : Int → Bool) (n : Nat), x = .ref a ∧ y = .ref b ∧ H a = some (SetO w a S n) ∧ H b = some (SetO w b (fun _ => false) 0) ∧ Q (.bl (if ne = true then !decide (n = 0) else decide (n = 0))) H
def opSE (ne : Bool) : CmpOp := if ne = true then .NotEq else .Eq
theorem or_cmp0 {k : Nat} {ne : Bool} (hr : Room k X.A) : OpR X (compareOp (opSE ne)) (rCmp0 X.w ne) := by
  intro pins s σ H x y v u Q I rx ry ⟨a, b, S, n, ex, ey, ha, hb, q⟩
  subst ex ey
  cases rx
  cases ry
  have key := cmp_sets (P := X.prog) (E := X.xe) (ne := ne) hr.units0 (setO_get I ha) (setO_get I hb) (Q := EP X pins σ Q) ⟨.bl (if ne = true then !decide (n = 0) else decide (n = 0)), H, I, rfl, q⟩
  cases ne
  · exact key
  · exact key
def tupN : VV → Option (List Int)
  | .tup xs => intL xs
  | _ => none
def subV (ne : Bool) (ks ls : List Int) : Bool := if ne = true then !(ks.all fun k => decide (k ∈ ls)) else ks.all fun k => decide (k ∈ ls)
def opSubs (ne : Bool) : Op2 := fun _ v w => match tupN v, tupN w with
  | some ks, some ls => if ks.length < 64 ∧ ls.length < 64 ∧ ks.eraseDups.length / 4 ≤ ls.eraseDups.length then some (.bl (subV ne ks ls)) else none
  | _, _ => none
theorem tupN_get {c : Ct} {g : Gh} {H : Hp} {v : VV} {u : V} {ks : List Int} (r : RT c g H v u) (e : tupN v = some ks) : ∃ p, u = .ref p ∧ H p = some (.tup (ks.map V.int)) := by
  cases v with
  | tup xs =>
    have q := r.rv rfl
    rw [RV] at q
    obtain ⟨p, us, eu, ta, rvs⟩ := q
    obtain rfl := intL_vals rvs e
    exact ⟨p, eu, ta⟩
  | _ => cases e
theorem subs_run {ne : Bool} {j : Nat} {fa : EF} {σ : L2.St} {H : Hp} {Q : VK} {x : Str} (h : tE (ct X) W (eBin (opSubs ne) fa (eVar j)) σ H Q) :
    tOp (rCmp0 X.w ne) (tOp (rSubS X.w) (tCB (rSetIt X.K X.w) (fun σ H Q => tE (ct X) W fa σ H fun v H1 => Q [v] H1)) (tCB (rSetIt X.K X.w) (fun σ H Q => tVar j σ H fun v H1 => Q [v] H1))) (fun σ H Q => rSet0 X.w [] H Q) σ H Q := by
  obtain ⟨g, ρ, h0, rh, rs, pp⟩ := h
  refine ⟨g, ρ, h0, rh, rs, ?_⟩
  unfold eBin at pp
  refine (Pst.bind (R := RT (ct X)) pp).imp fun u H1 ⟨g1, v, h1, st, rh1, rv1, p1⟩ => ?_
  unfold eVar at p1
  split at p1
  case h_2 => exact p1.elim
  rename_i wv ew
  have rs1 := rs.stp st
  obtain ⟨u2, a2, r2⟩ := rs1.get j wv ew
  simp only [Res.bind] at p1
  unfold lift opSubs at p1
  cases e1 : tupN v with
  | none => rw [e1] at p1; exact p1.elim
  | some ks =>
    cases e2 : tupN wv with
    | none => rw [e1, e2] at p1; exact p1.elim
    | some ls =>
      rw [e1, e2] at p1
      simp only at p1
      by_cases cc : ks.length < 64 ∧ ls.length < 64 ∧ ks.eraseDups.length / 4 ≤ ls.eraseDups.length
      · rw [if_pos cc] at p1
        obtain ⟨c1, c2, c3⟩ := cc
        obtain ⟨p, rfl, tp⟩ := tupN_get rv1 e1
        obtain ⟨p2, rfl, tp2⟩ := tupN_get r2 e2
        refine ⟨p, ks, rfl, .inl (.inl tp), c1, fun S hS => ?_⟩
        have rhS := rh1.junk (o := SetO X.w S (fun j => decide (j ∈ ks)) ks.eraseDups.length) hS
        have stS : Stp g1 H1 g1 (upd H1 S (SetO X.w S (fun j => decide (j ∈ ks)) ks.eraseDups.length)) := .junk rh1 hS
        have hSs : upd H1 S (SetO X.w S (fun j => decide (j ∈ ks)) ks.eraseDups.length) S = some (SetO X.w S (fun j => decide (j ∈ ks)) ks.eraseDups.length) := upd_same
        have tp3 := stS.tp _ _ tp2
        have p2' := Pst.step stS p1
        clear p1 stS
        revert rhS hSs tp3 p2'
        generalize upd H1 S (SetO X.w S (fun j => decide (j ∈ ks)) ks.eraseDups.length) = H2
        intro rhS hSs tp3 p2'
        refine ⟨.ref p2, a2, p2, ls, rfl, .inl (.inl tp3), c2, fun S2 hS2 => ?_⟩
        have rhS2 := rhS.junk (o := SetO X.w S2 (fun j => decide (j ∈ ls)) ls.eraseDups.length) hS2
        have stS2 : Stp g1 H2 g1 (upd H2 S2 (SetO X.w S2 (fun j => decide (j ∈ ls)) ls.eraseDups.length)) := .junk rhS hS2
        have ne2 : S ≠ S2 := fun z => by rw [z, hS2] at hSs; cases hSs
        have hSs2 : upd H2 S2 (SetO X.w S2 (fun j => decide (j ∈ ls)) ls.eraseDups.length) S = some (SetO X.w S (fun j => decide (j ∈ ks)) ks.eraseDups.length) := by rw [upd_ne ne2]; exact hSs
        have hS22 : upd H2 S2 (SetO X.w S2 (fun j => decide (j ∈ ls)) ls.eraseDups.length) S2 = some (SetO X.w S2 (fun j => decide (j ∈ ls)) ls.eraseDups.length) := upd_same
        have p3 := Pst.step stS2 p2'
        clear p2' stS2
        revert rhS2 hSs2 hS22 p3
        generalize upd H2 S2 (SetO X.w S2 (fun j => decide (j ∈ ls)) ls.eraseDups.length) = H3
        intro rhS2 hSs2 hS22 p3
        refine ⟨S, S2, _, _, _, _, rfl, rfl, hSs2, hS22, c3, Nat.lt_of_le_of_lt (eraseDups_le ks) c1, fun P k hP hk => ?_⟩
        have rhP := rhS2.junk (o := SetO X.w P (fun j => decide (j ∈ ks) && !decide (j ∈ ls)) k) hP
        have stP : Stp g1 H3 g1 (upd H3 P (SetO X.w P (fun j => decide (j ∈ ks) && !decide (j ∈ ls)) k)) := .junk rhS2 hP
        have hPP : upd H3 P (SetO X.w P (fun j => decide (j ∈ ks) && !decide (j ∈ ls)) k) P = some (SetO X.w P (fun j => decide (j ∈ ks) && !decide (j ∈ ls)) k) := upd_same
        have p4 := Pst.step stP p3
        clear p3 stP
        revert rhP hPP p4
        generalize upd H3 P (SetO X.w P (fun j => decide (j ∈ ks) && !decide (j ∈ ls)) k) = H4
        intro rhP hPP p4
        refine ⟨rfl, fun Z hZ => ?_⟩
        have neZ : P ≠ Z := fun z => by rw [z, hZ] at hPP; cases hPP
        refine ⟨P, Z, _, k, rfl, rfl, (by rw [upd_ne neZ]; exact hPP), upd_same, ?_⟩
        have stZ : Stp g1 H4 g1 (upd H4 Z (SetO X.w Z (fun _ => false) 0)) := .junk rhP hZ
        have e : subV ne ks ls = (if ne = true then !decide (k = 0) else decide (k = 0)) := by
          have z : (ks.all fun k => decide (k ∈ ls)) = decide (k = 0) := by
            rw [Bool.eq_iff_iff, List.all_eq_true, decide_eq_true_eq, hk]
            simp
          unfold subV
          rw [z]
        rw [e] at p4
        exact p4 g1 _ _ stZ (rhP.junk hZ) rt_bl
      · rw [if_neg cc] at p1; exact p1.elim
theorem jt_setSub {ne : Bool} {a b : Expr} {j k : Nat} {fa : EF} {p1 p2 p3 q1 q2 q3 q4 q5 : Pos} (hr : Room k X.A) (hc : X.calm = true) (g2 : Gl X "set") (m2 : X.mg "set" = none) (ha : PE X a (tE (ct X) W fa)) (hb : PE X b (tVar j))
    (s1 : starEach [a] X.env = (false, eval a X.env) :: starEach [] X.env := by rfl) (s2 : starEach [b] X.env = (false, eval b X.env) :: starEach [] X.env := by rfl) (w1 : (backTo q1 (starEach [] X.env)).any (·.1) = false := by rfl) (w2 : (backTo q2 (starEach [] X.env)).any (·.1) = false := by rfl) (hm : behindInMarks (opSE ne) (.Call (.Name "set" p3) [] [] q5) = false := by rfl) :
    PT X (.Compare (.BinOp (.Call (.Name "set" p1) [a] [] q1) .Sub (.Call (.Name "set" p2) [b] [] q2) q3) [opSE ne] [.Call (.Name "set" p3) [] [] q5] q4) (tT (ct X) W (tVal (eBin (opSubs ne) fa (eVar j)))) :=
  PT.mono (pt_cmpR (or_cmp0 (ne := ne) hr) (pe_op or_subS (pe_callTy (T := "set") (cr_setIt (X := X) hc) g2 m2 rfl (pa_cons ha pa_nil s1) (by decide) (by decide) s1 w1) (pe_callTy (T := "set") (cr_setIt (X := X) hc) g2 m2 rfl (pa_cons hb pa_nil s2) (by decide) (by decide) s2 w2)) (pe_callTy0 (T := "set") cr_set0 g2 m2 rfl (by decide) (by decide)) hm) fun σ H Q h => subs_run (x := "") (tVal_of h)
end
end J
namespace J
open PySem L2
/-! len(x) by the class's own __len__; isinstance(x, own class) -/
def lenR (cn : Str) (F : FF) (v : VV) (h1 : VH) : Res VV := match insOf h1 v with
  | some a => if a.1 = cn then (noX (F [v] h1)).bind fun r h2 => (match r with
    | .int n => if 0 ≤ n ∧ n < 1000000 then .ok (.int n) h2 else .no
    | _ => .no) else .no
  | none => .no
def eLenOwn (cn : Str) (F : FF) (fa : EF) : EF := fun ρ h => (fa ρ h).bind fun v h1 => lenR cn F v h1
def RdL (c : Ct) (cn : Str) (Fm : FF) : List V → Hp → VK → Prop := fun xs H Q => ∃ g h v a x, xs = [x] ∧ RH c g h H ∧ RT c g H v x ∧ insOf h v = some a ∧ a.1 = cn ∧
  Pst c W0 [] (RT c) g H (fun u H' => ∃ n : Int, u = .int n ∧ 0 ≤ n ∧ n < 1000000 ∧ Q (.int n) H') (Fm [v] h)
/-- what isinstance asks of a class of the text -/
structure IsC (K : PySem.W.Frag) (C : Addr) : Prop where
  ha : PySem.W.findIn K (.ref C) "__class__" = some (some (.builtin "object.__class__"))
  hn : PySem.W.specialIn K (.builtin "object.__class__") "__get__" = some (some (.builtin "getset_descriptor.__get__"))
  ht : PySem.W.takesIn K (.builtin "object.__class__") = some true
  hm : PySem.W.mroIn K C (.type "object") = some true
/-- is a thing of this kind one of C? -/
def isiK (h : VH) (cn : Str) (cs : List Str) (v : VV) : Option Bool := match insOf h v with
  | some a => if a.1 = cn then some true else if a.1 ∈ cs then some false else none
  | none => match v with
    | .non => some false
    | .int _ => some false
    | .str _ => some false
    | .tup _ => some false
    | .lst _ => some false
    | .dK _ _ => some false
    | _ => none
def eIsiC (cn : Str) (cs : List Str) (fa : EF) : EF := fun ρ h => (fa ρ h).bind fun v h1 => lift ((isiK h1 cn cs v).map .bl) h1
structure OkI (K : PySem.W.Frag) (mg : Str → Option Value) (cn : Str) (cs : List Str) : Prop where
  ex : ∃ C, mg cn = some (.ref C) ∧ Cls K C ∧ IsC K C ∧ PySem.W.kitOne K (.ref C) (.ref C) = some true ∧ (∀ x ∈ cs, ∃ D, mg x = some (.ref D) ∧ Cls K D ∧ IsC K D ∧ PySem.W.kitOne K (.ref D) (.ref C) = some false) ∧
    (∀ n : String, n ∈ ["NoneType", "int", "str", "tuple", "list", "dict"] → PySem.W.kitOne K (.type n) (.ref C) = some false)
section
variable {X : Cx} {W : WX} {k : Nat} {cn : Str} {Fm : FF}
theorem cr_lenOwn (O : OkM X.prog X.w X.K X.mg X.base k cn "__len__" 1 [] Fm) (hr : Room (k + 1) X.A) : CallR X (.builtin "len") (RdL (ct X) cn Fm) := by
  intro pins s σ H xs us Q I r ⟨g, h, v, a, x, ex, rh, rv, ea, ca, pp⟩
  subst ex
  obtain ⟨p, C, dx, ws, rfl, mC, hp, _, _⟩ := insOf_get rh rv ea
  rw [ca] at mC
  rw [Vals.ref1 r]
  obtain ⟨C', f, fd, ps, dvs, ds, m, cl, me, F, bi, vd, rd⟩ := id O.ex
  have eC : C' = C := by have z := m.symm.trans mC; cases z; rfl
  subst eC
  obtain ⟨mA, J1, _⟩ := ins_get I.hok hp
  obtain ⟨od1, J1, _⟩ := J1.look
  obtain ⟨mm, hF⟩ := I.fr
  refine PySem.W.len_K hF I.ok.mod.kin J1 me.at_ me.fn ?_
  have e0 := rd g H
  have dn : dvs = [] := e0
  subst dn
  cases vd
  have hsp : spF (ct X) 1 Fm [.ref p] H (fun u H' => ∃ n : Int, u = .int n ∧ 0 ≤ n ∧ n < 1000000 ∧ Q (.int n) H') X0 := ⟨g, [v], h, rh, ⟨_, _, rfl, rv, rfl⟩, rfl, pp⟩
  have r2 : Vals [V.ref p] [Value.ref p] := .cons rfl .nil
  have hl := F.len _ _ _ _ hsp
  have bb := bi s [.ref p] I.kIn (by simpa using hl)
  have env : Env0 X.prog X.w X.K X.mg X.base X.A.in1 X.stack s H := by
    have e := I.env0
    exact ⟨e.frames, e.mod, e.bs, e.bsz, e.funs, e.frf, e.hok, e.bare⟩
  refine wpAny_call (codeAny_mono (F.run X.A.in1 X.stack s H ⟨[.ref p], []⟩ [.ref p] [.ref p] _ X0 hr.in1 env (by simpa using bb) r2 hsp) fun rr s' z => ?_)
  cases rr with
  | error er => exact (cx_no z).elim
  | ok fl =>
    cases fl with
    | ret u =>
      have z2 := I.after z
      obtain ⟨zz, H', I', rz, n, ez, n0, n1, qq⟩ := z2
      subst ez
      obtain ⟨t, rfl⟩ := rz
      exact ⟨⟨n0, by omega⟩, ⟨.int n, H', I'.tok _, ⟨_, rfl⟩, qq⟩⟩
    | next => exact z.elim
    | brk => exact z.elim
    | cont => exact z.elim
theorem j_lenOwn {e : Expr} {fa : EF} {p pos : Pos} (O : OkM X.prog X.w X.K X.mg X.base k cn "__len__" 1 [] Fm) (hr : Room (k + 1) X.A) (hg : Gl X "len") (hm : X.mg "len" = none) (ha : PE X e (tE (ct X) W fa))
    (he : starEach [e] X.env = (false, eval e X.env) :: starEach [] X.env := by rfl) (hpl : (backTo pos (starEach [] X.env)).any (·.1) = false := by rfl) : PE X (.Call (.Name "len" p) [e] [] pos) (tE (ct X) W (eLenOwn cn Fm fa)) :=
  PE.mono (pe_callB (id := "len") (cr_lenOwn O hr) hg hm rfl (pa_cons ha pa_nil he) (by decide) (by decide) he hpl) fun σ H Q ⟨g, ρ, h0, rh, rs, pp⟩ => by
    refine ⟨g, ρ, h0, rh, rs, (Pst.bind (R := RT (ct X)) pp).imp fun u H1 ⟨g1, v, h1, st, rh1, rv1, p1⟩ => ?_⟩
    unfold lenR at p1
    cases ea : insOf h1 v with
    | none => rw [ea] at p1; exact p1.elim
    | some a =>
      rw [ea] at p1
      simp only at p1
      by_cases cc : a.1 = cn
      · rw [if_pos cc] at p1
        refine ⟨g1, h1, v, a, u, rfl, rh1, rv1, ea, cc, ?_⟩
        cases er : Fm [v] h1 with
        | no => rw [er] at p1; exact p1
        | exc => rw [er] at p1; exact p1.elim
        | ok r h3 =>
          rw [er] at p1
          cases r with
          | int n =>
            simp only [noX, Res.bind] at p1
            by_cases c2 : 0 ≤ n ∧ n < 1000000
            · rw [if_pos c2] at p1
              exact fun g' H' u st rh' rv' => ⟨n, int_get rv', c2.1, c2.2, p1 g' H' _ st rh' rt_int⟩
            · rw [if_neg c2] at p1; exact p1.elim
          | _ => exact p1.elim
      · rw [if_neg cc] at p1; exact p1.elim
theorem j_isiC {cs : List Str} {e : Expr} {fa : EF} {p p2 pos : Pos} (O : OkI X.K X.mg cn cs) (hg : Gl X "isinstance") (hm : X.mg "isinstance" = none) (hgc : Gl X cn) (ha : PE X e (tE (ct X) W fa)) (h3 : (cn == ("__debug__" : Str)) = false := by decide)
    (he : starEach [e, .Name cn p2] X.env = (false, eval e X.env) :: starEach [.Name cn p2] X.env := by rfl) (he2 : starEach [.Name cn p2] X.env = (false, eval (.Name cn p2) X.env) :: starEach [] X.env := by rfl) (hpl : (backTo pos (starEach [.Name cn p2] X.env)).any (·.1) = false := by rfl) :
    PE X (.Call (.Name "isinstance" p) [e, .Name cn p2] [] pos) (tE (ct X) W (eIsiC cn cs fa)) := by
  obtain ⟨C, mC, clC, isC, kC, fD, fT⟩ := O.ex
  refine PE.mono (pe_callB (id := "isinstance") call_isi hg hm (by decide +kernel) (pa_cons ha (pa_cons (pe_glob (v := .ref C) hgc mC rfl h3) pa_nil he2) he) (by decide) (by decide) he hpl) fun σ H Q ⟨g, ρ, h0, rh, rs, pp⟩ => ?_
  refine ⟨g, ρ, h0, rh, rs, (Pst.bind (R := RT (ct X)) pp).imp fun u H1 ⟨g1, v, h1, st, rh1, rv1, p1⟩ => ?_⟩
  have fin : ∀ (t : Value) (b : Bool), TyX X.K H1 u t → PySem.W.kitOne X.K t (.ref C) = some b → isiK h1 cn cs v = some b → rIsi X.K [u, .ref C] H1 Q := by
    intro t b ty kk eb
    rw [eb] at p1
    exact ⟨u, .ref C, t, .ref C, b, rfl, .own C, ty, kk, p1 g1 H1 _ .refl rh1 rt_bl⟩
  cases ea : insOf h1 v with
  | some a =>
    obtain ⟨p, D, dx, us, eu, mD, hp, _, _⟩ := insOf_get rh1 rv1 ea
    by_cases c1 : a.1 = cn
    · rw [c1] at mD
      have eC : D = C := by have z := mD.symm.trans mC; cases z; rfl
      subst eC
      refine fin (.ref D) true ?_ kC (by unfold isiK; rw [ea]; simp only [if_pos c1])
      rw [eu]
      exact .base (.ins hp clC isC.ha isC.hn isC.ht isC.hm)
    · by_cases c2 : a.1 ∈ cs
      · obtain ⟨D', m', cl', is', k'⟩ := fD _ c2
        have eC : D' = D := by have z := m'.symm.trans mD; cases z; rfl
        subst eC
        refine fin (.ref D') false ?_ k' (by unfold isiK; rw [ea]; simp only [if_neg c1, if_pos c2])
        rw [eu]
        exact .base (.ins hp cl' is'.ha is'.hn is'.ht is'.hm)
      · unfold isiK at p1
        rw [ea] at p1
        simp only [if_neg c1, if_neg c2] at p1
        exact p1.elim
  | none =>
    cases v with
    | non => refine fin (.type "NoneType") false ?_ (fT _ (by decide)) (by unfold isiK; rw [ea]); rw [non_get rv1]; exact .base .non
    | int i => refine fin (.type "int") false ?_ (fT _ (by decide)) (by unfold isiK; rw [ea]); rw [int_get rv1]; exact .base (.int i)
    | str i => refine fin (.type "str") false ?_ (fT _ (by decide)) (by unfold isiK; rw [ea]); rw [str_get rv1]; exact .base (.str i)
    | tup xs =>
      refine fin (.type "tuple") false ?_ (fT _ (by decide)) (by unfold isiK; rw [ea])
      obtain ⟨p, us, ep, sp, rp⟩ := tup_get rv1
      rw [ep]
      exact .base (.tup sp)
    | lst xs =>
      refine fin (.type "list") false ?_ (fT _ (by decide)) (by unfold isiK; rw [ea])
      obtain ⟨p, us, ep, sp, rp⟩ := lstOf'_get (xs := xs) rh1 rv1 rfl
      rw [ep]
      exact .base (.lst sp)
    | dK ks vs =>
      refine fin (.type "dict") false ?_ (fT _ (by decide)) (by unfold isiK; rw [ea])
      have q := rv1.rv rfl
      rw [RV] at q
      obtain ⟨p, us, eu, _, rd, _, _⟩ := q
      rw [eu]
      rcases rd with rd | ⟨o, rd⟩
      · exact .base (.dK rd)
      · exact .fDict rd
    | _ => unfold isiK at p1; rw [ea] at p1; exact p1.elim
end
end J
namespace J
open PySem L2
/-! == and != of dicts with ints as values -/
section
variable {X : Cx} {W : WX}
/-! for k, v in d.items() -/
def iItemsK (f : EF) : AF := fun ρ h => (f ρ h).bind fun v h1 => match v with
  | .dK ks vs => .ok ((ks.zip vs).map fun p => .tup [keyB p.1, p.2]) h1
  | _ => .no
end
end J
namespace J
open PySem L2
theorem neC_of {K : PySem.W.Frag} {mg : Str → Option Value} {cn : Str} {C : Addr} (T : ClsT K mg cn C) (a : PySem.W.findIn K (.ref C) "__ne__" = some (some (.builtin "object.__ne__"))) (b : PySem.W.mroIn K C (.type "object") = some true) : NeC K mg cn := fun C' e => by
  rw [T.m] at e
  cases e
  exact ⟨a, b⟩
/-- what isinstance asks of a class, checked at once -/
def isB (K : PySem.W.Frag) (C : Addr) : Bool :=
  decide (PySem.W.findIn K (.ref C) "__class__" = some (some (.builtin "object.__class__"))) && (decide (PySem.W.specialIn K (.builtin "object.__class__") "__get__" = some (some (.builtin "getset_descriptor.__get__"))) && (decide (PySem.W.takesIn K (.builtin "object.__class__") = some true) && (decide (PySem.W.mroIn K C (.type "object") = some true) &&
  (decide (PySem.W.kitOne K (.ref C) (.ref C) = some true) && (["NoneType", "int", "str", "tuple", "list", "dict"] : List String).all fun n => decide (PySem.W.kitOne K (.type n) (.ref C) = some false)))))
theorem okI_of {K : PySem.W.Frag} {mg : Str → Option Value} {cn : Str} {C : Addr} (T : ClsT K mg cn C) (b : isB K C = true) : OkI K mg cn [] := by
  unfold isB at b
  obtain ⟨b1, b⟩ := Bool.and_eq_true_iff.mp b
  obtain ⟨b2, b⟩ := Bool.and_eq_true_iff.mp b
  obtain ⟨b3, b⟩ := Bool.and_eq_true_iff.mp b
  obtain ⟨b4, b⟩ := Bool.and_eq_true_iff.mp b
  obtain ⟨b5, b⟩ := Bool.and_eq_true_iff.mp b
  exact ⟨C, T.m, T.c, ⟨of_decide_eq_true b1, of_decide_eq_true b2, of_decide_eq_true b3, of_decide_eq_true b4⟩, of_decide_eq_true b5, fun x hx => by simp at hx, fun n hn => of_decide_eq_true (List.all_eq_true.mp b n hn)⟩
/-! list(range(n)), as data -/
def eListRng (f : EF) : EF := fun ρ h => (f ρ h).bind fun v h1 => match v with
  | .int n => if 0 ≤ n ∧ n ≤ SZ then .ok (.lst (rngV 0 n.toNat)) h1 else .no
  | _ => .no
section
variable {X : Cx} {W : WX}
theorem j_listRng {a : Expr} {f : EF} {p p2 pos pos2 : Pos} (hc : X.calm = true) (g1 : Gl X "list") (m1 : X.mg "list" = none) (g2 : Gl X "range") (m2 : X.mg "range" = none) (ha : PE X a (tE (ct X) W f))
    (hs : starEach [a] X.env = (false, eval a X.env) :: starEach [] X.env := by rfl) (hs2 : starEach [.Call (.Name "range" p2) [a] [] pos2] X.env = (false, eval (.Call (.Name "range" p2) [a] [] pos2) X.env) :: starEach [] X.env := by rfl)
    (hpl : (backTo pos (starEach [] X.env)).any (·.1) = false := by rfl) (hpl2 : (backTo pos2 (starEach [] X.env)).any (·.1) = false := by rfl) :
    PE X (.Call (.Name "list" p) [.Call (.Name "range" p2) [a] [] pos2] [] pos) (tE (ct X) W (eListRng f)) :=
  PE.mono (pe_callTy (cr_listRng hc) g1 m1 (by decide +kernel) (pa_cons (pe_callTy cr_range1 g2 m2 (by decide +kernel) (pa_cons ha pa_nil hs) (by decide) (by decide) hs hpl2) pa_nil hs2) (by decide) (by decide) hs2 hpl) fun σ H Q ⟨g, ρ, h0, rh, rs, p⟩ => by
    refine ⟨g, ρ, h0, rh, rs, (Pst.bind (R := RT (ct X)) p).imp fun u H1 ⟨g1, v, h1, st, rh1, rv1, p1⟩ => ?_⟩
    split at p1
    · rename_i n
      split at p1
      · rename_i cc
        refine ⟨n, by rw [int_get rv1], fun q hq => ⟨q, n, rfl, upd_same, cc.2, cc.1, fun l hl => ?_⟩⟩
        have s0 : Stp g1 H1 g1 (upd H1 q (.rng 0 n)) := .junk rh1 hq
        obtain ⟨s1, s2, s3⟩ := new_lst (rh1.junk hq) hl (rvs_rng n.toNat)
        exact p1 _ _ _ (s0.trans s1) s2 s3
      · exact p1.elim
    · exact p1.elim
end
end J
namespace J
open PySem L2
variable {ρ : VSt} {h h' : VH}
theorem a_own {ne c F fa fb} : eOwn ne c F fa fb ρ h = bnd (fa ρ h) (fun v h1 => bnd (fb ρ h1) (fun w h2 => ownR ne c F v w h2) (tg _)) (tg _) := nr rfl
theorem own_of {ne : Bool} {cn : Str} {F : FF} {v w : VV} {a b : Str × List Str × List VV} {r : Bool} (ea : insOf h v = some a) (eb : insOf h w = some b) (ca : a.1 = cn) (cb : b.1 = cn) (er : F [v, w] h = .ok (.bl r) h') : ownR ne cn F v w h = .ok (.bl (if ne = true then !r else r)) h' := by
  unfold ownR
  rw [ea, eb]
  simp only
  rw [if_pos ⟨ca, cb⟩, er]
  rfl
theorem a_lenOwn {c F fa} : eLenOwn c F fa ρ h = bnd (fa ρ h) (fun v h1 => lenR c F v h1) (tg _) := nr rfl
theorem lenR_of {cn : Str} {F : FF} {v : VV} {a : Str × List Str × List VV} {n : Int} (ea : insOf h v = some a) (ca : a.1 = cn) (er : F [v] h = .ok (.int n) h') (n0 : 0 ≤ n) (n1 : n < 1000000) : lenR cn F v h = .ok (.int n) h' := by
  unfold lenR
  rw [ea]
  simp only
  rw [if_pos ca, er]
  simp only [noX, Res.bind]
  rw [if_pos ⟨n0, n1⟩]
theorem a_isiC {c cs fa} : eIsiC c cs fa ρ h = bnd (fa ρ h) (fun v h1 => lift ((isiK h1 c cs v).map .bl) h1) (tg _) := nr rfl
theorem isi_same {cn : Str} {cs : List Str} {v : VV} {a : Str × List Str × List VV} (ea : insOf h v = some a) (ca : a.1 = cn) : (isiK h cn cs v).map VV.bl = some (.bl true) := by
  unfold isiK
  rw [ea]
  simp only
  rw [if_pos ca]
  rfl
theorem a_items {fa} : iItemsK fa ρ h = bnd (fa ρ h) (fun v h1 => match v with
  | .dK ks vs => .ok ((ks.zip vs).map fun p => VV.tup [keyB p.1, p.2]) h1
  | _ => .no) (tg _) := nr rfl
theorem a_methX {cn m n F dws fo fa} : eMethX cn m n F dws fo fa ρ h = bnd (fo ρ h) (fun v h1 => methC cn m (insOf h1 v) (bnd (fa ρ h1) (fun vs h2 => if (v :: (vs ++ dws)).length = n then F (v :: (vs ++ dws)) h2 else .no) (tg _))) (tg _) := by
  unfold eMethX
  show Res.bind _ _ = Res.bind _ _
  congr 1
theorem a_makeX {cn n F dws fa} : eMakeX cn n F dws fa ρ h = bnd (fa ρ h) (fun vs h1 => if (VV.obj h1.length :: (vs ++ dws)).length = n then mkX h1.length (F (.obj h1.length :: (vs ++ dws)) (h1 ++ [.ins cn [] []])) else .no) (tg _) := nr rfl
theorem fin_exc {x ns vs} {n : Nat} : (SR.exc x ns vs ρ h).fin n = .exc x ns vs h := nr rfl
def lrD (v : VV) (h1 : VH) : Res VV := match v with
  | .int n => if 0 ≤ n ∧ n ≤ SZ then .ok (.lst (rngV 0 n.toNat)) h1 else .no
  | _ => .no
theorem a_listRng {f} : eListRng f ρ h = bnd (f ρ h) lrD (tg _) := nr rfl
theorem lrD_int {n : Int} : lrD (.int n) h = if 0 ≤ n ∧ n ≤ SZ then .ok (.lst (rngV 0 n.toNat)) h else .no := nr rfl
end J
namespace J
open PySem L2
/-! the head: one run in the kernel, what is leant on told by names -/
def obsL (as : List Addr) (fa : List He.Fa) (fn : List He.DefD) (ex : PySem.W.Frag → Bool) (g : Addr → Option Obj) : He.AlD × Bool := (He.obsD fa fn (He.frT g as), ex (He.frT g as))
/-- what is told of the written part -/
def SaysL (fa : List He.Fa) (fn : List He.DefD) (ex : PySem.W.Frag → Bool) (h : Heap) (K : PySem.W.Frag) : Prop := K.In h ∧ He.SaysD fa fn K ∧ ex K = true
def hookL (as : List Addr) (fa : List He.Fa) (fn : List He.DefD) (ex : PySem.W.Frag → Bool) : PySem.W.Hook where
  α := He.AlD × Bool
  obs s := obsL as fa fn ex s.heap.get?
  val _ := (He.valD fn, true)
  says _ h := ∃ K : PySem.W.Frag, SaysL fa fn ex h K
  of _ _ e := ⟨_, He.frT_in, congrArg (fun z : He.AlD × Bool => z.1) e, congrArg (fun z : He.AlD × Bool => z.2) e⟩
  keeps _ _ _ := fun ⟨K, a, b⟩ k => ⟨K, PySem.W.Frag.In.keeps a k, b⟩
theorem obsL_eq {as : List Addr} {fa : List He.Fa} {fn : List He.DefD} {ex : PySem.W.Frag → Bool} (s : PySem.W.SharedT) : obsL as fa fn ex (HandSHeadRun.getT s) = (hookL as fa fn ex).obs s.abs := by
  show obsL as fa fn ex (HandSHeadRun.getT s) = obsL as fa fn ex s.abs.heap.get?
  rw [show HandSHeadRun.getT s = s.abs.heap.get? from funext (HandSHeadRun.getT_eq s)]
section
variable {fa : List He.Fa} {fn : List He.DefD} {ex : PySem.W.Frag → Bool} {h : Heap} {K : PySem.W.Frag} {mg : Str → Option Value}
theorem SaysL.f (c : SaysL fa fn ex h K) {f : He.Fa} (i : Nat) (e : fa[i]? = some f) : f.ok K = true := c.2.1.fact i e
theorem SaysL.d (c : SaysL fa fn ex h K) {d : He.DefD} (i : Nat) (e : fn[i]? = some d) : ∃ fd, FunD K d.name d.qual d.params d.body d.scope (d.dvs K) (d.kws K) (He.fAd K d.at_) fd := c.2.1.def_ i e
/-- a global's def -/
theorem SaysL.dm (c : SaysL fa fn ex h K) {x : Str} {st : Stmt} {df : List He.Dv} {kw : List (Str × He.Dv)} (i : Nat) (e : fn[i]? = some ⟨(x, none), x, x, defArgs st, defBody st, defScope st, df, kw⟩) : ∃ fd, Dm K x x st (df.map (He.Dv.v K)) (kw.map fun q => (q.1, q.2.v K)) (He.ga K x) fd := by
  obtain ⟨fd, F⟩ := c.d i e
  exact ⟨fd, ⟨F⟩⟩
/-- a method -/
theorem SaysL.mm (c : SaysL fa fn ex h K) {x m q : Str} {st : Stmt} {df : List He.Dv} {kw : List (Str × He.Dv)} (i : Nat) (e : fn[i]? = some ⟨(x, some m), m, q, defArgs st, defBody st, defScope st, df, kw⟩) : ∃ fd, Dm K m q st (df.map (He.Dv.v K)) (kw.map fun q => (q.1, q.2.v K)) (He.ma K (He.ga K x) m) fd := by
  obtain ⟨fd, F⟩ := c.d i e
  exact ⟨fd, ⟨F⟩⟩
theorem SaysL.glo (c : SaysL fa fn ex h K) (G : h.Ns mainGlobals mg) {x : Str} (i : Nat) (e : fa[i]? = some (.glo x)) : mg x = some (.ref (He.ga K x)) := He.glo_ok c.1 G (c.f i e)
theorem SaysL.free (c : SaysL fa fn ex h K) (G : h.Ns mainGlobals mg) {x : Str} (i : Nat) (e : fa[i]? = some (.free x)) : mg x = none := He.free_ok c.1 G (c.f i e)
theorem SaysL.int (c : SaysL fa fn ex h K) (G : h.Ns mainGlobals mg) {x : Str} {z : Int} (i : Nat) (e : fa[i]? = some (.int x z)) : ∃ t, mg x = some (.int z t) := He.int_ok c.1 G (c.f i e)
theorem SaysL.str (c : SaysL fa fn ex h K) (G : h.Ns mainGlobals mg) {x z : Str} (i : Nat) (e : fa[i]? = some (.str x z)) : ∃ t, mg x = some (.str z t) := He.str_ok c.1 G (c.f i e)
theorem SaysL.cls (c : SaysL fa fn ex h K) (G : h.Ns mainGlobals mg) {x : Str} (i j : Nat) (e : fa[i]? = some (.glo x)) (e2 : fa[j]? = some (.cls x)) : ClsT K mg x (He.ga K x) := ⟨c.glo G i e, He.cls_ok (c.f j e2)⟩
end
/-- != by object's own -/
def neB (K : PySem.W.Frag) (x : Str) : Bool := decide (PySem.W.findIn K (.ref (He.ga K x)) "__ne__" = some (some (.builtin "object.__ne__"))) && decide (PySem.W.mroIn K (He.ga K x) (.type "object") = some true)
theorem neB_ok {K : PySem.W.Frag} {x : Str} (b : neB K x = true) : PySem.W.findIn K (.ref (He.ga K x)) "__ne__" = some (some (.builtin "object.__ne__")) ∧ PySem.W.mroIn K (He.ga K x) (.type "object") = some true := by
  obtain ⟨b0, b1⟩ := Bool.and_eq_true_iff.mp b
  exact ⟨of_decide_eq_true b0, of_decide_eq_true b1⟩
/-- the law's code object and its empty table -/
def tabB (K : PySem.W.Frag) : Bool := match PySem.W.tabIn K lamFn with
  | some (_, T) => (K.lookup T).isNone
  | none => false
theorem tabB_ok {K : PySem.W.Frag} (b : tabB K = true) : ∃ c T, PySem.W.tabIn K lamFn = some (c, T) ∧ K.lookup T = none := by
  unfold tabB at b
  split at b
  · rename_i c T e
    exact ⟨c, T, e, by simpa using b⟩
  · cases b
end J
namespace J
open PySem L2
/-! {k: v, l: w} with tuples as keys -/
end J
namespace J
open PySem L2
end J
namespace J
open PySem L2
/-! dict(d), a new root -/
def dcp (v : VV) (h1 : VH) : Res VV := match v with
  | .dK ks vs => .ok (.obj h1.length) (h1 ++ [.dK ks vs])
  | _ => .no
def eDictD (f : EF) : EF := fun ρ h => (f ρ h).bind dcp
/-! sorted(set(t)), t a tuple of ints -/
variable {ρ : VSt} {h h' : VH}
theorem a_dictD {f} : eDictD f ρ h = bnd (f ρ h) dcp (tg _) := nr rfl
theorem dcp_dK {ks vs} : dcp (.dK ks vs) h = .ok (.obj h.length) (h ++ [.dK ks vs]) := nr rfl
end J
namespace J
open PySem L2
open PyProof.Rows (envOfC)
/-! {k: v for t in xs}, xs data or a root that nothing in it changes -/
def seqP (v : VV) (h : VH) : Option (List VV) := match v with
  | .lst xs => some xs
  | .obj n => match h[n]? with
    | some (.fl xs) => some xs
    | _ => none
  | _ => none
def eDcP (own : List Nat) (fo : EF) (b : VV → VSt → Option VSt) (fk fv : EF) : EF := fun ρ h => (fo ρ h).bind fun v h1 => match seqP v h1 with
  | none => .no
  | some xs => if xs.length > SZ then .no else match dcGo b fk fv (wp ρ own) xs h1 ([], []) with
    | .ok a h2 => .ok (.dK a.1 a.2) h2
    | _ => .no
section
variable {X : Cx} {W : WX}
/-! xs[::-1] -/
def eRev (f : EF) : EF := fun ρ h => (f ρ h).bind fun v h1 => match lstOf h1 v with
  | some xs => .ok (.lst xs.reverse) h1
  | none => .no
theorem RVs.rev {c : Ct} {z : Addr → Prop} {H : Hp} : ∀ {vs : List VV} {us : List V}, RVs c z H vs us → RVs c z H vs.reverse us.reverse
  | [], us, h => by rw [RVs] at h; subst h; exact RVs.nil
  | x :: xs, us, h => by
    rw [RVs] at h
    obtain ⟨u, r, rfl, a, b⟩ := h
    rw [List.reverse_cons, List.reverse_cons]
    exact RVs.app (RVs.rev b) (RVs.one a)
theorem j_rev {e : Expr} {f : EF} {k : Nat} {p1 p2 p3 pos : Pos} (he : PE X e (tE (ct X) W f)) : PE X (.Subscript e (.Slice none none (some (.UnaryOp .USub (.Constant (.int 1) k p1) p2)) p3) pos) (tE (ct X) W (eRev f)) :=
  PE.mono (pe_revL he) fun σ H Q ⟨g, ρ, h0, rh, rs, p⟩ => by
    refine ⟨g, ρ, h0, rh, rs, (Pst.bind (R := RT (ct X)) p).imp fun u H1 ⟨g1, v, h1, st, rh1, rv1, p1⟩ => ?_⟩
    cases es : lstOf h1 v with
    | none => rw [es] at p1; exact p1.elim
    | some xs =>
      rw [es] at p1
      obtain ⟨a, us, eu, sq, rvs⟩ := lstOf_get rh1 rv1 es
      refine ⟨a, us, eu, sq, fun q hq => ?_⟩
      obtain ⟨s1, s2, s3⟩ := new_lst rh1 hq rvs.rev
      exact p1 _ _ _ s1 s2 s3
/-! x.clear() of a root -/
def eClr (o : EF) : EF := fun ρ h => (o ρ h).bind fun ov h1 => match ov with
  | .obj n => (match h1[n]? with
    | some (.fl _) => .ok .non (h1.set n (.fl []))
    | _ => .no)
  | _ => .no
/-! root != data -/
/-! dict(xs), xs a list of pairs with unlike keys -/
/-! == of an instance and a dict, by the class's own __eq__ -/
variable {k : Nat} {cn : Str} {Fm : FF}
def ownD (cn : Str) (F : FF) (v w : VV) (h2 : VH) : Res VV := match insOf h2 v, w with
  | some a, .dK ks vs => if a.1 = cn then (noX (F [v, .dK ks vs] h2)).bind fun r h3 => (match r with
    | .bl r => .ok (.bl r) h3
    | _ => .no) else .no
  | _, _ => .no
def eOwnD (cn : Str) (F : FF) (fa fb : EF) : EF := fun ρ h => (fa ρ h).bind fun v h1 => (fb ρ h1).bind fun w h2 => ownD cn F v w h2
end
end J
namespace J
open PySem L2 M
/-! evaluation of what J56 added -/
section
variable {ρ : VSt} {h : VH}
def dcS (o : Option (List VV)) (k : List VV → Res VV) : Res VV := match o with
  | none => .no
  | some xs => k xs
theorem dcS_some {xs : List VV} {k : List VV → Res VV} : dcS (some xs) k = k xs := nr rfl
theorem a_dcP {own fo b fk fv} : eDcP own fo b fk fv ρ h = bnd (fo ρ h) (fun v h1 => dcS (seqP v h1) fun xs => if xs.length > SZ then .no else afterK (dcGo b fk fv (wp ρ own) xs h1 ([], []))) (tg _) := nr rfl
theorem seqP_lst {xs : List VV} : seqP (.lst xs) h = some xs := nr rfl
def revR (o : Option (List VV)) (h1 : VH) : Res VV := match o with
  | some xs => .ok (.lst xs.reverse) h1
  | none => .no
theorem a_rev {f} : eRev f ρ h = bnd (f ρ h) (fun v h1 => revR (lstOf h1 v) h1) (tg _) := nr rfl
theorem revR_lst {xs : List VV} {h2 : VH} : revR (lstOf h2 (.lst xs)) h = .ok (.lst xs.reverse) h := nr rfl
def clrO (o : Option VO) (n : Nat) (h1 : VH) : Res VV := match o with
  | some (.fl _) => .ok .non (h1.set n (.fl []))
  | _ => .no
def clrR (v : VV) (h1 : VH) : Res VV := match v with
  | .obj n => clrO h1[n]? n h1
  | _ => .no
theorem a_clr {f} : eClr f ρ h = bnd (f ρ h) clrR (tg _) := by
  unfold eClr
  cases f ρ h with
  | no => rfl
  | exc => rfl
  | ok ov h1 =>
    cases ov <;> rfl
theorem clrR_obj {n : Nat} : clrR (.obj n) h = clrO h[n]? n h := nr rfl
theorem clrO_fl {xs : List VV} {n : Nat} : clrO (some (.fl xs)) n h = .ok .non (h.set n (.fl [])) := nr rfl
theorem a_ownD {cn F fa fb} : eOwnD cn F fa fb ρ h = bnd (fa ρ h) (fun v h1 => bnd (fb ρ h1) (fun w h2 => ownD cn F v w h2) (tg _)) (tg _) := nr rfl
end
end J
namespace J
open PySem L2
open PyProof.Rows (envOfC)
/-! for v in d.values(), d's keys tuples -/
/-! the same over the small heap -/
section
variable {X : Cx} {W : WX}
def iValsD (f : EF) : AF := fun ρ h => (f ρ h).bind fun v h1 => match v with
  | .dT ks vs => .ok vs h1
  | _ => .no
end
end J
namespace J
open PySem L2
/-! the roots that one turn of a loop made are forgotten at its end -/
end J
namespace J
open PySem L2
open PyProof.Rows (envOfC)
/-! dict(zip(t, xs)), t a tuple: the pairs are held, so zip makes each anew -/
end J
namespace J
open PySem L2
/-! dict(zip(t, xs)), t a tuple, the keys unlike -/
def dzMT (vs : List VV) : Option VV := match vs with
  | [.tup xs, .lst ys] => (keysA xs).bind fun ks => if ks.Nodup ∧ ks.length = ys.length ∧ ks.length ≤ 1000 then some (.dK ks ys) else none
  | _ => none
def eDictZipT (a : AF) : EF := fun ρ h => (a ρ h).bind fun vs h1 => lift (dzMT vs) h1
end J
namespace J
open PySem L2 M
/-! evaluation of what J57 added -/
section
variable {ρ : VSt} {h : VH}
def valsD (v : VV) (h1 : VH) : Res (List VV) := match v with
  | .dT _ vs => .ok vs h1
  | _ => .no
theorem a_valsD {f} : iValsD f ρ h = bnd (f ρ h) valsD (tg _) := nr rfl
theorem a_dictZipT {a : AF} : eDictZipT a ρ h = bnd (a ρ h) (fun vs h1 => lift (dzMT vs) h1) (tg _) := nr rfl
theorem valsD_dT {ks vs} : valsD (.dT ks vs) h = .ok vs h := nr rfl
end
end J
namespace J
open PySem L2
open PyProof.Rows (IntsAre)
/-! max(list of ints, default=int) -/
def maxZ : List Int → Int → Int
  | [], d => d
  | x :: xs, _ => xs.foldl max x
def cMaxD (h : VH) (vs ws : List VV) : Option VV := match vs, ws with
  | [v], [.int d] => (lstOf h v).bind fun xs => (intsOf xs).map fun ns => .int (maxZ ns d)
  | _, _ => none
def eMaxD (a k : AF) : EF := fun ρ h => (a ρ h).bind fun vs h1 => (k ρ h1).bind fun ws h2 => lift (cMaxD h2 vs ws) h2
end J
namespace J
open PySem L2
open PySem.Spec
open PyProof.Rows hiding St
/-! list comprehensions of three clauses. One lemma (clause_loop) serves the loop of each clause, another (enter_block) the way into the block. -/
end J
namespace J
open PySem L2
/-! three clauses over the small heap -/
def lc3Go (b : VV → VSt → Option VSt) (t : TF) (it1 : AF) (b1 : VV → VSt → Option VSt) (vs1 : List Nat) (t1 : TF) (it2 : AF) (b2 : VV → VSt → Option VSt) (vs2 : List Nat) (t2 : TF) (e : EF) (ρ : VSt) : List VV → VH → List VV → Res (List VV)
  | [], h, acc => .ok acc h
  | x :: xs, h, acc => match b x ρ with
    | none => .no
    | some ρ' => (t ρ' h).bind fun k h1 => if k = true then (it1 ρ' h1).bind fun ys h2 => (lc2Go b1 t1 it2 b2 vs2 t2 e (wp ρ' vs1) ys h2 acc).bind fun vs h3 => lc3Go b t it1 b1 vs1 t1 it2 b2 vs2 t2 e ρ xs h3 vs else lc3Go b t it1 b1 vs1 t1 it2 b2 vs2 t2 e ρ xs h1 acc
def eLc3 (own : List Nat) (it : AF) (b : VV → VSt → Option VSt) (t : TF) (it1 : AF) (b1 : VV → VSt → Option VSt) (vs1 : List Nat) (t1 : TF) (it2 : AF) (b2 : VV → VSt → Option VSt) (vs2 : List Nat) (t2 : TF) (e : EF) : EF := fun ρ h => (it ρ h).bind fun xs h1 => match lc3Go b t it1 b1 vs1 t1 it2 b2 vs2 t2 e (wp ρ own) xs h1 [] with
  | .ok vs h2 => .ok (.lst vs) h2
  | _ => .no
end J
namespace J
open PySem L2
open PySem.Spec
open PyProof.Rows hiding St
/-! x = [e for .. in .. for .. in .. for .. in ..] -/
end J
namespace J
open PySem L2
/-! {k: v for t in xs}, the keys tuples -/
section
variable {X : Cx} {W : WX}
def eDc1T (own : List Nat) (it : AF) (b : VV → VSt → Option VSt) (fk fv : EF) : EF := fun ρ h => (it ρ h).bind fun xs h1 => (noX (accGo b (stDict fk fv) (wp ρ own) xs h1 ([], []))).bind fun a h2 => .ok (.dT a.1 a.2) h2
end
end J
namespace J
open PySem L2
/-! a, b = a list -/
end J
namespace J
open PySem L2
/-! len(set(t)), t a tuple of ints -/
end J
namespace J
open PySem L2
open PySem.Spec
open PyProof.Rows hiding St
/-! some statements taken together, so that the roots that they made may be forgotten behind them -/
end J
namespace J
open PySem L2
/-! max(xs), a list of ints that is not empty -/
end J
namespace J
open PySem L2
/-! sorted(xs) whose list is a root -/
end J
namespace J
open PySem L2
/-! for i, x in enumerate(xs), xs a root that may be read while the loop runs -/
end J
namespace J
open PySem L2
/-! a call that only looks at lists which are roots: for as long as it runs all roots are frozen, afterwards they are roots again -/
end J
namespace J
open PySem L2
open AutoSeq1 (wpAny_loadPart')
/-! enumerate(a tuple) -/
theorem newE_tup (l : Addr) (items : Array Value) (n : Nat) (dct : Option Addr) (sl : Array (Option Value)) :
    Meets (Builtin.«enumerate.__new__» ⟨[.type "enumerate", .ref l], []⟩) (fun _ R s => s.heap.get? l = some { cls := .type "tuple", dict := dct, data := .seq items n, slots := sl } ∧
      R (.ok (.ret (.ref (s.heap.push { cls := .type "tuple_iterator", data := .fields #[.ref l, .int 0 0] }).objs.size)))
        { s with heap := (s.heap.push { cls := .type "tuple_iterator", data := .fields #[.ref l, .int 0 0] }).push { cls := .type "enumerate", data := .fields #[.none, .bool false, .ref s.heap.objs.size, rawInt 0, .none, .none] } }) :=
  .of_wp fun prog w A R s h => by
    obtain ⟨hp, g, d, tk, os⟩ := s
    obtain ⟨hl, h⟩ := h
    have hsub := sub_enumerate
    have hT : Heap.IsTuple (Shared.heap ⟨hp, g, d, tk, os⟩) l items := ⟨_, hl, rfl, n, rfl⟩
    wp_walk using wpAny_loadPart' hl
    refine wpAny_stack_any fun st => wpAny_pure ?_
    split
    · rename_i c _ _ _ _ _
      cases (c == Value.type "enumerate") <;>
        (wp_walk using wpAny_loadPart' hl, wpAny_pyIter_tuple hT
         exact ⟨_, rfl, h⟩)
    · wp_walk using wpAny_loadPart' hl, wpAny_pyIter_tuple hT
      exact ⟨_, rfl, h⟩
section
variable {prog : Program} {w : World} {A : Around} {E : Value → Shared → Prop} {s : Shared}
theorem call_enumT {l : Addr} {items : Array Value} {Q : Value → Shared → Prop} (hT : s.heap.IsTuple l items)
    (h : ∀ h', IsEnum h' (s.heap.objs.size + 1) s.heap.objs.size 0 .none → h'.IsTupleIter s.heap.objs.size l 0 → (∀ b o, s.heap.get? b = some o → h'.get? b = some o) → Q (.ref (s.heap.objs.size + 1)) { s with heap := h' }) :
    wpAny (model prog w) A (call (.type "enumerate") [.ref l]) Q E s := by
  obtain ⟨⟨c, dct, dt, sl⟩, hl, hc, n, hd⟩ := hT
  obtain rfl : c = .type "tuple" := hc
  obtain rfl : dt = .seq items n := hd
  refine callType_new F.called_enumerate (by decide) (F.typeCall_enumerate_1 _) (F.newCall_enumerate_1 _) (fun obj => F.args_object_init_2 obj _) F.entry_enumerate_new
    (newE_tup l items n dct sl) ⟨hl, ?_⟩
  generalize eo : ({ cls := .type "tuple_iterator", data := .fields #[.ref l, .int 0 0] } : Obj) = oi
  have hz : (s.heap.push oi).objs.size = s.heap.objs.size + 1 := Heap.size_push ..
  have g1 : (s.heap.push oi).get? s.heap.objs.size = some oi := Heap.get?_push_size _ (by rw [← eo]; rfl)
  show _ ∧ _
  rw [hz]
  have he : IsEnum ((s.heap.push oi).push { cls := .type "enumerate", data := .fields #[.none, .bool false, .ref s.heap.objs.size, rawInt 0, .none, .none] }) (s.heap.objs.size + 1) s.heap.objs.size 0 .none := by
    have q := Heap.get?_push_size (s.heap.push oi) (o := { cls := .type "enumerate", data := .fields #[.none, .bool false, .ref s.heap.objs.size, rawInt 0, .none, .none] }) rfl
    rw [hz] at q
    exact q
  exact ⟨⟨_, he, rfl⟩, h _ he ⟨oi, Heap.get?_push_of_some _ g1, by rw [← eo], by rw [← eo]; rfl⟩ fun b o x => Heap.get?_push_of_some _ (Heap.get?_push_of_some _ x)⟩
theorem drawsT (hh : A.handled = none) (it t : Addr) (hne : t ≠ it) (items : Array Value) :
    Draws prog w A it [it, t] items.size (fun i v => items[i]? = some v) (fun i h => h.IsTupleIter it t i ∧ h.IsTuple t items) where
  live := fun _ _ ⟨⟨o, ho, _⟩, _⟩ => ⟨o, ho⟩
  frame := fun _ _ _ ⟨⟨o, ho, r⟩, o2, ho2, r2⟩ k => ⟨⟨o, k it (List.mem_cons_self ..) o ho, r⟩, o2, k t (List.mem_cons_of_mem _ (List.mem_singleton.mpr rfl)) o2 ho2, r2⟩
  item := fun i s Q E hi ⟨a, b⟩ hQ => RZ.nextOf_tuple_item a b (Array.getElem?_eq_getElem hi) fun h' a' sb => hQ _ h' s.toks (Array.getElem?_eq_getElem hi) ⟨a', b.extBut sb.extBut hne⟩ sb
  done := fun s Q E ⟨a, b⟩ hE => RZ.nextOf_tuple_end hh a b (Array.getElem?_eq_none (Nat.le_refl _)) hE
end
/-- the tuple at a, each item with its number in a new pair -/
def IteT (K : PySem.W.Frag) (a : Addr) : It where
  go i H := ∃ (xs : List V) (x : V), SqT K H a xs ∧ xs[i]? = some x
  yld i H v H' := ∃ T x, v = .ref T ∧ H T = none ∧ H' = upd H T (.tup [.int (i : Nat), x]) ∧ ∀ xs, SqT K H a xs → xs[i]? = some x
  stop i H := ∃ xs : List V, SqT K H a xs ∧ xs.length ≤ i
theorem turnT {P : Program} {w : World} {K : PySem.W.Frag} {elts : List Expr} {kk : Nat} {tpos : Pos} {a e it : Addr} (h1 : e ≠ it) (h2 : a ≠ it) (h3 : e ≠ a) :
    Turn P w K (.Tuple elts kk tpos) (IteT K a) [e, it] e (fun i h => (∃ old, IsEnum h e it ((i : Nat) : Int) old) ∧ h.IsTupleIter it a i) where
  mem := List.mem_cons_self ..
  obj := fun i h ⟨⟨old, he⟩, o, ho, _, hd⟩ b hb => by
    rcases List.mem_cons.mp hb with rfl | hb
    · exact ⟨_, he, fun v z => nomatch z⟩
    · rw [List.mem_singleton.mp hb]
      exact ⟨o, ho, fun v z => by rw [hd] at z; cases z⟩
  keep := fun i h h' ⟨⟨old, he⟩, o, ho, r⟩ k => ⟨⟨old, k e (List.mem_cons_self ..) _ he⟩, o, k it (List.mem_cons_of_mem _ (List.mem_singleton.mpr rfl)) o ho, r⟩
  item := by
    rintro X rfl rfl rfl hc i pins s σ H E I hf ⟨⟨old, he⟩, hit⟩ ⟨xs, x, hq, hx⟩
    obtain ⟨its, rv, tp, hz⟩ := I.tuple hq
    obtain ⟨u, hu, ru⟩ := rv.get hx
    have le : e < s.heap.objs.size := Heap.lt_size he
    have li : it < s.heap.objs.size := by obtain ⟨_, q, _⟩ := hit; exact Heap.lt_size q
    have il : i < its.toArray.size := by rw [List.size_toArray]; exact (List.getElem?_eq_some_iff.mp hu).1
    refine wpAny_pyNext_enum_itemD (drawsT (A := X.A.in1) (I.ok.hd hc) it a h2 its.toArray) he ⟨hit, tp⟩ il h1 (fun z => by
      rcases List.mem_cons.mp z with z | z
      · exact h1 z
      · exact h3 (List.mem_singleton.mp z)) fun v h' tk hv ho st hT hsz hk => ?_
    obtain rfl : u = v := by
      have hv : its.toArray[i]? = some v := hv
      rw [List.getElem?_toArray, hu] at hv
      exact Option.some.inj hv
    refine ⟨_, rfl, wpAny_letOwnedTupleGo_enum (s := { s with heap := h', toks := tk + 1 }) ho fun h2' he' sb => ?_⟩
    have hT2 := (sb.2 _ (Nat.ne_of_gt le)).trans hT
    have new : ObjOk X.prog X.w (upd H s.heap.objs.size (.tup [.int (i : Nat), x])) h2' s.heap.objs.size (.tup [.int (i : Nat), x]) :=
      ⟨by show 2 ≤ sizeLine; decide, [.int i tk, u], .cons ⟨_, rfl⟩ (.cons ru .nil), _, hT2, rfl, _, rfl⟩
    have I1 : Inv X pins σ (upd H s.heap.objs.size (.tup [.int (i : Nat), x])) { s with heap := h2', toks := tk + 1 } :=
      I.turnedNew (ch := [e, it]) (fun b ob hb q => (sb.2 b (fun z => hb (by simp [z]))).trans (hk b ob (fun z => hb (by simp [z])) (fun z => hb (by simp [z])) q)) hf (Nat.le_refl _) new
    refine ⟨.ref s.heap.objs.size, _, I1, rfl, ⟨_, x, rfl, I.hok.fresh (Nat.le_refl _), rfl, fun ys hy => by rw [I.tuple_inj hy hq]; exact hx⟩, ⟨⟨u, ?_⟩, ?_⟩, fun b hb => ?_⟩
    · rw [show ((i + 1 : Nat) : Int) = (i : Int) + 1 by omega]
      exact he'
    · obtain ⟨o, ho2, r⟩ := st.1
      exact ⟨o, (sb.2 it (Ne.symm h1)).trans ho2, r⟩
    · have lb : b < s.heap.objs.size := by
        rcases List.mem_cons.mp hb with rfl | hb
        · exact le
        · rw [List.mem_singleton.mp hb]; exact li
      rw [upd_ne (Nat.ne_of_lt lb)]
      exact (hf b hb).1
  done := by
    rintro X rfl rfl rfl hc i pins s σ H E I hf ⟨⟨old, he⟩, hit⟩ ⟨xs, hq, hx⟩
    obtain ⟨its, rv, tp, hz⟩ := I.tuple hq
    have D := drawsT (prog := X.prog) (w := X.w) (A := X.A.in1) (I.ok.hd hc) it a h2 its.toArray
    obtain ⟨f0, f1, f2, f3, f4, f5⟩ := hf it (List.mem_cons_of_mem _ (List.mem_singleton.mpr rfl))
    have hT : s.TypeIs (.ref e) "enumerate" := ⟨_, he, rfl⟩
    unfold pyNext
    refine wpAny_bind (wpAny_attempt (wpAny_callSpecial?_slot (name := Str.ofString "__next__") hT F.slot_enumerate_next (wpAny_call_entry F.slot_enumerate_next hT F.entry_enumerate_next ?_ (F.args_enumerate_next_1 _))))
    show wpAny _ _ (field (.ref e) 2 >>= _) _ _ _
    refine wpAny_bind (wpAny_field he rfl (x := .ref it) rfl ?_)
    refine wpAny_bind (RZ.nextOf_tuple_end (I.ok.hd hc) hit tp (Array.getElem?_eq_none (by rw [List.size_toArray, ← rv.length]; exact hx)) fun h' x eb hx' => ?_)
    obtain ⟨o, ho, hcl⟩ := hx'
    refine wpAny_bind (wpAny_isInstance (T := "StopIteration") (b := true) ⟨o, ho, hcl⟩ isSubtype_stop ?_)
    exact wpAny_pure ⟨rfl, I.turned (t' := s.toks) (fun b o hb q => eb b o hb q) f0 f1 f3 f4 f5⟩
  self := fun A i s Q E ⟨⟨_, he⟩, _⟩ h => wpAny_pyIter_enum he h
def iEnumTup (K : PySem.W.Frag) (ta : TA) : TI := fun σ H R => ta σ H fun vs H1 => ∃ a xs, vs = [.ref a] ∧ SqT K H1 a xs ∧ R (IteT K a) H1
theorem pi_enumT {X : Cx} {e : Expr} {ta : TA} {p pos tpos : Pos} {elts : List Expr} {kk : Nat} (hg : Gl X "enumerate") (hm : X.mg "enumerate" = none) (ha : PA X [e] ta) (hs : starEach [e] X.env = [(false, eval e X.env)] := by rfl) :
    PI X (.Tuple elts kk tpos) (.Call (.Name "enumerate" p) [e] [] pos) (iEnumTup X.K ta) := by
  refine ⟨fun pins s σ H R I h => ?_⟩
  refine PyProof.Rows.Call_ (ld_blt I hg hm PyProof.Rows.boot_enumerate (PyProof.Rows.callWith_type1 (thn (ha.run pos pins s σ H _ I h) fun us s1 ⟨vs, H1, I1, r1, q1⟩ => ?_) hs rfl))
  obtain ⟨a, xs, ex, hq, q⟩ := q1
  subst ex
  cases r1 with
  | cons r rr =>
    cases rr
    cases r
    obtain ⟨its, rv, tp, hz⟩ := I1.tuple hq
    have la : a < s1.heap.objs.size := by obtain ⟨o, ho, _⟩ := id tp; exact Heap.lt_size ho
    refine call_enumT (show s1.heap.IsTuple a its.toArray from tp) fun h' he hit hk => wpAny_pyIter_enum he ?_
    refine ⟨s1.heap.objs.size + 1, [s1.heap.objs.size + 1, s1.heap.objs.size], _, _, H1, rfl, I1.kept (t' := s1.toks) hk, turnT (a := a) (Nat.succ_ne_self _) (Nat.ne_of_lt la) (fun z => absurd la (by rw [← z]; exact Nat.not_lt.mpr (Nat.le_succ _))), ⟨⟨.none, he⟩, hit⟩, fun b hb => ?_, q⟩
    have lb : s1.heap.objs.size ≤ b := by
      rcases List.mem_cons.mp hb with rfl | hb
      · exact Nat.le_succ _
      · rw [List.mem_singleton.mp hb]; exact Nat.le_refl _
    exact I1.fpOk lb (I1.hok.fresh lb)
end J
namespace J
open PySem L2
/-! xs * n as data -/
end J
namespace J
open PySem L2
/-! dict(a list of pairs), the keys ints or texts and unlike -/
end J
namespace J
open PySem PySem.Spec L2 PyProof.Rows
/-! min(t), t a tuple of ints that is not empty -/
end J
namespace J
open PySem L2
/-! texts: str(x), int(text), sep.join(..), text.split(sep), f'..', a sign in a text -/
def strV : VV → Option Str
  | .int i => if i.natAbs.log2 < 1920 then some (toString i) else none
  | .str a => some a
  | _ => none
def cStr : OpN := fun _ vs => match vs with
  | [v] => (strV v).map .str
  | _ => none
section
variable {X : Cx} {W : WX}
theorem cr_strJ : CallR X (.type "str") (RdN (ct X) cStr) :=
  CallR.imp (CallR.or call_str_int SkE.call_str_str) fun xs H Q ⟨g, h, vs, r, rh, rv, e, kk⟩ => by
    unfold cStr at e
    split at e
    · obtain ⟨y, e1, e2⟩ := Option.map_eq_some_iff.mp e
      subst e2
      obtain ⟨u, q, rfl, ra, rfl⟩ := rv
      unfold strV at e1
      split at e1
      · split at e1
        · rename_i i cc
          cases e1
          exact .inl ⟨i, by rw [int_get ra], cc, kk g H _ .refl rh rt_str⟩
        · cases e1
      · rename_i a
        cases e1
        exact .inr ⟨_, by rw [str_get ra], kk g H _ .refl rh rt_str⟩
      · cases e1
    · cases e
def joinR (a : Str) (w : VV) (h : VH) : Res VV := match (seqV h w).bind strsOf with
  | some ys => if (ys.map (·.length)).sum + ys.length * a.length ≤ 16777216 then .ok (.str (Txt.join a ys)) h else .no
  | none => .no
def strR (v : VV) (k : Str → Res VV) : Res VV := match v with
  | .str a => k a
  | _ => .no
def eJoin (fo fe : EF) : EF := fun ρ h => (fo ρ h).bind fun v h1 => strR v fun a => (fe ρ h1).bind fun w h2 => joinR a w h2
theorem j_join {o e : Expr} {fo fe : EF} {apos pos : Pos} (ho : PE X o (tE (ct X) W fo)) (he : PE X e (tE (ct X) W fe)) (hs : starEach [e] X.env = [(false, eval e X.env)] := by rfl) (hbase : attributeBase o "join" X.env (eval o X.env) = eval o X.env := by rfl) (hline : (apos.endLine == pos.line) = true := by rfl) :
    PE X (.Call (.Attribute o "join" apos) [e] [] pos) (tE (ct X) W (eJoin fo fe)) :=
  PE.mono (pe_join ho he hs hbase hline) fun σ H Q ⟨g, ρ, h0, rh, rs, p⟩ => by
    refine ⟨g, ρ, h0, rh, rs, (Pst.bind (R := RT (ct X)) p).imp fun u H1 ⟨g1, v, h1, st, rh1, rv1, p1⟩ => ?_⟩
    cases v with
    | str a =>
      refine ⟨⟨a, str_get rv1⟩, g1, ρ, h1, rh1, rs.stp st, (Pst.bind (R := RT (ct X)) p1).imp fun u2 H2 ⟨g2, w, h2, st2, rh2, rv2, p2⟩ => ?_⟩
      unfold joinR at p2
      split at p2
      · rename_i ys ey
        split at p2
        · rename_i cc
          obtain ⟨xs, e1, e2⟩ := Option.bind_eq_some_iff.mp ey
          obtain ⟨q, us, rfl, sq, rvs⟩ := seqV_get rh2 rv2 e1
          have eu := strsOf_rv rvs e2
          subst eu
          exact ⟨a, q, ys, str_get rv1, rfl, sq, cc, p2 g2 H2 _ .refl rh2 rt_str⟩
        · exact p2.elim
      · exact p2.elim
    | _ => exact p1.elim
/-! f-strings -/
/-- the parts of an f-string -/
def catR (acc : Str) (v : VV) (k : Str → Res VV) : Res VV := strR v fun y => if (acc ++ y).length ≤ SZ then k (acc ++ y) else .no
def joinedGo : List EF → Str → EF
  | [], acc => fun _ h => .ok (.str acc) h
  | f :: fs, acc => fun ρ h => (f ρ h).bind fun v h1 => catR acc v fun a => joinedGo fs a ρ h1
inductive JJs (X : Cx) (W : WX) : List Expr → List EF → Prop where
  | nil : JJs X W [] []
  | cons {e : Expr} {f : EF} {es : List Expr} {fs : List EF} (h : PE X e (tE (ct X) W f)) (r : JJs X W es fs) : JJs X W (e :: es) (f :: fs)
theorem JJs.pj {es : List Expr} {fs : List EF} (h : JJs X W es fs) : PJ X es (fs.map fun f => tE (ct X) W f) := by
  induction h with
  | nil => exact .nil
  | cons h r ih => exact .cons h ih
theorem joined_ok {σ : St} {Q : VK} : ∀ (fs : List EF) (acc : Str) (g : Gh) (ρ : VSt) (h : VH) (H : Hp), RH (ct X) g h H → RS (ct X) g H ρ σ → Pst (ct X) W σ (RT (ct X)) g H Q (joinedGo fs acc ρ h) → tJs (fs.map fun f => tE (ct X) W f) acc σ H fun out H1 => Q (.str out) H1
  | [], acc, g, ρ, h, H, rh, rs, p => p g H _ .refl rh rt_str
  | f :: fs, acc, g, ρ, h, H, rh, rs, p => by
    refine ⟨g, ρ, h, rh, rs, (Pst.bind (R := RT (ct X)) p).imp fun u H1 ⟨g1, v, h1, st, rh1, rv1, p1⟩ => ?_⟩
    unfold catR at p1
    cases v with
    | str y =>
      unfold strR at p1
      simp only at p1
      split at p1
      · rename_i cc
        exact ⟨y, str_get rv1, SZ_le cc, joined_ok fs (acc ++ y) g1 ρ h1 H1 rh1 (rs.stp st) p1⟩
      · exact p1.elim
    | _ => exact p1.elim
def eJoined (fs : List EF) : EF := joinedGo fs Str.empty
theorem j_joined {v1 v2 : Expr} {rest : List Expr} {fs : List EF} {pos : Pos} (h : JJs X W (v1 :: v2 :: rest) fs) : PE X (.JoinedStr (v1 :: v2 :: rest) pos) (tE (ct X) W (eJoined fs)) :=
  PE.mono (pe_joined h.pj) fun σ H Q ⟨g, ρ, h0, rh, rs, p⟩ => joined_ok fs Str.empty g ρ h0 H rh rs p
/-! a sign in a text -/
end
end J
namespace J
open PySem L2
/-! one, *others = a tuple -/
end J
namespace J
open PySem L2
/-! lists of roots: written at a place, two places exchanged; o[i] -= e; a root gone through while it may be changed -/
theorem RTs.put {c : Ct} {g : Gh} {H : Hp} {v : VV} {u : V} (q : RT c g H v u) : ∀ {vs : List VV} {us : List V} {i : Nat}, RTs c g H vs us → RTs c g H (vs.set i v) (us.set i u)
  | [], us, i, h => by
    obtain rfl : us = [] := h
    simp only [List.set_nil]
    rfl
  | x :: xs, us, i, h => by
    obtain ⟨y, r, rfl, a, b⟩ := h
    cases i with
    | zero => exact ⟨u, r, rfl, q, b⟩
    | succ i => exact ⟨y, _, rfl, a, RTs.put q b⟩
def rootX (h : VH) (n : Nat) : Option (List VV) := match h[n]? with
  | some (.fl ys) => some ys
  | some (.lo ys) => some ys
  | _ => none
def lenL (h : VH) (n : Nat) : Nat := match rootX h n with
  | some ys => ys.length
  | none => 0
end J
namespace J
open PySem L2
/-! an expression that only looks: for as long as it is evaluated all roots are frozen, afterwards they are roots again -/
mutual
def flatV : VV → Bool
  | .non => true
  | .bl _ => true
  | .int _ => true
  | .str _ => true
  | .tup xs => flatVs xs
  | _ => false
def flatVs : List VV → Bool
  | [] => true
  | x :: xs => flatV x && flatVs xs
end
end J
namespace J
open PySem L2
/-! one, two, *others = a tuple -/
end J
namespace J
open PySem L2
/-! a list of whole numbers in a tuple of such lists -/
end J
namespace J
open PySem L2
variable {ρ : VSt} {h h' : VH}
def jnR (v : VV) (r : Res VV) : Res VV := match v with
  | .str a => r.bind fun w h2 => joinR a w h2
  | _ => .no
theorem a_join {fo fe} : eJoin fo fe ρ h = bnd (fo ρ h) (fun v h1 => jnR v (fe ρ h1)) (tg _) := nr rfl
theorem jnR_str {a r} : jnR (.str a) r = bnd r (fun w h2 => joinR a w h2) (tg _) := nr rfl
theorem joinR_lst {a : Str} {ys : List Str} (hb : (ys.map (·.length)).sum + ys.length * a.length ≤ 16777216) : joinR a (.lst (ys.map VV.str)) h = .ok (.str (Txt.join a ys)) h := by
  have e : strsOf (ys.map VV.str) = some ys := by
    induction ys with
    | nil => rfl
    | cons y ys ih =>
      simp only [List.map_cons, List.sum_cons, List.length_cons] at hb
      rw [List.map_cons, strsOf, ih (by rw [Nat.add_mul] at hb; omega)]
      rfl
  unfold joinR
  rw [show (seqV h (.lst (ys.map VV.str))).bind strsOf = some ys from e]
  simp only
  rw [if_pos hb]
theorem a_joined {fs} : eJoined fs ρ h = joinedGo fs Str.empty ρ h := nr rfl
theorem jd_nil {acc} : joinedGo [] acc ρ h = .ok (.str acc) h := nr rfl
theorem jd_cons {f fs acc} : joinedGo (f :: fs) acc ρ h = bnd (f ρ h) (fun v h1 => catR acc v fun a => joinedGo fs a ρ h1) (tg _) := nr rfl
theorem catR_str {acc y : Str} {k : Str → Res VV} (hz : (acc ++ y).length ≤ SZ) : catR acc (.str y) k = k (acc ++ y) := by
  show (if (acc ++ y).length ≤ SZ then k (acc ++ y) else .no) = _
  rw [if_pos hz]
theorem str_int {i : Int} (hi : i.natAbs.log2 < 1920) : cStr h [.int i] = some (.str (toString i)) := by
  show ((if i.natAbs.log2 < 1920 then some (toString i : Str) else none).map VV.str) = _
  rw [if_pos hi]
  rfl
end J
namespace J
open PySem L2
open PyProof.Rows (envOfC IntsAre AllBare)
/-! defs that are entered where nothing is being told as text (no guard runs): what repr and str of a list want -/
structure FnG (P : Program) (w : World) (K : PySem.W.Frag) (mg : Str → Option Value) (base : Heap) (CX : CXT) (k : Nat) (f : Addr) (fd : FuncData) (ps : List Str) (sp : Sp) : Prop where
  len : ∀ vs H Q E, sp vs H Q E → vs.length = ps.length
  run : ∀ (A : Around) (outer : List Env) (s : Shared) (H : Hp) (args : Args) (us : List Value) (vs : List V) (Q : VK) (E : XK), A.guards = some [] → Room k A → Env0 P w K mg base A outer s H → BindsTo s fd args (ps.zip us) → Vals vs us → sp vs H Q E →
    codeAny (model P w) A (.call (.ref f) args) (CR CX outer P w H s Q E) s
/-- the entry: the empty table at T, the script -/
def entH (K : PySem.W.Frag) (T a : Addr) (o : Obj) (us : List V) : Hp := fun b =>
  if b = T then some (.tbl #[]) else if b = a then (if (K.lookup a).isNone = true then some (.frz o (.lst us)) else none) else none
theorem entH_T {K : PySem.W.Frag} {T a : Addr} {o : Obj} {us : List V} : entH K T a o us T = some (.tbl #[]) := if_pos rfl
theorem entH_off {K : PySem.W.Frag} {T a b : Addr} {o : Obj} {us : List V} (h1 : b ≠ T) (h2 : b ≠ a) : entH K T a o us b = none := by
  unfold entH
  rw [if_neg h1, if_neg h2]
theorem entH_a {K : PySem.W.Frag} {T a : Addr} {o : Obj} {us : List V} (h1 : a ≠ T) : entH K T a o us a = if (K.lookup a).isNone = true then some (.frz o (.lst us)) else none := by
  unfold entH
  rw [if_neg h1, if_pos rfl]
theorem entH_known {K : PySem.W.Frag} {T a b : Addr} {o ob : Obj} {us : List V} (nT : K.lookup T = none) (e : K.lookup b = some ob) : entH K T a o us b = none := by
  have h1 : b ≠ T := fun z => by rw [z, nT] at e; cases e
  by_cases h2 : b = a
  · subst h2
    rw [entH_a h1, e]; rfl
  · exact entH_off h1 h2
theorem entH_some {K : PySem.W.Frag} {T a b : Addr} {o : Obj} {us : List V} {u : HO} (e : entH K T a o us b = some u) : (b = T ∧ u = .tbl #[]) ∨ (b = a ∧ u = .frz o (.lst us)) := by
  unfold entH at e
  by_cases h1 : b = T
  · rw [if_pos h1] at e
    exact .inl ⟨h1, (Option.some.inj e).symm⟩
  · rw [if_neg h1] at e
    by_cases h2 : b = a
    · rw [if_pos h2] at e
      split at e
      · exact .inr ⟨h2, (Option.some.inj e).symm⟩
      · cases e
    · rw [if_neg h2] at e; cases e
theorem enterG {P : Program} {w : World} {K : PySem.W.Frag} {mg mb : Str → Option Value} {CX : CXT} {k : Nat} {fa a cc T : Addr} {fd : FuncData} {x : Str} {sp : Sp} {s₁ : Shared} {vs : List Value} {ns : List Int}
    (KX : K.In s₁.heap) (hns : s₁.heap.Ns mainGlobals mg) (hb : s₁.heap.Ns builtinsNs mb) (hbb : ∀ x : Str, x ≠ "__name__" → mb x = bootBuiltins x) (hlim : s₁.heap.NoLimit) (hg : s₁.gens = #[])
    (hT : s₁.heap.get? T = some { cls := .none, data := .fields #[] }) (nT : K.lookup T = none) (C : PySem.W.CodeHd s₁.heap cc T)
    (hbm : ∃ (bm : Addr) (ob : Obj), mg "__builtins__" = some (.ref bm) ∧ bm ≠ builtinsNs ∧ s₁.heap.get? bm = some ob ∧ ob.cls = .type "module" ∧ ob.dict = some builtinsNs ∧ ob.data = .plain)
    (ha : s₁.heap.get? a = some { cls := .type "list", data := .seq vs.toArray }) (hi : IntsAre vs ns) (hl : ns.length ≤ sizeLine) (hr : Room k callerA)
    (F : ∀ base : Heap, K.In base → base.Ns mainGlobals mg → LamX.TabB base mg cc T → FnG P w K mg base CX k fa fd [x] sp) (hbind : ∀ (s : Shared) (u : Value), BindsTo s fd ⟨[u], []⟩ [(x, u)])
    (hsp : ∀ H : Hp, H T = some (.tbl #[]) → SqL K H a (ns.map V.int) → sp [.ref a] H (fun v _ => v = .bl true) fun _ _ _ => False)
    (hCX : ∀ H e s', CX [] H s₁ (fun _ _ _ => False) e s' → False) :
    codeAny (model P w) callerA (.call (.ref fa) ⟨[.ref a], []⟩) (fun r s' => r = .ok (.ret (.bool true)) ∧ OldK s₁.heap s'.heap ∧ s'.os = s₁.os ∧ AllBare s'.gens) s₁ := by
  have rv := vals_ints hi
  have aT : a ≠ T := fun z => by
    rw [z, hT] at ha
    have := congrArg Obj.data (Option.some.inj ha)
    cases this
  obtain ⟨H, eH⟩ : ∃ H, H = entH K T a { cls := .type "list", data := .seq vs.toArray } (ns.map V.int) := ⟨_, rfl⟩
  have HT : H T = some (.tbl #[]) := by rw [eH]; exact entH_T
  have out : ∀ {b : Addr} {o : Obj}, s₁.heap.get? b = some o → (∀ vs n, o.data ≠ .seq vs n) → o.data ≠ .fields #[] → H b = none := fun {b o} e d1 d2 => by
    rw [eH]
    refine entH_off (fun z => ?_) fun z => ?_
    · rw [z, hT] at e; cases e; exact d2 rfl
    · rw [z, ha] at e; cases e; exact d1 _ _ rfl
  have un : ∀ {b : Addr} {o : Obj}, s₁.heap.get? b = some o → (∀ vs n, o.data ≠ .seq vs n) → o.data ≠ .fields #[] → (hidT s₁.heap H).get? b = some o := fun e d1 d2 => hidT_get e (out e d1 d2)
  have dic : ∀ {b : Addr} {m : Str → Option Value}, s₁.heap.Ns b m → (hidT s₁.heap H).Ns b m := fun ⟨o, es, ep, e, d, r⟩ =>
    ⟨o, es, ep, un e (fun _ _ z => by rw [d] at z; cases z) (fun z => by rw [d] at z; cases z), d, r⟩
  have kin : K.In (hidT s₁.heap H) := fun b o e => hidT_get (KX b o e) (by rw [eH]; exact entH_known nT e)
  have gT : mainGlobals ≠ T := fun z => by
    obtain ⟨o, _, _, e, d, _⟩ := hns
    rw [z, hT] at e; cases e; cases d
  have TB : LamX.TabB (hidT s₁.heap H) mg cc T := by
    refine ⟨?_, ?_, gT⟩
    · obtain ⟨o, us, file, tf, fl, tg, inF, text, tt, e1, r1, r2, r3, more⟩ := C
      refine ⟨o, us, file, tf, fl, tg, inF, text, tt, un e1 (fun _ _ z => ?_) (fun z => ?_), r1, r2, r3, more⟩
      · rw [r2] at z; cases z
      · rw [r2] at z; cases z; simp at r3
    · obtain ⟨bm, ob, b1, b2, b3, b4, b5, b6⟩ := hbm
      have n1 : bm ≠ mainGlobals := fun z => by
        obtain ⟨o, _, _, e, d, _⟩ := hns
        rw [z, e] at b3; cases b3
        rw [d] at b6; cases b6
      have n2 : bm ≠ T := fun z => by rw [z, hT] at b3; cases b3; cases b6
      exact ⟨bm, ob, b1, b2, n1, n2, un b3 (fun _ _ z => by rw [b6] at z; cases z) (fun z => by rw [b6] at z; cases z), b4, b5, b6⟩
  have hok : HOk P w H s₁.heap := fun b u z => by
    rw [eH] at z
    rcases entH_some z with ⟨rfl, rfl⟩ | ⟨rfl, rfl⟩
    · exact hT
    · exact ⟨ha, by rw [List.length_map]; exact hl, vs, _, rv, ha⟩
  have hS : SqL K H a (ns.map V.int) := by
    cases q : K.lookup a with
    | some o =>
      have e := KX a o q
      rw [ha] at e; cases e
      exact .inr ⟨_, vs.toArray, _, q, rfl, rfl, rfl, by rw [List.size_toArray, ← rv.length, List.length_map]; exact hl, by simpa using rv⟩
    | none =>
      refine .inl (.inr ⟨{ cls := .type "list", data := .seq vs.toArray }, ?_⟩)
      rw [eH, entH_a aT, q]; rfl
  have e0 : Env0 P w K mg (hidT s₁.heap H) callerA [] s₁ H :=
    ⟨rfl, ⟨kin, dic hns, ⟨mb, dic hb, hbb⟩, let ⟨mc, q1, q2⟩ := hlim; ⟨mc, dic q1, q2⟩⟩, fun b o e => of_hidT e, Nat.le_of_eq (hidT_size _ _), trivial, fun b z => absurd (show b ∈ ([] : List Addr) from z) (by simp), hok, .of_eq hg⟩
  refine codeAny_mono ((F _ kin (dic hns) TB).run callerA [] s₁ H ⟨[.ref a], []⟩ [.ref a] [.ref a] _ _ rfl hr e0 (hbind s₁ (.ref a)) (.cons rfl .nil) (hsp H HT hS)) fun r s' h => ?_
  match r, h with
  | .error e, h => exact (hCX H e s' h).elim
  | .ok .next, h => exact h.elim
  | .ok .brk, h => exact h.elim
  | .ok .cont, h => exact h.elim
  | .ok (.ret u), h =>
    obtain ⟨v, H', os, bare, step, hok', r', q⟩ := h
    obtain rfl : v = .bl true := q
    obtain rfl : u = Value.bool true := r'
    obtain ⟨more, mT⟩ := step.tbls T #[] HT
    have sT : s'.heap.get? T = some { cls := .none, data := .fields (#[] ++ more) } := hok' T _ mT
    have keep : ∀ b o, b ≠ T → s₁.heap.get? b = some o → s'.heap.get? b = some o := fun b o nb e => by
      cases q : H b with
      | none => exact step.keep b o e q (fun z => absurd (show b ∈ ([] : List Addr) from z) (by simp)) (by simp)
      | some u =>
        rw [eH] at q
        rcases entH_some q with ⟨z, _⟩ | ⟨z, rfl⟩
        · exact absurd z nb
        · rw [← eH] at q
          obtain ⟨g1, _⟩ := hok' b _ (step.frzs b _ _ q)
          obtain ⟨g2, _⟩ := hok b _ q
          rw [g2] at e; cases e
          exact g1
    refine ⟨rfl, ⟨fun b o e => ?_, fun b o e => ?_⟩, os, bare⟩
    · by_cases hb : b = T
      · subst hb
        rw [hT] at e; cases e
        exact .inr (.inl ⟨(C.tab hT).isCodeTable, rfl, #[], more, rfl, by rw [sT, Array.empty_append]⟩)
      · exact .inl (keep b o hb e)
    · by_cases hb : b = T
      · exact ⟨_, by rw [hb]; exact sT⟩
      · exact ⟨o, keep b o hb e⟩
end J
namespace J
open PySem L2
open PyProof.Rows (envOfC)
section
variable {P : Program} {w : World} {K : PySem.W.Frag} {mg : Str → Option Value} {base : Heap}
/-- a def's body, entered where no guard runs -/
theorem fnokG_of {x q : Str} {st : Stmt} {dvs : List V} {kws : List (Str × V)} {f : Addr} {fd : FuncData} {N ps : List Str} {k n m : Nat} {B : SF} (D : Dm K x q st dvs kws f fd) (S : FnScope N ps (defScope st)) (hn : n = N.length) (hp : ps.length ≤ n) (hm : m = ps.length)
    (hbody : ∀ (cdv : Value) (A : Around) (outer : List Env) (s : Shared) (H : Hp) (E : XK), (A.deeper (envOfC q (defScope st) s.heap.objs.size f cdv)).guards = some [] → Room k (A.deeper (envOfC q (defScope st) s.heap.objs.size f cdv)) →
      PSs (cxOf (L2N.CX P w) P w K mg base N q (defScope st) f cdv A outer s H E) (defBody st) (tS ⟨K, mg⟩ (fun a d _ H' => E a d H') B)) :
    FnG P w K mg base (L2N.CX P w) (k + 1) f fd ps (spF ⟨K, mg⟩ m (fnF n B)) := by
  subst hm
  have len : ∀ vs H Q E, spF ⟨K, mg⟩ ps.length (fnF n B) vs H Q E → vs.length = ps.length := fun vs H Q E h => by
    obtain ⟨g, ws, hh, rh, rt, l, _⟩ := h
    rw [← rt.len]; exact l
  obtain ⟨oc, od, dV, kV, doc, pm, an, cdv, ctv, osl, efd, lk, hcd, _, _⟩ := D.F.ex
  subst efd
  refine ⟨len, fun A outer s H args us vs Q E hg hr e0 hb r hsp => ?_⟩
  have hl := len _ _ _ _ hsp
  have keep : ∀ b o, base.get? b = some o → s.heap.get? b = some o := fun b o e => (e0.bs b o e).1
  have KX : K.In s.heap := e0.mod.kin.keeps keep
  refine codeAny_call_function hr.depth (KX _ _ lk) rfl S.co S.gen rfl (PySem.W.codeRec_of KX hcd) (hb _ _ _ _ ?_)
  refine wpAny_newFunctionEnv_cells S.kind (fun ⟨y, v⟩ hy => (S.par y (List.of_mem_zip hy).1).imp id fun z => ⟨z, PySem.W.cellsFrom_some _ _ _ (.inl z)⟩) fun env he s1 x => ?_
  subst he
  refine ⟨(e0.mod.nolimit.keeps keep).keeps x.toInCall.keep, codeAny_func ?_⟩
  have I := inv_start (CX := L2N.CX P w) (E := E) S hr.hd e0 hl r x
  have hq : tS ⟨K, mg⟩ (fun a d _ H' => E a d H') B { nx := fun _ H' => Q .non H', rt := Q } (L2.start N vs) H := by
    obtain ⟨g, ws, hh, rh, rt, l, p⟩ := hsp
    have rs := rt.start n
    refine ⟨g, ws.map some ++ List.replicate (n - ws.length) none, hh, rh, by rw [hn] at rs ⊢; exact rs, ?_⟩
    unfold fnF at p
    generalize B (ws.map some ++ List.replicate (n - ws.length) none) hh = rr at p ⊢
    cases rr with
    | no => exact p
    | brk => exact p.elim
    | cnt => exact p.elim
    | nx ρ h' =>
      intro g' H' σ' st rh' rs'
      obtain ⟨g2, s2, rh2, rv2⟩ := trim_ok rh st rh' (rt_non (c := ⟨K, mg⟩))
      exact p g2 H' .non s2 rh2 rv2
    | ret v h' =>
      intro g' H' u st rh' rv
      obtain ⟨g2, s2, rh2, rv2⟩ := trim_ok rh st rh' rv
      exact p g2 H' u s2 rh2 rv2
    | exc x ns vs ρ h' => exact fun g' H' σ' C d us st rh' rs' m e l rv => p g' H' C d us st rh' m e l rv
  refine wpAny_mono ((hbody cdv A outer s H E hg (hr.deeper _)).run [] s1 (L2.start N vs) H _ I hq) (fun fl s' z => ?_) fun _ _ z => z
  match fl, z with
  | .ret u, ⟨v, σ', H', J, rv, q⟩ => exact ⟨v, H', J.os, J.bare, J.base, J.hok, rv, q⟩
  | .next, ⟨σ', H', J, q⟩ => exact ⟨.non, H', J.os, J.bare, J.base, J.hok, rfl, q⟩
  | .brk, ⟨_, _, _, q⟩ => exact q.elim
  | .cont, ⟨_, _, _, q⟩ => exact q.elim
end
/-- the end: the law is entered where no guard runs -/
theorem walk_G {l : PySem.W.OpenLaw} {n k : Nat} {q : Program} {loose : List Str} {XP : (Str → Option Value) → Heap → Prop} {d : DefRec} {x : Str} {Fm : FF} {fs : List He.Fa} {fn : List He.DefD} {ex : PySem.W.Frag → Bool}
    (hn : l.most = some n) (hn2 : n ≤ sizeLine) (hdf : d.params.defaults = []) (hr : Room k PySem.callerA) (hrec : ((PyProof.Rows.recsOf q).find? fun e => e.name == lamFn).isSome = true) (hd : d.name = "law")
    (F : ∀ (w : World) (mg : Str → Option Value) (fa : Addr) (h : Heap) (K : PySem.W.Frag), SaysL fs fn ex h K → h.Ns mainGlobals mg → mg "law" = some (.ref fa) →
      ∃ (fd : FuncData) (cc P : Addr), PySem.W.tabIn K lamFn = some (cc, P) ∧ K.lookup P = none ∧ (∀ (s : Shared) (u : Value), BindsTo s fd ⟨[u], []⟩ [(x, u)]) ∧
        ∀ base : Heap, K.In base → base.Ns mainGlobals mg → LamX.TabB base mg cc P → FnG l.prog w K mg base (L2N.CX l.prog w) k fa fd [x] (spF ⟨K, mg⟩ 1 Fm))
    (hF : ∀ ns : List Int, ns.length ≤ n → (∀ z ∈ ns, Builtin.Int.intBits z ≤ 1048576) → ∃ h', Fm [.scr (ns.map VV.int)] [] = .ok (.bl true) h') {as : List Addr} :
    PySem.W.WalkO q loose XP (hookL as fs fn ex).says l.row.toRowW d [] (fun f vs => PySem.call f vs) := by
  refine Att.attach_callB hn hdf fun w s₀ s₁ mg mb fa o pm cd doc a vs ns G Y ho hd1 hcd hmg hobj hints hlen hbits hg => ?_
  rw [hd] at hmg
  obtain ⟨K, Y⟩ : ∃ K, SaysL fs fn ex _ K := Y
  obtain ⟨fd, cc, P, hT, nT, hb, hF'⟩ := F w mg fa _ K Y G.T.g hmg
  obtain ⟨dL, hL⟩ := Option.isSome_iff_exists.mp hrec
  obtain ⟨C, hP⟩ := PySem.W.tab_of G.T Y.1 hL hT
  exact enterG Y.1 G.T.g G.T.b G.T.builtins G.T.nolimit hg hP nT C G.T.bmain hobj hints (Nat.le_trans hlen hn2) hr hF' hb
    (fun H hH hS => law_sp (fun c2 P2 e2 => by
      have e3 := hT.symm.trans e2
      cases e3
      exact LamX.TabS.nil hH) hS (hF ns hlen hbits)) fun H e s' => cx_no
end J
namespace J
open PySem L2
open PyProof.Rows (envOfC)
/-! repr(x), str(x) by the class's own; str of a list of faces, such a list in an f-string; x != a list -/
structure OkMG (P : Program) (w : World) (K : PySem.W.Frag) (mg : Str → Option Value) (base : Heap) (k : Nat) (cn m : Str) (n : Nat) (Fm : FF) : Prop where
  ex : ∃ (C f : Addr) (fd : FuncData) (ps : List Str), mg cn = some (.ref C) ∧ Cls K C ∧ Meth K C m f ∧ FnG P w K mg base (L2N.CX P w) k f fd ps (spF ⟨K, mg⟩ n Fm) ∧ Binds K fd ps []
theorem okMG_of {P : Program} {w : World} {K : PySem.W.Frag} {mg : Str → Option Value} {base : Heap} {cn x q : Str} {st : Stmt} {kws : List (Str × V)} {C f : Addr} {fd : FuncData} {ps : List Str} {k m : Nat} {Fm : FF} (T : ClsT K mg cn C) (M : Meth K C x f) (D : Dm K x q st [] kws f fd) (hF : FnG P w K mg base (L2N.CX P w) k f fd ps (spF ⟨K, mg⟩ m Fm))
    (hb : ∀ (kV doc pm : Value) (an : Option Addr) (cdv ct : Value) (us : List Value), us.length = ps.length → bindArgs (PySem.W.fnOf x q (defArgs st) (defBody st) (defScope st) .none kV doc pm an cdv ct) ⟨us, []⟩ = pure (ps.zip us)) :
    OkMG P w K mg base k cn x m Fm := ⟨C, f, fd, ps, T.m, T.c, M, hF, D.F.bindsN hb⟩
/-- the text of one instance -/
def txR (cn : Str) (F : FF) (v : VV) (h1 : VH) : Res VV := match insOf h1 v with
  | some a => if a.1 = cn then (noX (F [v] h1)).bind fun r h2 => (match r with
    | .str t => .ok (.str t) h2
    | _ => .no) else .no
  | none => .no
def eTxt (cn : Str) (F : FF) (fa : EF) : EF := fun ρ h => (fa ρ h).bind fun v h1 => txR cn F v h1
def RdTx (c : Ct) (cn : Str) (Fm : FF) : List V → Hp → VK → Prop := fun xs H Q => ∃ g h v a x, xs = [x] ∧ RH c g h H ∧ RT c g H v x ∧ insOf h v = some a ∧ a.1 = cn ∧
  Pst c W0 [] (RT c) g H (fun u H' => ∃ t : Str, u = .str t ∧ Q (.str t) H') (Fm [v] h)
theorem rdTx_of {X : Cx} {W : WX} {cn : Str} {Fm : FF} {σ : St} {g : Gh} {h1 : VH} {H : Hp} {Q : VK} {v : VV} {u : V} (rh : RH (ct X) g h1 H) (rv : RT (ct X) g H v u) (p1 : Pst (ct X) W σ (RT (ct X)) g H Q (txR cn Fm v h1)) : RdTx (ct X) cn Fm [u] H Q := by
  unfold txR at p1
  cases ea : insOf h1 v with
  | none => rw [ea] at p1; exact p1.elim
  | some a =>
    rw [ea] at p1
    simp only at p1
    by_cases cc : a.1 = cn
    · rw [if_pos cc] at p1
      refine ⟨g, h1, v, a, u, rfl, rh, rv, ea, cc, ?_⟩
      cases er : Fm [v] h1 with
      | no => rw [er] at p1; exact p1
      | exc => rw [er] at p1; exact p1.elim
      | ok r h3 =>
        rw [er] at p1
        cases r with
        | str t => exact fun g' H' u st rh' rv' => ⟨t, str_get rv', p1 g' H' _ st rh' rt_str⟩
        | _ => exact p1.elim
    · rw [if_neg cc] at p1; exact p1.elim
section
variable {X : Cx} {W : WX} {k : Nat} {cn : Str} {Fm : FF}
/-- what the call of a method without arguments leaves: a text -/
theorem tx_back {A : Around} {pins : List (Addr × Obj)} {s : Shared} {σ : St} {H : Hp} {g : Gh} {h : VH} {v : VV} {p f : Addr} {fd : FuncData} {ps : List Str} {Q : VK} (I : Inv X pins σ H s) (fr : A.frames = X.A.frames) (rh : RH (ct X) g h H) (rv : RT (ct X) g H v (.ref p)) (bi : Binds X.K fd ps [])
    (len : ∀ vs H Q E, spF (ct X) 1 Fm vs H Q E → vs.length = ps.length)
    (run : ∀ (args : Args) (us : List Value) (vs : List V) (Q : VK) (E : XK), Env0 X.prog X.w X.K X.mg X.base A X.stack s H → BindsTo s fd args (ps.zip us) → Vals vs us → spF (ct X) 1 Fm vs H Q E → codeAny (model X.prog X.w) A (.call (.ref f) args) (CR (L2N.CX X.prog X.w) X.stack X.prog X.w H s Q E) s)
    (pp : Pst (ct X) W0 [] (RT (ct X)) g H (fun u H' => ∃ t : Str, u = .str t ∧ Q (.str t) H') (Fm [v] h)) :
    wpAny (model X.prog X.w) A (call (.ref f) [.ref p]) (PySem.W.StrBack (EP X pins σ Q)) X.xe s := by
  have hsp : spF (ct X) 1 Fm [.ref p] H (fun u H' => ∃ t : Str, u = .str t ∧ Q (.str t) H') X0 := ⟨g, [v], h, rh, ⟨_, _, rfl, rv, rfl⟩, rfl, pp⟩
  have r2 : Vals [V.ref p] [Value.ref p] := .cons rfl .nil
  have bb := bi s [.ref p] I.kIn (by simpa using len _ _ _ _ hsp)
  have env : Env0 X.prog X.w X.K X.mg X.base A X.stack s H := by
    have e := I.env0
    exact ⟨by rw [fr]; exact e.frames, e.mod, e.bs, e.bsz, e.funs, e.frf, e.hok, e.bare⟩
  refine wpAny_call (codeAny_mono (run ⟨[.ref p], []⟩ [.ref p] [.ref p] _ X0 env (by simpa using bb) r2 hsp) fun rr s' z => ?_)
  match rr, z with
  | .error er, z => exact (cx_no z).elim
  | .ok (.ret u), z =>
    obtain ⟨zz, H', I', rz, t, ez, qq⟩ := I.after z
    subst ez
    obtain ⟨tk, rfl⟩ := rz
    exact ⟨.str t, H', I', ⟨_, rfl⟩, qq⟩
  | .ok .next, z => exact z.elim
  | .ok .brk, z => exact z.elim
  | .ok .cont, z => exact z.elim
theorem cr_repr (O : OkMG X.prog X.w X.K X.mg X.base k cn "__repr__" 1 Fm) (hg : X.A.guards = some []) (hr : Room (k + 1) X.A) : CallR X (.builtin "repr") (RdTx (ct X) cn Fm) := by
  intro pins s σ H xs us Q I r ⟨g, h, v, a, x, ex, rh, rv, ea, ca, pp⟩
  subst ex
  obtain ⟨p, C, dx, ws, rfl, mC, hp, _, _⟩ := insOf_get rh rv ea
  rw [ca] at mC
  rw [Vals.ref1 r]
  obtain ⟨C', f, fd, ps, m, cl, me, F, bi⟩ := id O.ex
  obtain rfl : C' = C := by have z := m.symm.trans mC; cases z; rfl
  obtain ⟨mA, J1, _⟩ := ins_get I.hok hp
  obtain ⟨od1, J1, _⟩ := J1.look
  obtain ⟨mm, hF⟩ := I.fr
  have hu := hr.un
  exact PySem.W.repr_K (show X.A.units + 1 < cLine by omega) hF I.ok.mod.kin J1 me.at_ me.fn (tx_back I rfl rh rv bi F.len (fun args us vs Q E e0 b r2 sp => F.run X.A.in1 X.stack s H args us vs Q E hg hr.in1 e0 b r2 sp) pp)
theorem cr_strOwn (O : OkM X.prog X.w X.K X.mg X.base k cn "__str__" 1 [] Fm) (hr : Room (k + 2) X.A) : CallR X (.type "str") (RdTx (ct X) cn Fm) := by
  intro pins s σ H xs us Q I r ⟨g, h, v, a, x, ex, rh, rv, ea, ca, pp⟩
  subst ex
  obtain ⟨p, C, dx, ws, rfl, mC, hp, _, _⟩ := insOf_get rh rv ea
  rw [ca] at mC
  rw [Vals.ref1 r]
  obtain ⟨C', f, fd, ps, dvs, ds, m, cl, me, F, bi, vd, rd⟩ := id O.ex
  obtain rfl : C' = C := by have z := m.symm.trans mC; cases z; rfl
  have dn : dvs = [] := rd g H
  subst dn
  cases vd
  obtain ⟨mA, J1, _⟩ := ins_get I.hok hp
  obtain ⟨od1, J1, _⟩ := J1.look
  have hu := hr.un
  exact PySem.W.kso_call (show X.A.units + 1 + 1 < cLine by omega) I.kIn J1 me.at_ me.fn (tx_back I rfl rh rv bi F.len (fun args us vs Q E e0 b r2 sp => F.run X.A.in1.in1 X.stack s H args us vs Q E hr.in1.in1 e0 b r2 sp) pp)
theorem j_repr {e : Expr} {fa : EF} {p pos : Pos} (O : OkMG X.prog X.w X.K X.mg X.base k cn "__repr__" 1 Fm) (hgd : X.A.guards = some []) (hr : Room (k + 1) X.A) (hg : Gl X "repr") (hm : X.mg "repr" = none) (ha : PE X e (tE (ct X) W fa))
    (he : starEach [e] X.env = (false, eval e X.env) :: starEach [] X.env := by rfl) (hpl : (backTo pos (starEach [] X.env)).any (·.1) = false := by rfl) : PE X (.Call (.Name "repr" p) [e] [] pos) (tE (ct X) W (eTxt cn Fm fa)) :=
  PE.mono (pe_callB (id := "repr") (cr_repr O hgd hr) hg hm rfl (pa_cons ha pa_nil he) (by decide) (by decide) he hpl) fun σ H Q ⟨g, ρ, h0, rh, rs, pp⟩ =>
    ⟨g, ρ, h0, rh, rs, (Pst.bind (R := RT (ct X)) pp).imp fun u H1 ⟨g1, v, h1, st, rh1, rv1, p1⟩ => rdTx_of rh1 rv1 p1⟩
theorem j_strOwn {e : Expr} {fa : EF} {p pos : Pos} (O : OkM X.prog X.w X.K X.mg X.base k cn "__str__" 1 [] Fm) (hr : Room (k + 2) X.A) (hg : Gl X "str") (hm : X.mg "str" = none) (ha : PE X e (tE (ct X) W fa))
    (he : starEach [e] X.env = (false, eval e X.env) :: starEach [] X.env := by rfl) (hpl : (backTo pos (starEach [] X.env)).any (·.1) = false := by rfl) : PE X (.Call (.Name "str" p) [e] [] pos) (tE (ct X) W (eTxt cn Fm fa)) :=
  PE.mono (pe_callTy (T := "str") (cr_strOwn O hr) hg hm rfl (pa_cons ha pa_nil he) (by decide) (by decide) he hpl) fun σ H Q ⟨g, ρ, h0, rh, rs, pp⟩ =>
    ⟨g, ρ, h0, rh, rs, (Pst.bind (R := RT (ct X)) pp).imp fun u H1 ⟨g1, v, h1, st, rh1, rv1, p1⟩ => rdTx_of rh1 rv1 p1⟩
end
end J
namespace J
open PySem PySem.Spec PyProof.Rows L2
open PyProof.Rows (IsTup)
/-! str of a list of faces (tuples of small ints), such a list in an f-string -/
def smI : List VV → Option (List Int)
  | [] => some []
  | .int i :: r => if i.natAbs < 1000000 then (smI r).map (i :: ·) else none
  | _ => none
def smF : List VV → Option (List (List Int))
  | [] => some []
  | .tup xs :: r => (smI xs).bind fun f => (smF r).map (f :: ·)
  | _ => none
def pdI (f : List Int) : List PyData := f.map PyData.int
def pdF (fs : List (List Int)) : List PyData := fs.map fun f => .tuple (pdI f)
def txF (fs : List (List Int)) : Str := PyData.shown (.list (pdF fs))
def lstTx (h : VH) (v : VV) : Option Str := (lstOf' h v).bind fun xs => (smF xs).bind fun fs => if (txF fs).length ≤ SZ then some (txF fs) else none
theorem smI_reads {c : Ct} {z : Addr → Prop} {H : Hp} {hp : Heap} : ∀ {xs : List VV} {f : List Int} {us : List V} {its : List Value}, smI xs = some f → RVs c z H xs us → Vals us its → ReadsAll hp its (pdI f) []
  | [], f, us, its, e, rv, r => by
    cases e
    rw [RVs] at rv; subst rv
    cases r
    exact .nil
  | x :: xs, f, us, its, e, rv, r => by
    unfold smI at e
    split at e
    · rename_i z; cases z
    · rename_i i r' q
      cases q
      split at e
      · obtain ⟨f', e1, rfl⟩ := Option.map_eq_some_iff.mp e
        rw [RVs] at rv
        obtain ⟨u, rr, rfl, ru, rvs⟩ := rv
        rw [RV] at ru; subst ru
        cases r with
        | cons ra rb =>
          obtain ⟨t, rfl⟩ := ra
          exact ReadsAll.cons (as := []) (bs := []) (.int i t) (smI_reads e1 rvs rb)
      · cases e
    · cases e
theorem smF_reads {P : Program} {w : World} {c : Ct} {z : Addr → Prop} {H : Hp} {hp : Heap} (hok : HOk P w H hp) : ∀ {xs : List VV} {fs : List (List Int)} {us : List V} {its : List Value}, smF xs = some fs → RVs c z H xs us → Vals us its → ReadsAll hp its (pdF fs) []
  | [], f, us, its, e, rv, r => by
    cases e
    rw [RVs] at rv; subst rv
    cases r
    exact .nil
  | x :: xs, f, us, its, e, rv, r => by
    unfold smF at e
    split at e
    · rename_i z; cases z
    · rename_i ys r' q
      cases q
      obtain ⟨f1, e1, e2⟩ := Option.bind_eq_some_iff.mp e
      obtain ⟨f', e3, rfl⟩ := Option.map_eq_some_iff.mp e2
      rw [RVs] at rv
      obtain ⟨u, rr, rfl, ru, rvs⟩ := rv
      rw [RV] at ru
      obtain ⟨p, us2, rfl, hp2, rv2⟩ := ru
      cases r with
      | cons ra rb =>
        obtain rfl : _ = Value.ref p := ra
        obtain ⟨_, its2, vals, o, g1, g2, n, g3⟩ := hok p _ hp2
        exact ReadsAll.cons (as := []) (bs := []) (.tuple g1 g2 g3 (by simpa using smI_reads e1 rv2 vals)) (smF_reads hok e3 rvs rb)
    · cases e
theorem smI_show : ∀ {xs : List VV} {f : List Int}, smI xs = some f → PyData.showableAll (pdI f) = true
  | [], f, e => by cases e; rfl
  | x :: xs, f, e => by
    unfold smI at e
    split at e
    · rename_i z; cases z
    · rename_i i r' q
      cases q
      split at e
      · rename_i cc
        obtain ⟨f', e1, rfl⟩ := Option.map_eq_some_iff.mp e
        show (decide (i.natAbs.log2 < 1920) && PyData.showableAll (pdI f')) = true
        rw [smI_show e1, Bool.and_true]
        refine decide_eq_true ?_
        refine Nat.lt_of_lt_of_le ?_ (show 20 ≤ 1920 by omega)
        by_cases z : i.natAbs = 0
        · rw [z]; decide
        · exact (Nat.log2_lt z).mpr (Nat.lt_of_lt_of_le cc (by decide))
      · cases e
    · cases e
theorem smF_show : ∀ {xs : List VV} {f : List (List Int)}, smF xs = some f → PyData.showableAll (pdF f) = true
  | [], f, e => by cases e; rfl
  | x :: xs, f, e => by
    unfold smF at e
    split at e
    · rename_i z; cases z
    · rename_i ys r' q
      cases q
      obtain ⟨f1, e1, e2⟩ := Option.bind_eq_some_iff.mp e
      obtain ⟨f', e3, rfl⟩ := Option.map_eq_some_iff.mp e2
      show (PyData.showableAll (pdI f1) && PyData.showableAll (pdF f')) = true
      rw [smF_show e3, smI_show e1]; rfl
    · cases e
theorem pdI_dict : ∀ f : List Int, PyData.hasDictAll (pdI f) = false
  | [] => rfl
  | i :: f => by show (false || PyData.hasDictAll (pdI f)) = false; rw [pdI_dict f]; rfl
theorem pdF_dict : ∀ f : List (List Int), PyData.hasDictAll (pdF f) = false
  | [] => rfl
  | i :: f => by show (PyData.hasDictAll (pdI i) || PyData.hasDictAll (pdF f)) = false; rw [pdF_dict f, pdI_dict i]; rfl
theorem pdI_depth : ∀ f : List Int, PyData.depthAll (pdI f) = 0
  | [] => rfl
  | i :: f => by show max 0 (PyData.depthAll (pdI f)) = 0; rw [pdI_depth f]; rfl
theorem pdF_depth : ∀ f : List (List Int), PyData.depthAll (pdF f) ≤ 1
  | [] => by decide
  | i :: f => by
    show max (PyData.depthAll (pdI i) + 1) (PyData.depthAll (pdF f)) ≤ 1
    have := pdF_depth f
    rw [pdI_depth i]; omega
section
variable {X : Cx} {W : WX} {k : Nat}
/-- what is read of such a list -/
theorem lstTx_reads {pins : List (Addr × Obj)} {σ : L2.St} {H : Hp} {s : Shared} {g : Gh} {h : VH} {v : VV} {u : V} {uu : Value} {t : Str} (I : L2.Inv X pins σ H s) (rh : RH (ct X) g h H) (rv : RT (ct X) g H v u) (r : RelV u uu) (e : lstTx h v = some t) :
    ∃ p d, uu = .ref p ∧ PyData.shown d = t ∧ t.length ≤ sizeLine ∧ Reads s.heap (.ref p) d [p] ∧ d.showable = true ∧ d.hasDict = false ∧ d.depth ≤ 2 := by
  unfold lstTx at e
  obtain ⟨xs, e1, e2⟩ := Option.bind_eq_some_iff.mp e
  obtain ⟨fs, e3, e4⟩ := Option.bind_eq_some_iff.mp e2
  split at e4
  · rename_i cc
    cases e4
    obtain ⟨p, us, rfl, hp, rvs⟩ := lstOf'_get rh rv e1
    obtain rfl : uu = Value.ref p := r
    obtain ⟨_, its, n, vals, gp⟩ := I.hok p _ hp
    exact ⟨p, .list (pdF fs), rfl, rfl, SZ_le cc, .list gp rfl rfl (by simpa using smF_reads I.hok e3 rvs vals), smF_show e3, pdF_dict fs, Nat.succ_le_succ (pdF_depth fs)⟩
  · cases e4
def cStrL : OpN := fun h vs => match vs with
  | [v] => (lstTx h v).map .str
  | _ => none
theorem cr_strL (hg : X.A.guards = some []) (hr : Room k X.A) : CallR X (.type "str") (RdN (ct X) cStrL) := by
  intro pins s σ H xs us Q I r ⟨g, h, vs, y, rh, rv, e, kk⟩
  unfold cStrL at e
  split at e
  · rename_i v
    obtain ⟨t, e1, rfl⟩ := Option.map_eq_some_iff.mp e
    obtain ⟨u, q, rfl, ra, rfl⟩ := rv
    cases r with
    | cons r1 r2 =>
      cases r2
      obtain ⟨p, d, rfl, rfl, hz, rd, h1, h2, h3⟩ := lstTx_reads I rh ra r1 e1
      have hu := hr.un
      exact str_of_reads rd h1 (PyData.noDict_hsm h2) hg (by omega) (fun _ _ e => e) (fun h' t tk hk => ⟨.str _, H, I.kept hk, ⟨_, rfl⟩, kk g H _ .refl rh rt_str⟩) hz
  · cases e
def fmtLR (v : VV) (h : VH) : Res VV := match lstTx h v with
  | some t => .ok (.str t) h
  | none => .no
def eFmtL (f : EF) : EF := fun ρ h => (f ρ h).bind fmtLR
theorem j_fmtL {e : Expr} {f : EF} {pos : Pos} (hg : X.A.guards = some []) (hr : Room k X.A) (he : PE X e (tE (ct X) W f)) : PE X (.FormattedValue e (-1) none pos) (tE (ct X) W (eFmtL f)) := by
  refine ⟨fun pins s σ H Q I q => ?_⟩
  obtain ⟨g, ρ, h0, rh, rs, p⟩ := q
  have p2 := Pst.bind (R := RT (ct X)) p
  refine wpAny_FormattedValue_plain (thn (he.run pins s σ H _ I ⟨g, ρ, h0, rh, rs, p2⟩) fun v s1 hv => ?_)
  obtain ⟨x, H1, I1, r1, g1, v1, h1, st, rh1, rv1, p1⟩ := hv
  unfold fmtLR at p1
  split at p1
  · rename_i t e1
    obtain ⟨p, d, rfl, rfl, hz, rd, z1, z2, z3⟩ := lstTx_reads I1 rh1 rv1 r1 e1
    have hu := hr.un
    exact formatField_of_reads rd z1 (PyData.noDict_hsm z2) hg (by omega) (fun _ _ e => e) (fun h' t tk hk => ⟨.str _, H1, I1.kept hk, ⟨_, rfl⟩, p1 g1 H1 _ .refl rh1 rt_str⟩) hz
  · exact p1.elim
end
end J
namespace J
open PySem L2
open PyProof.Rows (envOfC)
/-! x != a list, by the class's own __eq__ -/
section
open PySem.W PySem.Calls PyProof.Rows
variable {prog : Program} {w : World} {A : Around} {E : Value → Shared → Prop} {s : Shared} {K : Frag} {x C L f : Addr} {h₀ : Heap} {m : Str → Option Value} {ox : Obj} {od : Option Obj} {b : Value}
theorem cmp_neT {tb : Value} {Q : Value → Shared → Prop} (hu : A.units + 1 < cLine) (X : K.In s.heap) (I : InstAt s.heap x ox C od) (hb : Looks (model prog w) s.heap (typeOf b) tb) (hnf : subIn K tb (.ref C) = some false) (hn : findIn K (.ref C) "__ne__" = some (some (.builtin "object.__ne__"))) (hm : mroIn K C (.type "object") = some true)
    (hs : findIn K (.ref C) "__eq__" = some (some (.ref f))) (hf : isFn K (.ref f) = true)
    (h : wpAny (model prog w) A.in1 (call (.ref f) [.ref x, b]) (fun v s' => ∃ r, v = .bool r ∧ Q (.bool (!r)) s') E s) : wpAny (model prog w) A (richCompare .NotEq (.ref x) b) Q E s := by
  have isO : Looks (model prog w) s.heap (isInstance (.ref x) (.type "object")) true := I.type.andThen (looks_mroIn X hm)
  have inner : wpAny (model prog w) A (call (.builtin "object.__ne__") [.ref x, b]) (fun v s' => (∃ r, v = .bool r) ∧ Q v s') E s := by
    apply wpAny_call
    refine codeAny_call_builtin PySem.F.slot_object_ne.plain PySem.F.entry_object_ne ?_
    refine @check_slot (model prog w) _ _ s "object.__ne__" "object" "__ne__" (.ref x) [b] [] _ (by decide +kernel) (by decide +kernel) isO (PySem.F.args_object_ne_2 (.ref x) b) ?_
    unfold Builtin.«object.__ne__»
    apply wpAny_bind
    refine wpAny_of_eq (a := ((Value.ref x : Value), [b])) (by first | rfl | (simp only [slotArgs]; rfl)) ?_
    apply wpAny_bind
    refine wpAny_cRoomFor (show A.in1.units < cLine from hu) ?_
    apply wpAny_bind
    refine ifBound_K X I hs hf (wpAny_mono h (fun v s' hv => ?_) fun _ _ e => e)
    obtain ⟨r, rfl, q⟩ := hv
    show wpAny _ _ (do ret (.bool (!(← truthy (.bool r))))) _ _ _
    apply wpAny_bind
    refine wpAny_truthy_bool ?_
    exact wpAny_pure ⟨⟨_, rfl⟩, q⟩
  have one : wpAny (model prog w) A (tryCompare (.ref x) "__ne__" b) (fun r s' => ∃ v, r = some v ∧ Q v s') E s := by
    unfold tryCompare
    apply wpAny_bind
    simp only [callSpecialIfBound?, bindSpecialIfBound?]
    apply wpAny_holding
    apply wpAny_bind
    apply wpAny_bind
    apply wpAny_bind
    refine I.type.here ((looks_findIn X hn).here ?_)
    apply wpAny_bind
    apply wpAny_askSetting
    apply wpAny_ite
    have go : wpAny (model prog w) A (call (.builtin "object.__ne__") ([.ref x] ++ [b]) >>= fun v => pure (some v)) (fun r s' => wpAny (model prog w) A (match r with
      | some .notImplemented | none => pure none
      | some v => pure (some v)) (fun r s' => ∃ v, r = some v ∧ Q v s') E s') E s := by
      apply wpAny_bind
      refine wpAny_mono inner (fun v s' hv => ?_) fun _ _ e => e
      obtain ⟨⟨r, rfl⟩, q⟩ := hv
      exact wpAny_pure (wpAny_pure ⟨_, rfl, q⟩)
    have eb := PySem.F.slot_object_ne.bind (.ref x)
    split
    · apply wpAny_bind
      rw [eb]
      exact wpAny_pure (wpAny_pure (by exact go))
    · apply wpAny_tryCatch
      apply wpAny_bind
      rw [eb]
      exact wpAny_pure (wpAny_pure (by exact go))
  unfold richCompare
  simp only [oneThing_ref]
  apply wpAny_holding
  apply wpAny_bind
  refine wpAny_cRoomFor (by omega) ?_
  apply wpAny_bind
  refine I.type.here ?_
  apply wpAny_bind
  refine hb.here ?_
  have fin : ∀ F : Option Value → Sem Value, (∀ v s', Q v s' → wpAny (model prog w) A (F (some v)) Q E s') → wpAny (model prog w) A (tryCompare (.ref x) "__ne__" b >>= F) Q E s := fun F kf =>
    wpAny_bind (wpAny_mono one (fun r s' ⟨v, ev, hq⟩ => by rw [ev]; exact kf v s' hq) fun _ _ e => e)
  split
  · apply wpAny_bind
    refine (looks_subIn X hnf).here ?_
    simp only [Bool.false_eq_true, if_false]
    exact fin _ fun v s' hq => wpAny_pure hq
  · apply wpAny_bind
    apply wpAny_pure
    simp only [Bool.false_eq_true, if_false]
    exact fin _ fun v s' hq => wpAny_pure hq
end
section
variable {X : Cx} {W : WX} {k : Nat} {cn : Str} {Fm : FF}
theorem sub_list {K : PySem.W.Frag} {C : Addr} : PySem.W.subIn K (.type "list") (.ref C) = some false := by
  have h : fastBuiltinMro "list" = some [.type "list", .type "object"] := by decide +kernel
  unfold PySem.W.subIn
  simp only
  rw [h]
  rfl
def RdNL (c : Ct) (cn : Str) (Fm : FF) : R2 := fun x y H Q => ∃ g h v w a xs, RH c g h H ∧ RT c g H v x ∧ RT c g H w y ∧ insOf h v = some a ∧ a.1 = cn ∧ lstOf' h w = some xs ∧
  Pst c W0 [] (RT c) g H (fun u H' => ∃ r, u = .bl r ∧ Q (.bl (!r)) H') (Fm [v, w] h)
theorem or_ownNeL (O : OkM X.prog X.w X.K X.mg X.base k cn "__eq__" 2 [] Fm) (N : NeC X.K X.mg cn) (hr : Room (k + 1) X.A) : OpR X (compareOp .NotEq) (RdNL (ct X) cn Fm) := by
  intro pins s σ H x y v u Q I rx ry ⟨g, h, va, wa, a, xs, rh, rv, rw', ea, ca, el, pp⟩
  obtain ⟨p, C, dx, us, rfl, mC, hp, _, _⟩ := insOf_get rh rv ea
  obtain ⟨q, us2, rfl, hq, _⟩ := lstOf'_get rh rw' el
  rw [ca] at mC
  cases rx
  cases ry
  obtain ⟨C', f, fd, ps, dvs, ds, m, cl, me, F, bi, vd, rd⟩ := id O.ex
  have eC : C' = C := by have z := m.symm.trans mC; cases z; rfl
  subst eC
  obtain ⟨mA, J1, _⟩ := ins_get I.hok hp
  obtain ⟨od1, J1, _⟩ := J1.look
  obtain ⟨n1, n2⟩ := N C' mC
  obtain ⟨_, its, n, _, gq⟩ := I.hok q _ hq
  have hu := hr.un
  show wpAny (model X.prog X.w) X.A (richCompare .NotEq (.ref p) (.ref q)) (EP X pins σ Q) X.xe s
  refine cmp_neT (tb := .type "list") (by omega) I.kIn J1 (fun A Q E s k q => wpAny_typeOf_ref (k _ _ gq) q) sub_list n1 n2 me.at_ me.fn ?_
  refine wpAny_mono (eq_run O hr.in1 rfl mC me.at_ I rh rv rw' pp) (fun z s' e => ?_) fun _ _ e => e
  obtain ⟨zz, H', I', rz, r, ez, qq⟩ := e
  subst ez
  obtain rfl : z = Value.bool r := rz
  exact ⟨r, rfl, .bl (!r), H', I', rfl, qq⟩
def neLR (cn : Str) (F : FF) (v w : VV) (h2 : VH) : Res VV := match insOf h2 v, lstOf' h2 w with
  | some a, some _ => if a.1 = cn then (noX (F [v, w] h2)).bind fun r h3 => (match r with
    | .bl r => .ok (.bl (!r)) h3
    | _ => .no) else .no
  | _, _ => .no
def eOwnNeL (cn : Str) (F : FF) (fa fb : EF) : EF := fun ρ h => (fa ρ h).bind fun v h1 => (fb ρ h1).bind fun w h2 => neLR cn F v w h2
theorem rdNL_of {σ : St} {g : Gh} {h2 : VH} {H : Hp} {Q : VK} {v w : VV} {x y : V} (rh : RH (ct X) g h2 H) (rv : RT (ct X) g H v x) (rw' : RT (ct X) g H w y) (p : Pst (ct X) W σ (RT (ct X)) g H Q (neLR cn Fm v w h2)) : RdNL (ct X) cn Fm x y H Q := by
  unfold neLR at p
  cases ea : insOf h2 v with
  | none => rw [ea] at p; exact p.elim
  | some a =>
    cases eb : lstOf' h2 w with
    | none => rw [ea, eb] at p; exact p.elim
    | some b =>
      rw [ea, eb] at p
      simp only at p
      by_cases cc : a.1 = cn
      · rw [if_pos cc] at p
        refine ⟨g, h2, v, w, a, b, rh, rv, rw', ea, cc, eb, ?_⟩
        cases er : Fm [v, w] h2 with
        | no => rw [er] at p; exact p
        | exc => rw [er] at p; exact p.elim
        | ok r h3 =>
          rw [er] at p
          cases r with
          | bl r => exact fun g' H' u st rh' rv' => ⟨r, bl_get rv', p g' H' _ st rh' rt_bl⟩
          | _ => exact p.elim
      · rw [if_neg cc] at p; exact p.elim
theorem j_ownNeL {a b : Expr} {fa fb : EF} {pos : Pos} (O : OkM X.prog X.w X.K X.mg X.base k cn "__eq__" 2 [] Fm) (N : NeC X.K X.mg cn) (hr : Room (k + 1) X.A) (ha : PE X a (tE (ct X) W fa)) (hb : PE X b (tE (ct X) W fb)) (hm : behindInMarks .NotEq b = false) : PE X (.Compare a [.NotEq] [b] pos) (tE (ct X) W (eOwnNeL cn Fm fa fb)) :=
  PE.mono (pe_cmpR (or_ownNeL O N hr) ha hb hm) fun σ H Q ⟨g, ρ, h0, rh, rs, p⟩ => by
    refine ⟨g, ρ, h0, rh, rs, (Pst.bind (R := RT (ct X)) p).imp fun u H1 ⟨g1, v, h1, st, rh1, rv1, p1⟩ => ?_⟩
    refine ⟨g1, ρ, h1, rh1, rs.stp st, (Pst.bind (R := RT (ct X)) p1).imp fun u2 H2 ⟨g2, w, h2, st2, rh2, rv2, p2⟩ => ?_⟩
    exact rdNL_of rh2 (rv1.stp st2) rv2 p2
end
end J
namespace J
open PySem L2
/-! a class made without arguments, its default an empty tuple of the module -/
/-- the empty web, frozen -/
def web0V : VV := .ins "Web" ["table", "places"] [.lst [.lst [], .lst [], .lst [], .lst []], .dT [] []]
theorem rt_raw {c : Ct} {g : Gh} {H : Hp} {a : Addr} : RT c g H (.raw a) (.ref a) := by show RV _ _ _ _ _; rw [RV]
def EmpT (K : PySem.W.Frag) (a : Addr) : Prop := ∃ (o : Obj) (n : Nat), K.lookup a = some o ∧ o.cls = .type "tuple" ∧ o.data = .seq #[] n
def empB (K : PySem.W.Frag) (a : Addr) : Bool := match K.lookup a with
  | some ⟨c, _, .seq its _, _⟩ => (c == .type "tuple") && its.isEmpty
  | _ => false
theorem empB_ok {K : PySem.W.Frag} {a : Addr} (b : empB K a = true) : EmpT K a := by
  unfold empB at b
  split at b
  · rename_i c dc its n sl e
    obtain ⟨b1, b2⟩ := Bool.and_eq_true_iff.mp b
    refine ⟨_, n, e, beq_iff_eq.mp b1, ?_⟩
    have : its = #[] := by simpa using b2
    subst this; rfl
  · cases b
theorem EmpT.sq {K : PySem.W.Frag} {H : Hp} {a : Addr} (e : EmpT K a) : SqT K H a [] := by
  obtain ⟨o, n, e1, e2, e3⟩ := e
  exact .inr ⟨o, #[], n, e1, e2, e3, by show 0 ≤ _; omega, .nil⟩
/-- enumerate(the empty tuple at tp) -/
def iEnum0 (tp : Addr) (a : AF) : AF := fun ρ h => (a ρ h).bind fun v h1 => match v with
  | [.raw q] => if q = tp then .ok [] h1 else .no
  | _ => .no
theorem deliv0 {c : Ct} {g : Gh} {H : Hp} {tp : Addr} (e : EmpT c.K tp) : Deliv c g H [] (IteT c.K tp) where
  go := fun g1 H1 st i hi => absurd hi (Nat.not_lt_zero _)
  stop := fun g1 H1 st i hi => ⟨[], e.sq, Nat.zero_le _⟩
  yld := fun g1 H1 st i x h1 ex => by simp at ex
section
variable {X : Cx} {W : WX}
theorem ji_enum0 {tp : Addr} {a : Expr} {f : AF} {p pos tpos : Pos} {elts : List Expr} {kk : Nat} (em : EmpT X.K tp) (hg : Gl X "enumerate") (hm : X.mg "enumerate" = none) (ha : PA X [a] (tA (ct X) W f)) (hs : starEach [a] X.env = [(false, eval a X.env)] := by rfl) :
    PI X (.Tuple elts kk tpos) (.Call (.Name "enumerate" p) [a] [] pos) (tI (ct X) W (iEnum0 tp f)) :=
  PI.mono (pi_enumT hg hm ha hs) fun σ H R h => by
    obtain ⟨g, ρ, h0, rh, rs, p⟩ := h
    refine ⟨g, ρ, h0, rh, rs, (Pst.bind (R := RTs (ct X)) p).imp fun us H1 ⟨g1, vs, h1, st, rh1, rv1, p1⟩ => ?_⟩
    split at p1
    · rename_i q
      by_cases eq : q = tp
      · subst eq
        rw [if_pos rfl] at p1
        obtain ⟨u1, r1, rfl, a1, rfl⟩ := rv1
        have a2 := a1.rv rfl
        rw [RV] at a2
        subst a2
        exact ⟨q, [], rfl, em.sq, p1 g1 H1 _ .refl rh1 (deliv0 em)⟩
      · rw [if_neg eq] at p1; exact p1.elim
    · exact p1.elim
/-- C() : made and frozen, ahead of it two low roots -/
def eMk0 (w : VV) : EF := fun _ h => match h with
  | [o, o9] => if lowO 2 o = true ∧ lowO 2 o9 = true then .ok w [o, o9] else .no
  | _ => .no
theorem j_make0 {k : Nat} {cn : Str} {Fm : FF} {v w : VV} {p pos : Pos} (O : OkC X.prog X.w X.K X.mg X.base k cn 2 [v] Fm) (hr : Room (k + 1) X.A) (hg : Gl X cn) (hW : ∀ o o9 : VO, lowO 2 o = true → lowO 2 o9 = true → mkZ 2 (Fm [.obj 2, v] [o, o9, .ins cn [] []]) = .ok w [o, o9])
    (hdb : (cn == ("__debug__" : Str)) = false := by decide) : PE X (.Call (.Name cn p) [] [] pos) (tE (ct X) W (eMk0 w)) := by
  obtain ⟨C, f, fd, ps, dvs, ds, h1, h2, h4, h5, h6, h7⟩ := O.ex
  refine PE.mono (pe_make0 (E := X0) h2 h4 hr hg h1 h5 h6 passes0 hdb) fun σ H Q ⟨g, ρ, h0, rh, rs, p⟩ => ?_
  have q := tMake_of (X := X) (W := W) (cn := cn) (n := 2) (Fm := Fm) (dws := [v]) (fa := aNil) (σ := σ) (H := H) (Q := Q) h1 h7 ⟨g, ρ, h0, rh, rs, by
    unfold eMk0 at p
    split at p
    · rename_i o o9
      by_cases c : lowO 2 o = true ∧ lowO 2 o9 = true
      · rw [if_pos c] at p
        show Pst _ _ _ _ _ _ _ (if (2 : Nat) = 2 then mkZ 2 (Fm [.obj 2, v] [o, o9, .ins cn [] []]) else .no)
        rw [if_pos rfl, hW o o9 c.1 c.2]
        exact p
      · rw [if_neg c] at p; exact p.elim
    · exact p.elim⟩
  obtain ⟨g3, ρ3, hh3, rh3, rs3, q3⟩ := q
  exact q3 g3 H [] .refl rh3 rfl
end
end J
namespace J
open PySem L2
variable {ρ : VSt} {h h' : VH}
theorem a_txt {cn : Str} {F : FF} {fa : EF} : eTxt cn F fa ρ h = bnd (fa ρ h) (fun v h1 => txR cn F v h1) (tg _) := nr rfl
theorem a_fmtL {f : EF} : eFmtL f ρ h = bnd (f ρ h) fmtLR (tg _) := nr rfl
theorem a_ownNeL {cn : Str} {F : FF} {fa fb : EF} : eOwnNeL cn F fa fb ρ h = bnd (fa ρ h) (fun v h1 => bnd (fb ρ h1) (fun w h2 => neLR cn F v w h2) (tg _)) (tg _) := nr rfl
theorem a_mk0 {w : VV} {o o9 : VO} (h1 : lowO 2 o = true) (h2 : lowO 2 o9 = true) : eMk0 w ρ [o, o9] = .ok w [o, o9] := by
  unfold eMk0
  simp only
  rw [if_pos ⟨h1, h2⟩]
end J
namespace J
open PySem L2 M
/-! evaluation of what J61, J63 added -/
section
variable {ρ : VSt} {h : VH}
def maxR (v w : VV) (h : VH) : Res VV := lift (cMaxD h [v] [w]) h
theorem a_maxD {a k : EF} : eMaxD (aCons a aNil) (aCons k aNil) ρ h = bnd (a ρ h) (fun v h1 => bnd (k ρ h1) (fun w h2 => maxR v w h2) (tg _)) (tg _) := by
  unfold eMaxD aCons aNil
  show _ = (a ρ h).bind fun v h1 => (k ρ h1).bind fun w h2 => maxR v w h2
  cases a ρ h with
  | no => rfl
  | exc => rfl
  | ok v h1 =>
    simp only [Res.bind]
    cases k ρ h1 <;> rfl
theorem a_lc3 {own it b t it1 b1 vs1 t1 it2 b2 vs2 t2 e} : eLc3 own it b t it1 b1 vs1 t1 it2 b2 vs2 t2 e ρ h = bnd (it ρ h) (fun xs h1 => afterL (lc3Go b t it1 b1 vs1 t1 it2 b2 vs2 t2 e (wp ρ own) xs h1 [])) (tg _) := nr rfl
theorem a_dc1T {own it b fk fv} : eDc1T own it b fk fv ρ h = bnd (it ρ h) (fun xs h1 => bnd (noX (accGo b (stDict fk fv) (wp ρ own) xs h1 ([], []))) (fun a h2 => .ok (.dT a.1 a.2) h2) (tg _)) (tg _) := nr rfl
end
end J
namespace L
open PySem L2 J
def top (i : Nat) : Stmt := PySem.Challenge.pw_cupweb_k11_webs_alike_and_as_text.main.body.getD i (.Pass ⟨0, 0, 0, 0⟩)
abbrev s_law_box : Stmt := top 15
abbrev s_law_mixed : Stmt := top 16
abbrev s_law_take : Stmt := top 17
abbrev s_law_points : Stmt := top 22
abbrev s_law_drawn_face : Stmt := top 23
abbrev s_law_drawn_tops : Stmt := top 24
abbrev s_law_subs : Stmt := top 19
abbrev s_law_fourwall : Stmt := top 25
abbrev s_law_wound : Stmt := top 26
abbrev s_law_tyre : Stmt := top 27
abbrev s_law_some_tops : Stmt := top 28
abbrev s_law_closed : Stmt := top 20
abbrev s_is_face : Stmt := top 10
abbrev s_own_faces : Stmt := top 11
abbrev s_Web_init : Stmt := inClass (top 13) 0
abbrev s_Web_eq : Stmt := inClass (top 13) 12
abbrev s_law_tops : Stmt := top 21
abbrev s_within : Stmt := top 12
abbrev s_Web_around : Stmt := inClass (top 13) 6
abbrev s_Web_tops : Stmt := inClass (top 13) 7
abbrev s_Web_str : Stmt := inClass (top 13) 14
abbrev s_law_alike : Stmt := top 18
abbrev s_Web_repr : Stmt := inClass (top 13) 13
abbrev s_Web_len : Stmt := inClass (top 13) 11
abbrev s_Web_initO : Stmt := inClass (top 13) 0
abbrev s_law : Stmt := top 29
def fs_0 : List He.Fa := [.glo "Web", .cls "Web", .mkr "Web", .free "all", .free "bool", .free "enumerate", .free "int", .free "isinstance", .free "len", .free "list", .free "min", .free "range", .free "repr", .free "set", .free "sorted", .free "str", .free "tuple", .free "zip", .int "FACES_MOST" 120, .int "POINTS_MOST" 15]
def fs_1 : List He.Fa := [.int "SIZE_MOST" 3, .noat "Web" "places", .noat "Web" "table", .glo "_law_box", .glo "_law_mixed", .glo "_law_take", .glo "_law_points", .glo "_law_drawn_face", .glo "_law_drawn_tops", .glo "_law_subs", .glo "_law_fourwall", .glo "_law_wound", .glo "_law_tyre", .glo "_law_some_tops", .glo "_law_closed", .glo "is_face", .glo "own_faces", .glo "_law_tops", .glo "within", .glo "_law_alike"]
def fs_2 : List He.Fa := [.glo "law", .meth "Web" "__eq__", .meth "Web" "around", .meth "Web" "tops", .meth "Web" "__str__", .meth "Web" "__repr__", .meth "Web" "__len__"]
def fs : List He.Fa := fs_0 ++ fs_1 ++ fs_2
def fn_0 : List He.DefD := [⟨("_law_box", none), "_law_box", "_law_box", defArgs s_law_box, defBody s_law_box, defScope s_law_box, [], []⟩, ⟨("_law_mixed", none), "_law_mixed", "_law_mixed", defArgs s_law_mixed, defBody s_law_mixed, defScope s_law_mixed, [], []⟩, ⟨("_law_take", none), "_law_take", "_law_take", defArgs s_law_take, defBody s_law_take, defScope s_law_take, [], []⟩, ⟨("_law_points", none), "_law_points", "_law_points", defArgs s_law_points, defBody s_law_points, defScope s_law_points, [], []⟩, ⟨("_law_drawn_face", none), "_law_drawn_face", "_law_drawn_face", defArgs s_law_drawn_face, defBody s_law_drawn_face, defScope s_law_drawn_face, [], []⟩, ⟨("_law_drawn_tops", none), "_law_drawn_tops", "_law_drawn_tops", defArgs s_law_drawn_tops, defBody s_law_drawn_tops, defScope s_law_drawn_tops, [], []⟩, ⟨("_law_subs", none), "_law_subs", "_law_subs", defArgs s_law_subs, defBody s_law_subs, defScope s_law_subs, [], []⟩, ⟨("_law_fourwall", none), "_law_fourwall", "_law_fourwall", defArgs s_law_fourwall, defBody s_law_fourwall, defScope s_law_fourwall, [], []⟩, ⟨("_law_wound", none), "_law_wound", "_law_wound", defArgs s_law_wound, defBody s_law_wound, defScope s_law_wound, [], []⟩, ⟨("_law_tyre", none), "_law_tyre", "_law_tyre", defArgs s_law_tyre, defBody s_law_tyre, defScope s_law_tyre, [], []⟩, ⟨("_law_some_tops", none), "_law_some_tops", "_law_some_tops", defArgs s_law_some_tops, defBody s_law_some_tops, defScope s_law_some_tops, [], []⟩, ⟨("_law_closed", none), "_law_closed", "_law_closed", defArgs s_law_closed, defBody s_law_closed, defScope s_law_closed, [], []⟩, ⟨("is_face", none), "is_face", "is_face", defArgs s_is_face, defBody s_is_face, defScope s_is_face, [], []⟩, ⟨("own_faces", none), "own_faces", "own_faces", defArgs s_own_faces, defBody s_own_faces, defScope s_own_faces, [], []⟩, ⟨("Web", some "__init__"), "__init__", "Web.__init__", defArgs s_Web_init, defBody s_Web_init, defScope s_Web_init, [.adr (He.dflAt ("Web", some "__init__") 0)], []⟩, ⟨("Web", some "__eq__"), "__eq__", "Web.__eq__", defArgs s_Web_eq, defBody s_Web_eq, defScope s_Web_eq, [], []⟩, ⟨("_law_tops", none), "_law_tops", "_law_tops", defArgs s_law_tops, defBody s_law_tops, defScope s_law_tops, [], []⟩, ⟨("within", none), "within", "within", defArgs s_within, defBody s_within, defScope s_within, [], []⟩, ⟨("Web", some "around"), "around", "Web.around", defArgs s_Web_around, defBody s_Web_around, defScope s_Web_around, [], []⟩, ⟨("Web", some "tops"), "tops", "Web.tops", defArgs s_Web_tops, defBody s_Web_tops, defScope s_Web_tops, [], []⟩]
def fn_1 : List He.DefD := [⟨("Web", some "__str__"), "__str__", "Web.__str__", defArgs s_Web_str, defBody s_Web_str, defScope s_Web_str, [], []⟩, ⟨("_law_alike", none), "_law_alike", "_law_alike", defArgs s_law_alike, defBody s_law_alike, defScope s_law_alike, [], []⟩, ⟨("Web", some "__repr__"), "__repr__", "Web.__repr__", defArgs s_Web_repr, defBody s_Web_repr, defScope s_Web_repr, [], []⟩, ⟨("Web", some "__len__"), "__len__", "Web.__len__", defArgs s_Web_len, defBody s_Web_len, defScope s_Web_len, [], []⟩, ⟨("Web", some "__init__"), "__init__", "Web.__init__", defArgs s_Web_initO, defBody s_Web_initO, defScope s_Web_initO, [.adr (He.dflAt ("Web", some "__init__") 0)], []⟩, ⟨("law", none), "law", "law", defArgs s_law, defBody s_law, defScope s_law, [], []⟩]
def fn : List He.DefD := fn_0 ++ fn_1
def exs (K : PySem.W.Frag) : List Bool := [tabB K, neB K "Web", isB K (He.ga K "Web"), empB K (He.dflAt ("Web", some "__init__") 0 K)]
def ex (K : PySem.W.Frag) : Bool := (exs K).all id
def loose_0 : List PySem.Str := ["_wall", "WebError", "BadFace", "Full", "NoFace", "POINTS_MOST", "FACES_MOST", "SIZE_MOST", "is_face", "own_faces", "within", "Web", "_law_box", "_law_mixed", "_law_take", "_law_alike", "_law_subs", "_law_closed", "_law_tops", "_law_points"]
def loose_1 : List PySem.Str := ["_law_drawn_face", "_law_drawn_tops", "_law_fourwall", "_law_wound", "_law_tyre", "_law_some_tops"]
def loose : List PySem.Str := loose_0 ++ loose_1
end L
namespace L
open PySem PySem.W PySem.Calls PyProof.Rows
abbrev hR : OpenRow := OpenLaw.row PySem.Challenge.rw_cupweb_k11_webs_alike_and_as_text
abbrev hq : Program := view hR.prog [29]
def has : List Addr := List.range 1000
abbrev hk : Hook := J.hookL has fs fn ex
def hob (s : SharedT) : He.AlD × Bool := J.obsL has fs fn ex (HandSHeadRun.getT s)
theorem hrun (w : World) : HandSHeadRun.RunEq hR hq hk hob 30000 loose w := by
  intro os
  kernel_rfl
end L
namespace L
open PySem L2 J
abbrev lb_law_box_1 : SF :=
    (sSet 1 (eBin opMod (eBin opAdd (eBin opAdd (eBin opMul (eVar 1) (eC (.int 31))) (eVar 2)) (eC (.int 17))) (eC (.int 2147483647))))
def B_law_box : SF :=
    (sSeq (sSet 1 (eC (.int 0)))
    (sSeq (sFor (iSeq (eSl opSl (eVar 0) oNone (oSome (eC (.int 63))))) (bNm 2) lb_law_box_1)
    (sRet (eLstO (aCons (eCall cList (aCons (eSl opSl (eVar 0) oNone (oSome (eC (.int 63)))) aNil)) (aCons (eC (.int 0)) (aCons (eC (.int 0)) (aCons (eC (.int 0)) (aCons (eVar 1) aNil)))))))))
def F_law_box : FF := fnF 3 B_law_box
def B_law_mixed : SF :=
    (sSeq (sSet 2 (eBin opMod (eBin opAdd (eBin opAdd (eBin opMul (eVar 0) (eC (.int 48271))) (eBin opMul (eVar 1) (eC (.int 69621)))) (eC (.int 12345))) (eC (.int 2147483647))))
    (sSeq (sSet 3 (eBin opMod (eBin opAdd (eBin opAdd (eBin opMul (eVar 2) (eBin opAdd (eBin opMod (eVar 2) (eC (.int 65521))) (eC (.int 7)))) (eBin opMul (eVar 1) (eC (.int 40692)))) (eBin opMod (eVar 0) (eC (.int 104729)))) (eC (.int 998244353))))
    (sRet (eBin opFdiv (eVar 3) (eC (.int 7))))))
def F_law_mixed : FF := fnF 4 B_law_mixed
def B_law_take : SF :=
    (sSeq (sSetI (eVar 0) (eC (.int 3)) (eBin opAdd (eBin opIx (eVar 0) (eC (.int 3))) (eC (.int 1))))
    (sSeq (sIf (tVal (eBin opGt (eBin opIx (eVar 0) (eC (.int 2))) (eC (.int 0)))) (sSeq (sSet 3 (eBin opIx (eVar 0) (eC (.int 2))))
    (sSeq (sSetI (eVar 0) (eC (.int 2)) (eBin opFdiv (eVar 3) (eVar 1)))
    (sRet (eBin opMod (eVar 3) (eVar 1))))) sSkip)
    (sSeq (sIf (tVal (eBin opGe (eBin opIx (eVar 0) (eC (.int 1))) (eCall cLen (aCons (eBin opIx (eVar 0) (eC (.int 0))) aNil)))) (sRet (eBin opMod (eFn 2 F_law_mixed [] (aCons (eBin opIx (eVar 0) (eC (.int 4))) (aCons (eBin opIx (eVar 0) (eC (.int 3))) aNil))) (eVar 1))) sSkip)
    (sSeq (sSet 2 (eBin opIx (eBin opIx (eVar 0) (eC (.int 0))) (eBin opIx (eVar 0) (eC (.int 1)))))
    (sSeq (sSetI (eVar 0) (eC (.int 1)) (eBin opAdd (eBin opIx (eVar 0) (eC (.int 1))) (eC (.int 1))))
    (sSeq (sIf (tVal (eBin opLt (eVar 2) (eBin opPow (eC (.int 10)) (eC (.int 18))))) (sRet (eBin opMod (eFn 2 F_law_mixed [] (aCons (eVar 2) (aCons (eBin opIx (eVar 0) (eC (.int 3))) aNil))) (eVar 1))) sSkip)
    (sSeq (sSetI (eVar 0) (eC (.int 2)) (eBin opFdiv (eVar 2) (eVar 1)))
    (sRet (eBin opMod (eVar 2) (eVar 1))))))))))
def F_law_take : FF := fnF 4 B_law_take
abbrev lb_law_points_1 : SF :=
    (sExpr (eApp (eVar 3) (ePop (eVar 2) (eFn 2 F_law_take [] (aCons (eVar 0) (aCons (eCall cLen (aCons (eVar 2) aNil)) aNil))))))
def B_law_points : SF :=
    (sSeq (sSet 2 (eListRngO (eC (.int 16))))
    (sSeq (sSet 3 (eLstO aNil))
    (sSeq (sFor (iRange1 (eVar 1)) (bNm 4) lb_law_points_1)
    (sRet (eFrzD (eVar 3))))))
def F_law_points : FF := fnF 5 B_law_points
abbrev lb_law_drawn_face_1 : SF :=
    (sExpr (eApp (eVar 4) (ePop (eVar 3) (eFn 2 F_law_take [] (aCons (eVar 0) (aCons (eCall cLen (aCons (eVar 3) aNil)) aNil))))))
def B_law_drawn_face : SF :=
    (sSeq (sSet 3 (eNewO lList (aCons (eVar 1) aNil)))
    (sSeq (sSet 4 (eLstO aNil))
    (sSeq (sFor (iRange1 (eCall cMin (aCons (eCall cLen (aCons (eVar 3) aNil)) (aCons (eBin opAdd (eC (.int 1)) (eFn 2 F_law_take [] (aCons (eVar 0) (aCons (eBin opAdd (eVar 2) (eC (.int 1))) aNil)))) aNil)))) (bNm 5) lb_law_drawn_face_1)
    (sRet (eCall cTuple (aCons (eFrzD (eVar 4)) aNil))))))
def F_law_drawn_face : FF := fnF 6 B_law_drawn_face
abbrev le_law_drawn_tops_1 : EF :=
    (eFn 3 F_law_drawn_face [] (aCons (eVar 0) (aCons (eVar 4) (aCons (eVar 3) aNil))))
def B_law_drawn_tops : SF :=
    (sSeq (sSet 4 (eFn 2 F_law_points [] (aCons (eVar 0) (aCons (eBin opAdd (eC (.int 1)) (eFn 2 F_law_take [] (aCons (eVar 0) (aCons (eVar 1) aNil)))) aNil))))
    (sRet (eLc [5] (iRange1 (eFn 2 F_law_take [] (aCons (eVar 0) (aCons (eBin opAdd (eVar 2) (eC (.int 1))) aNil)))) (bNm 5) tTrue le_law_drawn_tops_1)))
def F_law_drawn_tops : FF := fnF 6 B_law_drawn_tops
abbrev le_law_subs_1 : EF :=
    (eBin opAdd (eVar 3) (eTup (aCons (eVar 2) aNil)))
abbrev lb_law_subs_1 : SF :=
    (sSet 1 (eBin opAdd (eVar 1) (eLc [3] (iSeq (eVar 1)) (bNm 3) tTrue le_law_subs_1)))
def B_law_subs : SF :=
    (sSeq (sSet 1 (eLst (aCons (eTup aNil) aNil)))
    (sSeq (sFor (iSeq (eCall cSorted (aCons (eVar 0) aNil))) (bNm 2) lb_law_subs_1)
    (sRet (eSl opSl (eVar 1) (oSome (eC (.int 1))) oNone))))
def F_law_subs : FF := fnF 4 B_law_subs
abbrev lb_law_fourwall_1 : SF :=
    (sIf (tVal (eBin opEq (eCall cLen (aCons (eVar 3) aNil)) (eBin opAdd (eVar 1) (eC (.int 1))))) (sExpr (eApp (eVar 2) (eVar 3))) sSkip)
def B_law_fourwall : SF :=
    (sSeq (sSet 2 (eLstO aNil))
    (sSeq (sFor (iSeq (eFn 1 F_law_subs [] (aCons (eVar 0) aNil))) (bNm 3) lb_law_fourwall_1)
    (sRet (eFrzD (eVar 2)))))
def F_law_fourwall : FF := fnF 4 B_law_fourwall
abbrev lb_law_wound_1 : SF :=
    (sSeq (sSet 7 (eBin opIx (eVar 2) (eVar 6)))
    (sSeq (sSet 8 (eBin opIx (eVar 2) (eBin opMod (eBin opAdd (eVar 6) (eC (.int 1))) (eBin opMul (eC (.int 3)) (eVar 1)))))
    (sSet 5 (eBin opAdd (eVar 5) (eLst (aCons (eTup (aCons (eVar 7) (aCons (eVar 8) (aCons (eBin opIx (eVar 3) (eBin opMod (eVar 6) (eC (.int 3)))) aNil)))) (aCons (eTup (aCons (eVar 8) (aCons (eBin opIx (eVar 3) (eBin opMod (eVar 6) (eC (.int 3)))) (aCons (eBin opIx (eVar 3) (eBin opMod (eBin opAdd (eVar 6) (eC (.int 1))) (eC (.int 3)))) aNil)))) (aCons (eTup (aCons (eVar 7) (aCons (eVar 8) (aCons (eVar 4) aNil)))) aNil))))))))
def B_law_wound : SF :=
    (sSeq (sSet 2 (eSl opSl (eVar 0) oNone (oSome (eBin opMul (eC (.int 3)) (eVar 1)))))
    (sSeq (sSet 3 (eSl opSl (eVar 0) (oSome (eBin opMul (eC (.int 3)) (eVar 1))) (oSome (eBin opAdd (eBin opMul (eC (.int 3)) (eVar 1)) (eC (.int 3))))))
    (sSeq (sSet 4 (eBin opIx (eVar 0) (eBin opAdd (eBin opMul (eC (.int 3)) (eVar 1)) (eC (.int 3)))))
    (sSeq (sSet 5 (eLst aNil))
    (sSeq (sFor (iRange1 (eBin opMul (eC (.int 3)) (eVar 1))) (bNm 6) lb_law_wound_1)
    (sRet (eVar 5)))))))
def F_law_wound : FF := fnF 9 B_law_wound
abbrev lb_law_tyre_1 : SF :=
    (sSeq (sExpr (eApp (eVar 1) (eTup (aCons (eBin opIx (eVar 0) (eVar 2)) (aCons (eBin opIx (eVar 0) (eBin opMod (eBin opAdd (eVar 2) (eC (.int 1))) (eC (.int 7)))) (aCons (eBin opIx (eVar 0) (eBin opMod (eBin opAdd (eVar 2) (eC (.int 3))) (eC (.int 7)))) aNil))))))
    (sExpr (eApp (eVar 1) (eTup (aCons (eBin opIx (eVar 0) (eVar 2)) (aCons (eBin opIx (eVar 0) (eBin opMod (eBin opAdd (eVar 2) (eC (.int 2))) (eC (.int 7)))) (aCons (eBin opIx (eVar 0) (eBin opMod (eBin opAdd (eVar 2) (eC (.int 3))) (eC (.int 7)))) aNil)))))))
def B_law_tyre : SF :=
    (sSeq (sSet 1 (eLstO aNil))
    (sSeq (sFor (iRange1 (eC (.int 7))) (bNm 2) lb_law_tyre_1)
    (sRet (eFrzD (eVar 1)))))
def F_law_tyre : FF := fnF 3 B_law_tyre
def B_law_some_tops : SF :=
    (sSeq (sSet 1 (eFn 2 F_law_take [] (aCons (eVar 0) (aCons (eC (.int 8)) aNil))))
    (sSeq (sIf (tVal (eBin opLt (eVar 1) (eC (.int 4)))) (sRet (eFn 4 F_law_drawn_tops [] (aCons (eVar 0) (aCons (eC (.int 6)) (aCons (eC (.int 6)) (aCons (eC (.int 3)) aNil)))))) sSkip)
    (sSeq (sIf (tVal (eBin opEq (eVar 1) (eC (.int 4)))) (sRet (eFn 4 F_law_drawn_tops [] (aCons (eVar 0) (aCons (eC (.int 6)) (aCons (eC (.int 10)) (aCons (eC (.int 1)) aNil)))))) sSkip)
    (sSeq (sIf (tVal (eBin opEq (eVar 1) (eC (.int 5)))) (sRet (eFn 2 F_law_fourwall [] (aCons (eFn 2 F_law_points [] (aCons (eVar 0) (aCons (eBin opAdd (eC (.int 3)) (eFn 2 F_law_take [] (aCons (eVar 0) (aCons (eC (.int 2)) aNil)))) aNil))) (aCons (eBin opAdd (eC (.int 1)) (eFn 2 F_law_take [] (aCons (eVar 0) (aCons (eC (.int 2)) aNil)))) aNil)))) sSkip)
    (sSeq (sIf (tVal (eBin opEq (eVar 1) (eC (.int 6)))) (sRet (eFn 2 F_law_wound [] (aCons (eFn 2 F_law_points [] (aCons (eVar 0) (aCons (eC (.int 10)) aNil))) (aCons (eC (.int 2)) aNil)))) sSkip)
    (sRet (eFn 1 F_law_tyre [] (aCons (eFn 2 F_law_points [] (aCons (eVar 0) (aCons (eC (.int 7)) aNil))) aNil))))))))
def F_law_some_tops : FF := fnF 2 B_law_some_tops
abbrev lb_law_closed_1 : SF :=
    (sSet 1 (eBin opAdd (eVar 1) (eFn 1 F_law_subs [] (aCons (eVar 2) aNil))))
def B_law_closed : SF :=
    (sSeq (sSet 1 (eLst aNil))
    (sSeq (sFor (iSeq (eVar 0)) (bNm 2) lb_law_closed_1)
    (sRet (eCall cSortSet (aCons (eVar 1) aNil)))))
def F_law_closed : FF := fnF 3 B_law_closed
abbrev le_is_face_1 : EF :=
    (eChain opLe opLe (eC (.int 0)) (eVar 1) (eC (.int 15)))
def B_is_face : SF :=
    (sSeq (sIf (tOr (tNot (tVal (eChain opLe opLe (eC (.int 1)) (eCall cLen (aCons (eVar 0) aNil)) (eBin opAdd (eC (.int 3)) (eC (.int 1)))))) (tVal (eBin opLt (eLenSc [1] (iSeq (eVar 0)) (bNm 1) (eVar 1)) (eCall cLen (aCons (eVar 0) aNil))))) (sRet (eC (.bl false))) sSkip)
    (sRet (eCall cAll (aCons (eLc [1] (iSeq (eVar 0)) (bNm 1) tTrue le_is_face_1) aNil))))
def F_is_face : FF := fnF 2 B_is_face
abbrev le_own_faces_1 : EF :=
    (eBin opAdd (eVar 3) (eTup (aCons (eVar 2) aNil)))
abbrev lb_own_faces_1 : SF :=
    (sSet 1 (eBin opAdd (eVar 1) (eLc [3] (iSeq (eVar 1)) (bNm 3) tTrue le_own_faces_1)))
def B_own_faces : SF :=
    (sSeq (sSet 1 (eLst (aCons (eTup aNil) aNil)))
    (sSeq (sFor (iSeq (eVar 0)) (bNm 2) lb_own_faces_1)
    (sRet (eSl opSl (eVar 1) (oSome (eC (.int 1))) oNone))))
def F_own_faces : FF := fnF 4 B_own_faces
abbrev lb_Web_init_1 : SF :=
    (sSetD (eVar 2) (eVar 5) (eC (.bl true)))
abbrev lb_Web_init_2 : SF :=
    (sSeq (sIf (tNot (tVal (eFn 1 F_is_face [] (aCons (eVar 3) aNil)))) (fun _ _ => .no) sSkip)
    (sFor (iSeq (eFn 1 F_own_faces [] (aCons (eCall cTuple (aCons (eCall cSorted (aCons (eVar 3) aNil)) aNil)) aNil))) (bNm 5) lb_Web_init_1))
abbrev lb_Web_init_3 : SF :=
    (sExpr (eApp (eBin opIx (eFld "Web" "table" (eVar 0)) (eBin opSub (eCall cLen (aCons (eVar 3) aNil)) (eC (.int 1)))) (eVar 3)))
def B_Web_init : SF :=
    (sSeq (sSet 2 eDnew)
    (sSeq (sFor (iEnum (aCons (eVar 1) aNil)) (bTup 2 (bCons (bNm 4) (bCons (bNm 3) bNil))) lb_Web_init_2)
    (sSeq (sIf (tVal (eBin opGt (eCall cLenD (aCons (eVar 2) aNil)) (eC (.int 120)))) (fun _ _ => .no) sSkip)
    (sSeq (sFldS "Web" "table" (eVar 0) (eLcR [6] (iRange1 (eBin opAdd (eC (.int 3)) (eC (.int 1)))) (bNm 6) tTrue (eLstO aNil)))
    (sSeq (sFor (iSeq (eCall cSorted (aCons (eCall cListD (aCons (eVar 2) aNil)) aNil))) (bNm 3) lb_Web_init_3)
    (sFldS "Web" "places" (eVar 0) (eDc2 [7, 4, 3] (iSeq (eFrzD (eFld "Web" "table" (eVar 0)))) (bNm 7) (iEnum (aCons (eVar 7) aNil)) (bTup 2 (bCons (bNm 4) (bCons (bNm 3) bNil))) [4, 3] (eVar 3) (eVar 4))))))))
def F_Web_init : FF := fnF 8 B_Web_init
def B_Web_eq : SF :=
    (sRet (eAnd (eIsiC "Web" [] (eVar 1)) (eBin opEq (eFld "Web" "table" (eVar 0)) (eFld "Web" "table" (eVar 1)))))
def F_Web_eq : FF := fnF 2 B_Web_eq
def B_law_tops : SF :=
    (sRet (eLc [1] (iSeq (eVar 0)) (bNm 1) (tVal (eBin opEq (eCall cLen (aCons (eLc [2] (iSeq (eVar 0)) (bNm 2) (tVal (eBin (opSubs false) (eVar 1) (eVar 2))) (eVar 2)) aNil)) (eC (.int 1)))) (eVar 1)))
def F_law_tops : FF := fnF 3 B_law_tops
abbrev le_within_1 : EF :=
    (eBin opIn (eVar 2) (eVar 1))
def B_within : SF :=
    (sRet (eCall cAll (aCons (eLc [2] (iSeq (eVar 0)) (bNm 2) tTrue le_within_1) aNil)))
def F_within : FF := fnF 3 B_within
def B_Web_around : SF :=
    (sRet (eCall cSorted (aCons (eLc2 [2, 3] (iSeq (eFld "Web" "table" (eVar 0))) (bNm 2) tTrue (iSeq (eVar 2)) (bNm 3) [3] (tVal (eFn 2 F_within [] (aCons (eVar 1) (aCons (eVar 3) aNil)))) (eVar 3)) aNil)))
def F_Web_around : FF := fnF 4 B_Web_around
def B_Web_tops : SF :=
    (sRet (eCall cSorted (aCons (eLc2 [1, 2] (iSeq (eFld "Web" "table" (eVar 0))) (bNm 1) tTrue (iSeq (eVar 1)) (bNm 2) [2] (tVal (eBin opEq (eCall cLen (aCons (eMeth "Web" "around" 2 F_Web_around [] (eVar 0) (aCons (eVar 2) aNil)) aNil)) (eC (.int 1)))) (eVar 2)) aNil)))
def F_Web_tops : FF := fnF 3 B_Web_tops
abbrev le_Web_str_1 : EF :=
    (eCall cStr (aCons (eVar 2) aNil))
abbrev le_Web_str_2 : EF :=
    (eJoin (eC (.str ".")) (eLc [2] (iSeq (eVar 1)) (bNm 2) tTrue le_Web_str_1))
def B_Web_str : SF :=
    (sSeq (sIf (tVal (eBin opEq (eCall cLenD (aCons (eFld "Web" "places" (eVar 0)) aNil)) (eC (.int 0)))) (sRet (eC (.str "none"))) sSkip)
    (sRet (eJoin (eC (.str " ")) (eLc [1] (iSeq (eMeth "Web" "tops" 1 F_Web_tops [] (eVar 0) aNil)) (bNm 1) tTrue le_Web_str_2))))
def F_Web_str : FF := fnF 3 B_Web_str
abbrev le_law_alike_1 (Fr : FF) : EF :=
    (eFn 2 Fr [] (aCons (eVar 2) (aCons (eVar 3) aNil)))
def B_law_alike (Fr : FF) : SF :=
    (sSeq (sIf (tOr (tVal (eCall cIsi (aCons (eVar 1) (aCons (eC (.ty "list")) aNil)))) (tVal (eCall cIsi (aCons (eVar 1) (aCons (eC (.ty "tuple")) aNil))))) (sSeq (sIf (tOr (tVal (eBin opNe (eCall cIsi (aCons (eVar 0) (aCons (eC (.ty "list")) aNil))) (eCall cIsi (aCons (eVar 1) (aCons (eC (.ty "list")) aNil))))) (tVal (eBin opNe (eCall cIsi (aCons (eVar 0) (aCons (eC (.ty "tuple")) aNil))) (eCall cIsi (aCons (eVar 1) (aCons (eC (.ty "tuple")) aNil)))))) (sRet (eC (.bl false))) sSkip)
    (sRet (eAnd (eBin opEq (eCall cLen (aCons (eVar 0) aNil)) (eCall cLen (aCons (eVar 1) aNil))) (eCall cAll (aCons (eLc [2, 3] (iZip (aCons (eVar 0) (aCons (eVar 1) aNil))) (bTup 2 (bCons (bNm 2) (bCons (bNm 3) bNil))) tTrue (le_law_alike_1 Fr)) aNil))))) sSkip)
    (sSeq (sIf (tOr (tVal (eBin opIsN (eVar 1) (eC .non))) (tVal (eBin opIsN (eVar 0) (eC .non)))) (sRet (eAnd (eBin opIsN (eVar 0) (eC .non)) (eBin opIsN (eVar 1) (eC .non)))) sSkip)
    (sSeq (sIf (tOr (tVal (eBin opNe (eCall cIsi (aCons (eVar 0) (aCons (eC (.ty "bool")) aNil))) (eCall cIsi (aCons (eVar 1) (aCons (eC (.ty "bool")) aNil))))) (tVal (eBin opNe (eCall cIsi (aCons (eVar 0) (aCons (eC (.ty "int")) aNil))) (eCall cIsi (aCons (eVar 1) (aCons (eC (.ty "int")) aNil)))))) (sRet (eC (.bl false))) sSkip)
    (sRet (eAnd (eBin opEq (eCall cIsi (aCons (eVar 0) (aCons (eC (.ty "str")) aNil))) (eCall cIsi (aCons (eVar 1) (aCons (eC (.ty "str")) aNil)))) (eBin opEq (eVar 0) (eVar 1)))))))
def F_law_alike : Nat → FF
  | 0 => fun _ _ => .no
  | d + 1 => fnF 4 (B_law_alike (F_law_alike d))
def B_Web_repr : SF :=
    (sRet (eJoined [(eC (.str "Web(")), (eFmtL (eMeth "Web" "tops" 1 F_Web_tops [] (eVar 0) aNil)), (eC (.str ")"))]))
def F_Web_repr : FF := fnF 1 B_Web_repr
def B_Web_len : SF :=
    (sRet (eCall cLenD (aCons (eFld "Web" "places" (eVar 0)) aNil)))
def F_Web_len : FF := fnF 1 B_Web_len
abbrev lb_Web_initO_1 : SF :=
    (sSetD (eVar 2) (eVar 5) (eC (.bl true)))
abbrev lb_Web_initO_2 : SF :=
    (sSeq (sIf (tNot (tVal (eFn 1 F_is_face [] (aCons (eVar 3) aNil)))) (fun _ _ => .no) sSkip)
    (sFor (iSeq (eFn 1 F_own_faces [] (aCons (eCall cTuple (aCons (eCall cSorted (aCons (eVar 3) aNil)) aNil)) aNil))) (bNm 5) lb_Web_initO_1))
abbrev lb_Web_initO_3 : SF :=
    (sExpr (eApp (eBin opIx (eFld "Web" "table" (eVar 0)) (eBin opSub (eCall cLen (aCons (eVar 3) aNil)) (eC (.int 1)))) (eVar 3)))
def B_Web_initO (tp : Addr) : SF :=
    (sSeq (sSet 2 eDnew)
    (sSeq (sFor (iEnum0 tp (aCons (eVar 1) aNil)) (bTup 2 (bCons (bNm 4) (bCons (bNm 3) bNil))) lb_Web_initO_2)
    (sSeq (sIf (tVal (eBin opGt (eCall cLenD (aCons (eVar 2) aNil)) (eC (.int 120)))) (fun _ _ => .no) sSkip)
    (sSeq (sFldS "Web" "table" (eVar 0) (eLcR [6] (iRange1 (eBin opAdd (eC (.int 3)) (eC (.int 1)))) (bNm 6) tTrue (eLstO aNil)))
    (sSeq (sFor (iSeq (eCall cSorted (aCons (eCall cListD (aCons (eVar 2) aNil)) aNil))) (bNm 3) lb_Web_initO_3)
    (sFldS "Web" "places" (eVar 0) (eDc2 [7, 4, 3] (iSeq (eFrzD (eFld "Web" "table" (eVar 0)))) (bNm 7) (iEnum (aCons (eVar 7) aNil)) (bTup 2 (bCons (bNm 4) (bCons (bNm 3) bNil))) [4, 3] (eVar 3) (eVar 4))))))))
def F_Web_initO (tp : Addr) : FF := fnF 8 (B_Web_initO tp)
abbrev le_law_1 : EF :=
    (eCall cStr (aCons (eVar 11) aNil))
abbrev le_law_2 : EF :=
    (eJoin (eC (.str ".")) (eLc [11] (iSeq (eVar 10)) (bNm 11) tTrue le_law_1))
abbrev lb_law_1 : SF :=
    (sSeq (sSet 7 (eFn 1 F_law_closed [] (aCons (eVar 6) aNil)))
    (sIf (tVal (eBin opLe (eCall cLen (aCons (eVar 7) aNil)) (eC (.int 120)))) (sSeq (sSet 8 (eMakeZ "Web" 2 F_Web_init [] (aCons (eCall cList (aCons (eVar 6) aNil)) aNil)))
    (sSeq (sIf (tOr (tVal (eBin opNe (eOwn false "Web" F_Web_eq (eVar 5) (eVar 8)) (eBin opEq (eVar 7) (eVar 3)))) (tVal (eBin opNe (eOwn true "Web" F_Web_eq (eVar 8) (eVar 5)) (eBin opNe (eVar 7) (eVar 3))))) (sRet (eC (.bl false))) sSkip)
    (sSeq (sSet 2 (eFn 1 F_law_tops [] (aCons (eVar 7) aNil)))
    (sSeq (sSet 9 (eJoin (eC (.str " ")) (eLc [10] (iSeq (eVar 2)) (bNm 10) tTrue le_law_2)))
    (sSeq (sIf (tNot (tVal (eFn 2 (F_law_alike 4) [] (aCons (eTxt "Web" F_Web_str (eVar 8)) (aCons (eIf (tVal (eBin opNe (eVar 7) (eLst aNil))) (eVar 9) (eC (.str "none"))) aNil))))) (sRet (eC (.bl false))) sSkip)
    (sIf (tOr (tNot (tVal (eFn 2 (F_law_alike 4) [] (aCons (eTxt "Web" F_Web_repr (eVar 8)) (aCons (eBin opAdd (eBin opAdd (eC (.str "Web(")) (eCall cStrL (aCons (eVar 2) aNil))) (eC (.str ")"))) aNil))))) (tVal (eBin opNe (eLenOwn "Web" F_Web_len (eVar 8)) (eCall cLen (aCons (eVar 7) aNil))))) (sRet (eC (.bl false))) sSkip)))))) sSkip))
def B_law : SF :=
    (sSeq (sSet 1 (eFn 1 F_law_box [] (aCons (eVar 0) aNil)))
    (sSeq (sSet 2 (eFn 1 F_law_some_tops [] (aCons (eVar 1) aNil)))
    (sSeq (sSet 3 (eFn 1 F_law_closed [] (aCons (eVar 2) aNil)))
    (sSeq (sSet 4 (eLstO (aCons (eBin opAdd (eRev (eVar 2)) (eSl opSl (eVar 3) oNone (oSome (eFn 2 F_law_take [] (aCons (eVar 1) (aCons (eBin opAdd (eCall cLen (aCons (eVar 3) aNil)) (eC (.int 1))) aNil)))))) (aCons (eFn 1 F_law_some_tops [] (aCons (eVar 1) aNil)) (aCons (eSl opSl (eVar 3) (oSome (eC (.int 1))) oNone) (aCons (eLst aNil) aNil))))))
    (sSeq (sExpr (eApp (eVar 4) (eBin opAdd (eVar 3) (eLst (aCons (eFn 3 F_law_drawn_face [] (aCons (eVar 1) (aCons (eListRng (eC (.int 16))) (aCons (eC (.int 2)) aNil)))) aNil)))))
    (sSeq (sSet 5 (eMakeZ "Web" 2 F_Web_init [] (aCons (eCall cList (aCons (eVar 2) aNil)) aNil)))
    (sSeq (sFor (iSeq (eFrzD (eVar 4))) (bNm 6) lb_law_1)
    (sRet (eAnd (eOwnNeL "Web" F_Web_eq (eVar 5) (eVar 3)) (eAnd (eOwn false "Web" F_Web_eq (eMk0 web0V) (eMakeZ "Web" 2 F_Web_init [] (aCons (eLst aNil) aNil))) (eBin opEq (eLenOwn "Web" F_Web_len (eMk0 web0V)) (eC (.int 0)))))))))))))
def F_law : FF := fnF 12 B_law
end L
namespace L
open PySem L2 J M
local macro_rules | `(tactic| walk_at "ev") => `(tactic| try simp only [fn_ap, List.map_cons, List.map_nil, List.length_cons, List.length_nil, List.cons_append, List.nil_append, List.append_nil, Nat.reduceAdd, Nat.reduceSub, Nat.zero_add, List.replicate_succ, List.replicate_zero, s_seq, s_set, s_asg, s_if, s_ret, s_expr, s_for, s_skip, s_par, s_par3, s_setI, thn_nx, thn_ret, thn_no, thn_brk, thn_cnt, thn_exc, a_var, a_c, a_bin, a_un, a_call, a_nil, a_cons, a_tup, a_lst, a_lstO, a_val, a_tand, a_tor, a_tnot, a_if, a_and, a_or, a_not, a_chain, a_fn, a_lc', a_seq, a_range1, a_zip, a_sl, a_onone, a_osome, bnd_ok, bnd_no, bnd_exc, sbd_ok, sbd_no, sbd_exc, getV_some, toB_bl, toO_int, lift_some, lift_none, seqI_lst, seqI_scr, seqI_tup, seqI_str, rng1_int, zip_lst, zip_tup, onx_some, onh_some, List.getElem?_cons_zero, List.getElem?_cons_succ, List.set_cons_zero, List.set_cons_succ, o_sub, o_add, o_lt, o_le, o_gt, o_ge, o_neg, o_eqI, o_neI, o_eqB, o_neB, o_eqS, if_true, if_false, ite_true, ite_false, decide_true, decide_false, Bool.false_eq_true, Bool.true_eq_false, reduceIte, Bool.not_true, Bool.not_false, a_frzD, frzR_obj, frzO_fl, frzO_fzn, frzR_lst, frzR_tup, frzR_int, a_newO, newO_some, lList_lst, lList_tup, a_listRngO, lrO_int, a_repO, repO_lst, chkL_some, lstOf_obj, lstO_fl, lstO_fzn, lstR_obj, lstRO_fl, lstRO_lo, lstRO_fzn, a_pop, popR_obj, a_app, appV_obj, enumI_lst, a_enum, s_augI, augV_obj, augO_int, s_setD, a_dnew, a_fld, insOf_obj, insO_ins, insOf_ins, a_meth, noX_ok, a_make, s_fldS, setF_obj, a_aApp, afterR_ok, a_lcR, a_lenSc, a_dc2, bNm_ap, obd_some, trn_nx, a_knew, s_setK, a_keysK, keysI_dK, a_dc1, a_sortSc, a_ins, a_lc2, frzO_dK, frzR_dK, a_lcP, lcP_some, rootL_obj, rootO_fl, a_dictZip, s_setApp, s_raise0, a_own, a_lenOwn, a_isiC, a_items, a_methX, a_makeX, fin_exc, a_listRng, lrD_int, a_dictD, dcp_dK, a_valsD, valsD_dT, a_dictZipT, a_valsD, valsD_dT, a_maxD, a_lc3, a_dc1T])
local macro_rules | `(tactic| walk_at "evd") => `(tactic| try simp (disch := first | decide | omega) only [o_mod, o_fdiv, o_pow, o_mul_r, o_mul_l, fn_ap, List.map_cons, List.map_nil, List.length_cons, List.length_nil, List.cons_append, List.nil_append, List.append_nil, Nat.reduceAdd, Nat.reduceSub, Nat.zero_add, List.replicate_succ, List.replicate_zero, s_seq, s_set, s_asg, s_if, s_ret, s_expr, s_for, s_skip, s_par, s_par3, s_setI, thn_nx, thn_ret, thn_no, thn_brk, thn_cnt, thn_exc, a_var, a_c, a_bin, a_un, a_call, a_nil, a_cons, a_tup, a_lst, a_lstO, a_val, a_tand, a_tor, a_tnot, a_if, a_and, a_or, a_not, a_chain, a_fn, a_lc', a_seq, a_range1, a_zip, a_sl, a_onone, a_osome, bnd_ok, bnd_no, bnd_exc, sbd_ok, sbd_no, sbd_exc, getV_some, toB_bl, toO_int, lift_some, lift_none, seqI_lst, seqI_scr, seqI_tup, seqI_str, rng1_int, zip_lst, zip_tup, onx_some, onh_some, List.getElem?_cons_zero, List.getElem?_cons_succ, List.set_cons_zero, List.set_cons_succ, o_sub, o_add, o_lt, o_le, o_gt, o_ge, o_neg, o_eqI, o_neI, o_eqB, o_neB, o_eqS, if_true, if_false, ite_true, ite_false, decide_true, decide_false, Bool.false_eq_true, Bool.true_eq_false, reduceIte, Bool.not_true, Bool.not_false, a_frzD, frzR_obj, frzO_fl, frzO_fzn, frzR_lst, frzR_tup, frzR_int, a_newO, newO_some, lList_lst, lList_tup, a_listRngO, lrO_int, a_repO, repO_lst, chkL_some, lstOf_obj, lstO_fl, lstO_fzn, lstR_obj, lstRO_fl, lstRO_lo, lstRO_fzn, a_pop, popR_obj, a_app, appV_obj, enumI_lst, a_enum, s_augI, augV_obj, augO_int, s_setD, a_dnew, a_fld, insOf_obj, insO_ins, insOf_ins, a_meth, noX_ok, a_make, s_fldS, setF_obj, a_aApp, afterR_ok, a_lcR, a_lenSc, a_dc2, bNm_ap, obd_some, trn_nx, a_knew, s_setK, a_keysK, keysI_dK, a_dc1, a_sortSc, a_ins, a_lc2, frzO_dK, frzR_dK, a_lcP, lcP_some, rootL_obj, rootO_fl, a_dictZip, s_setApp, s_raise0, a_own, a_lenOwn, a_isiC, a_items, a_methX, a_makeX, fin_exc, a_listRng, lrD_int, a_dictD, dcp_dK, a_valsD, valsD_dT, a_dictZipT, a_valsD, valsD_dT, a_maxD, a_lc3, a_dc1T])
local macro_rules | `(tactic| walk_at "eva") => `(tactic| try simp only [fn_ap, List.map_cons, List.map_nil, List.length_cons, List.length_nil, List.cons_append, List.nil_append, List.append_nil, Nat.reduceAdd, Nat.reduceSub, Nat.zero_add, List.replicate_succ, List.replicate_zero, s_seq, s_set, s_asg, s_if, s_ret, s_expr, s_for, s_skip, s_par, s_par3, s_setI, thn_nx, thn_ret, thn_no, thn_brk, thn_cnt, thn_exc, a_var, a_c, a_bin, a_un, a_call, a_nil, a_cons, a_tup, a_lst, a_lstO, a_val, a_tand, a_tor, a_tnot, a_if, a_and, a_or, a_not, a_chain, a_fn, a_lc', a_seq, a_range1, a_zip, a_sl, a_onone, a_osome, bnd_ok, bnd_no, bnd_exc, sbd_ok, sbd_no, sbd_exc, getV_some, toB_bl, toO_int, lift_some, lift_none, seqI_lst, seqI_scr, seqI_tup, seqI_str, rng1_int, zip_lst, zip_tup, onx_some, onh_some, List.getElem?_cons_zero, List.getElem?_cons_succ, List.set_cons_zero, List.set_cons_succ, o_sub, o_add, o_lt, o_le, o_gt, o_ge, o_neg, o_eqI, o_neI, o_eqB, o_neB, o_eqS, if_true, if_false, ite_true, ite_false, decide_true, decide_false, Bool.false_eq_true, Bool.true_eq_false, reduceIte, Bool.not_true, Bool.not_false, a_frzD, frzR_obj, frzO_fl, frzO_fzn, frzR_lst, frzR_tup, frzR_int, a_newO, newO_some, lList_lst, lList_tup, a_listRngO, lrO_int, a_repO, repO_lst, chkL_some, lstOf_obj, lstO_fl, lstO_fzn, lstR_obj, lstRO_fl, lstRO_lo, lstRO_fzn, a_pop, popR_obj, a_app, appV_obj, enumI_lst, a_enum, s_augI, augV_obj, augO_int, s_setD, a_dnew, a_fld, insOf_obj, insO_ins, insOf_ins, a_meth, noX_ok, a_make, s_fldS, setF_obj, a_aApp, afterR_ok, a_lcR, a_lenSc, a_dc2, bNm_ap, obd_some, trn_nx, a_knew, s_setK, a_keysK, keysI_dK, a_dc1, a_sortSc, a_ins, a_lc2, frzO_dK, frzR_dK, a_lcP, lcP_some, rootL_obj, rootO_fl, a_dictZip, s_setApp, s_raise0, a_own, a_lenOwn, a_isiC, a_items, a_methX, a_makeX, fin_exc, a_listRng, lrD_int, a_dictD, dcp_dK, a_valsD, valsD_dT, a_dictZipT, a_valsD, valsD_dT, a_maxD, a_lc3, a_dc1T, a_dcP, dcS_some, seqP_lst, a_rev, revR_lst, a_clr, clrR_obj, clrO_fl, a_ownD, isi_NoneType_list, isi_NoneType_tuple, isi_NoneType_bool, isi_NoneType_int, isi_NoneType_str, isi_bool_list, isi_bool_tuple, isi_bool_bool, isi_bool_int, isi_bool_str, isi_int_list, isi_int_tuple, isi_int_bool, isi_int_int, isi_int_str, isi_str_list, isi_str_tuple, isi_str_bool, isi_str_int, isi_str_str, isi_tuple_list, isi_tuple_tuple, isi_tuple_bool, isi_tuple_int, isi_tuple_str, isi_list_list, isi_list_tuple, isi_list_bool, isi_list_int, isi_list_str, opIsN, opNotN, VV.isObj, len_lst, len_tup, list_lst, list_tup, tuple_lst, x_lst, x_tup])
local macro_rules | `(tactic| walk_at "evad") => `(tactic| try simp (disch := first | decide | omega) only [o_mod, o_fdiv, o_pow, o_mul_r, o_mul_l, fn_ap, List.map_cons, List.map_nil, List.length_cons, List.length_nil, List.cons_append, List.nil_append, List.append_nil, Nat.reduceAdd, Nat.reduceSub, Nat.zero_add, List.replicate_succ, List.replicate_zero, s_seq, s_set, s_asg, s_if, s_ret, s_expr, s_for, s_skip, s_par, s_par3, s_setI, thn_nx, thn_ret, thn_no, thn_brk, thn_cnt, thn_exc, a_var, a_c, a_bin, a_un, a_call, a_nil, a_cons, a_tup, a_lst, a_lstO, a_val, a_tand, a_tor, a_tnot, a_if, a_and, a_or, a_not, a_chain, a_fn, a_lc', a_seq, a_range1, a_zip, a_sl, a_onone, a_osome, bnd_ok, bnd_no, bnd_exc, sbd_ok, sbd_no, sbd_exc, getV_some, toB_bl, toO_int, lift_some, lift_none, seqI_lst, seqI_scr, seqI_tup, seqI_str, rng1_int, zip_lst, zip_tup, onx_some, onh_some, List.getElem?_cons_zero, List.getElem?_cons_succ, List.set_cons_zero, List.set_cons_succ, o_sub, o_add, o_lt, o_le, o_gt, o_ge, o_neg, o_eqI, o_neI, o_eqB, o_neB, o_eqS, if_true, if_false, ite_true, ite_false, decide_true, decide_false, Bool.false_eq_true, Bool.true_eq_false, reduceIte, Bool.not_true, Bool.not_false, a_frzD, frzR_obj, frzO_fl, frzO_fzn, frzR_lst, frzR_tup, frzR_int, a_newO, newO_some, lList_lst, lList_tup, a_listRngO, lrO_int, a_repO, repO_lst, chkL_some, lstOf_obj, lstO_fl, lstO_fzn, lstR_obj, lstRO_fl, lstRO_lo, lstRO_fzn, a_pop, popR_obj, a_app, appV_obj, enumI_lst, a_enum, s_augI, augV_obj, augO_int, s_setD, a_dnew, a_fld, insOf_obj, insO_ins, insOf_ins, a_meth, noX_ok, a_make, s_fldS, setF_obj, a_aApp, afterR_ok, a_lcR, a_lenSc, a_dc2, bNm_ap, obd_some, trn_nx, a_knew, s_setK, a_keysK, keysI_dK, a_dc1, a_sortSc, a_ins, a_lc2, frzO_dK, frzR_dK, a_lcP, lcP_some, rootL_obj, rootO_fl, a_dictZip, s_setApp, s_raise0, a_own, a_lenOwn, a_isiC, a_items, a_methX, a_makeX, fin_exc, a_listRng, lrD_int, a_dictD, dcp_dK, a_valsD, valsD_dT, a_dictZipT, a_valsD, valsD_dT, a_maxD, a_lc3, a_dc1T, a_dcP, dcS_some, seqP_lst, a_rev, revR_lst, a_clr, clrR_obj, clrO_fl, a_ownD, isi_NoneType_list, isi_NoneType_tuple, isi_NoneType_bool, isi_NoneType_int, isi_NoneType_str, isi_bool_list, isi_bool_tuple, isi_bool_bool, isi_bool_int, isi_bool_str, isi_int_list, isi_int_tuple, isi_int_bool, isi_int_int, isi_int_str, isi_str_list, isi_str_tuple, isi_str_bool, isi_str_int, isi_str_str, isi_tuple_list, isi_tuple_tuple, isi_tuple_bool, isi_tuple_int, isi_tuple_str, isi_list_list, isi_list_tuple, isi_list_bool, isi_list_int, isi_list_str, opIsN, opNotN, VV.isObj, len_lst, len_tup, list_lst, list_tup, tuple_lst, x_lst, x_tup])
/-! the drawing box -/
structure Bx where
  xs : List Int
  pos : Nat
  left : Int
  cnt : Int
  seed : Int
def Bx.v (b : Bx) : VO := .fl [.lst (b.xs.map VV.int), .int b.pos, .int b.left, .int b.cnt, .int b.seed]
theorem fmod_rng (a : Int) {m : Int} (h : 0 < m) : 0 ≤ a.fmod m ∧ a.fmod m < m := by
  rw [Int.fmod_eq_emod_of_nonneg _ (by omega)]
  exact ⟨Int.emod_nonneg _ (by omega), Int.emod_lt_of_pos _ h⟩
theorem mixed_eq (a t : Int) (h : VH) : ∃ r, F_law_mixed [.int a, .int t] h = .ok (.int r) h ∧ 0 ≤ r := by
  unfold F_law_mixed B_law_mixed
  have h1 := fmod_rng (a * 48271 + t * 69621 + 12345) (m := 2147483647) (by decide)
  walk_at "evd"
  rw [fin_ret rfl]
  refine ⟨_, rfl, ?_⟩
  rw [Int.fdiv_eq_ediv_of_nonneg _ (by decide)]
  exact Int.ediv_nonneg (fmod_rng _ (by decide)).1 (by decide)
theorem take_eq {n : Nat} {h : VH} {b : Bx} {m : Int} (hb : h[n]? = some b.v) (hm : 0 < m) (hl : m.natAbs.log2 < 9000) : ∃ r b', F_law_take [.obj n, .int m] h = .ok (.int r) (h.set n (Bx.v b')) ∧ 0 ≤ r ∧ r < m := by
  obtain ⟨xs, pos, left, cnt, seed⟩ := b
  have hn : n < h.length := lt_of_get hb
  unfold Bx.v at hb
  simp only at hb
  unfold F_law_take B_law_take
  -- count
  have hb1 : (h.set n (.fl [.lst (xs.map VV.int), .int pos, .int left, .int (cnt + 1), .int seed]))[n]? = some (.fl [.lst (xs.map VV.int), .int pos, .int left, .int (cnt + 1), .int seed]) := get_set hn
  have s1 : setI h (.obj n) (.int 3) (.int (cnt + 1)) = some (h.set n (.fl [.lst (xs.map VV.int), .int pos, .int left, .int (cnt + 1), .int seed])) := set_root (j := 3) hb rfl rfl
  walk_at "ev"
  simp only [ix_root hb, at5_3]
  walk_at "ev"
  simp only [s1]
  walk_at "ev"
  simp only [ix_root hb1, at5_2]
  walk_at "ev"
  generalize eh1 : h.set n (.fl [.lst (xs.map VV.int), .int pos, .int left, .int (cnt + 1), .int seed]) = h1 at hb1
  have hn1 : n < h1.length := by rw [← eh1, List.length_set]; exact hn
  have hl1 : h1.length = h.length := by rw [← eh1, List.length_set]
  by_cases c1 : 0 < left
  · simp only [decide_eq_true c1, reduceIte]
    walk_at "ev"
    simp only [ix_root hb1, at5_2]
    walk_at "ev"
    simp (disch := omega) only [o_fdiv (j := m) (by omega) hl, o_mod (j := m) (by omega)]
    walk_at "ev"
    have s2 : setI h1 (.obj n) (.int 2) (.int (left.fdiv m)) = some (h1.set n (.fl [.lst (xs.map VV.int), .int pos, .int (left.fdiv m), .int (cnt + 1), .int seed])) := set_root (j := 2) hb1 rfl rfl
    simp only [s2]
    walk_at "ev"
    simp (disch := omega) only [o_mod (j := m) (by omega)]
    walk_at "ev"
    rw [fin_ret (by rw [List.length_set]; exact hl1)]
    refine ⟨_, ⟨xs, pos, left.fdiv m, cnt + 1, seed⟩, ?_, fmod_rng left hm⟩
    rw [← eh1, List.set_set]; rfl
  · simp only [decide_eq_false c1, Bool.false_eq_true, reduceIte]
    walk_at "ev"
    simp only [ix_root hb1, at5_1, at5_0]
    walk_at "ev"
    simp only [ix_root hb1, at5_1, at5_0]
    walk_at "ev"
    simp only [len_lst, List.length_map]
    walk_at "ev"
    by_cases c2 : (xs.length : Int) ≤ pos
    · simp only [decide_eq_true c2, reduceIte]
      walk_at "ev"
      simp only [ix_root hb1, at5_4, at5_3]
      walk_at "ev"
      simp only [ix_root hb1, at5_4, at5_3]
      walk_at "ev"
      obtain ⟨r, er, hr⟩ := mixed_eq seed (cnt + 1) h1
      simp only [er]
      walk_at "ev"
      simp (disch := omega) only [o_mod (j := m) (by omega)]
      walk_at "ev"
      rw [fin_ret hl1]
      refine ⟨_, ⟨xs, pos, left, cnt + 1, seed⟩, ?_, fmod_rng r hm⟩
      rw [← eh1]; rfl
    · simp only [decide_eq_false c2, Bool.false_eq_true, reduceIte]
      have hp : pos < xs.length := by omega
      walk_at "ev"
      simp only [ix_root hb1, at5_1, at5_0]
      walk_at "ev"
      simp only [ix_root hb1, at5_1, at5_0]
      walk_at "ev"
      have ex : atI (xs.map VV.int) (pos : Int) = some (.int xs[pos]) := atI_in (by rw [List.getElem?_map, List.getElem?_eq_getElem hp]; rfl)
      simp only [x_lst, ex]
      walk_at "ev"
      simp only [ix_root hb1, at5_1, at5_0]
      walk_at "ev"
      have s3 : setI h1 (.obj n) (.int 1) (.int ((pos : Int) + 1)) = some (h1.set n (.fl [.lst (xs.map VV.int), .int ((pos : Int) + 1), .int left, .int (cnt + 1), .int seed])) := set_root (j := 1) hb1 rfl rfl
      simp only [s3]
      walk_at "ev"
      have hb2 : (h1.set n (.fl [.lst (xs.map VV.int), .int ((pos : Int) + 1), .int left, .int (cnt + 1), .int seed]))[n]? = some (.fl [.lst (xs.map VV.int), .int ((pos : Int) + 1), .int left, .int (cnt + 1), .int seed]) := get_set hn1
      generalize eh2 : h1.set n (.fl [.lst (xs.map VV.int), .int ((pos : Int) + 1), .int left, .int (cnt + 1), .int seed]) = h2 at hb2
      have hl2 : h2.length = h.length := by rw [← eh2, List.length_set]; exact hl1
      walk_at "evd"
      by_cases c3 : xs[pos] < 10 ^ Int.toNat 18
      · simp only [decide_eq_true c3, reduceIte]
        walk_at "ev"
        simp only [ix_root hb2, at5_3]
        walk_at "ev"
        obtain ⟨r, er, hr⟩ := mixed_eq xs[pos] (cnt + 1) h2
        simp only [er]
        walk_at "ev"
        simp (disch := omega) only [o_mod (j := m) (by omega)]
        walk_at "ev"
        rw [fin_ret hl2]
        refine ⟨_, ⟨xs, pos + 1, left, cnt + 1, seed⟩, ?_, fmod_rng r hm⟩
        rw [← eh2, ← eh1, List.set_set]; rfl
      · simp only [decide_eq_false c3, Bool.false_eq_true, reduceIte]
        walk_at "ev"
        simp (disch := omega) only [o_fdiv (j := m) (by omega) hl, o_mod (j := m) (by omega)]
        walk_at "ev"
        have s4 : setI h2 (.obj n) (.int 2) (.int (xs[pos].fdiv m)) = some (h2.set n (.fl [.lst (xs.map VV.int), .int ((pos : Int) + 1), .int (xs[pos].fdiv m), .int (cnt + 1), .int seed])) := set_root (j := 2) hb2 rfl rfl
        simp only [s4]
        walk_at "ev"
        simp (disch := omega) only [o_mod (j := m) (by omega)]
        walk_at "ev"
        rw [fin_ret (by rw [List.length_set]; exact hl2)]
        refine ⟨_, ⟨xs, pos + 1, xs[pos].fdiv m, cnt + 1, seed⟩, ?_, fmod_rng xs[pos] hm⟩
        rw [← eh2, ← eh1, List.set_set, List.set_set]; rfl
theorem cut_ints (ns : List Int) (lo hi : Option Int) : ∃ ms : List Int, cut (ns.map VV.int) lo hi = ms.map VV.int ∧ ms.length ≤ ns.length := by
  refine ⟨(ns.drop (HT.sIx ns.length 0 lo)).take (HT.sIx ns.length ns.length hi - HT.sIx ns.length 0 lo), ?_, ?_⟩
  · unfold cut
    rw [List.length_map, List.map_take, List.map_drop]
  · rw [List.length_take, List.length_drop]; omega
theorem sl_scr {h : VH} {xs : List VV} {lo hi : Option Int} : opSl h (.scr xs) lo hi = some (.lst (cut xs lo hi)) := rfl
theorem box_eq (ns : List Int) : ∃ b : Bx, F_law_box [.scr (ns.map VV.int)] [] = .ok (.obj 0) [b.v] := by
  obtain ⟨ms, em, hl⟩ := cut_ints ns none (some 63)
  unfold F_law_box B_law_box
  walk_at "ev"
  simp only [sl_scr, em]
  walk_at "ev"
  have lp := for_inv (b := bNm 2) (body := sSet 1 (eBin opMod (eBin opAdd (eBin opAdd (eBin opMul (eVar 1) (eC (.int 31))) (eVar 2)) (eC (.int 17))) (eC (.int 2147483647)))) (fun ρ h => h = [] ∧ ∃ s o, ρ = [some (.scr (ns.map VV.int)), some (.int s), o]) (xs := ms.map VV.int) (ρ := [some (.scr (ns.map VV.int)), some (.int 0), none]) (h := []) ⟨rfl, 0, none, rfl⟩ (by
    rintro x hx ρ h ⟨rfl, s, o, rfl⟩
    obtain ⟨c, _, rfl⟩ := List.mem_map.mp hx
    refine ⟨_, _, _, rfl, ?_, rfl, (s * 31 + c + 17).fmod 2147483647, some (.int c), rfl⟩
    walk_at "evd")
  obtain ⟨ρ2, h2, e2, rfl, s, o, rfl⟩ := lp
  simp only [e2]
  walk_at "ev"
  simp only [sl_scr, em]
  walk_at "eva"
  simp only [List.any_cons, List.any_nil, VV.isObj, Bool.or_false, Bool.false_eq_true, false_or, List.length_cons, List.length_nil]
  rw [if_neg (by decide)]
  walk_at "ev"
  exact ⟨⟨ms, 0, 0, 0, s⟩, rfl⟩
/-! the drawing of webs -/
open M
theorem take_h (b : Bx) (t : VH) {m : Int} (hm : 0 < m) (hl : m < 2 ^ 100) : ∃ r b', F_law_take [.obj 0, .int m] (b.v :: t) = .ok (.int r) (Bx.v b' :: t) ∧ 0 ≤ r ∧ r < m := take_eq (n := 0) rfl hm (log2_ok hm hl)
theorem take1 (b : Bx) {m : Int} (hm : 0 < m) (hl : m < 2 ^ 100) : ∃ r b', F_law_take [.obj 0, .int m] [b.v] = .ok (.int r) [Bx.v b'] ∧ 0 ≤ r ∧ r < m := take_h b [] hm hl
theorem fin_b {v : VV} {b : Bx} {t : VH} (hv : lowV 1 v = true) : (SR.ret v (b.v :: t)).fin 1 = .ok v [b.v] := fin_o hv rfl
theorem erase_perm {l : List Int} {k : Nat} (hk : k < l.length) : (l[k] :: l.eraseIdx k).Perm l := by
  induction l generalizing k with
  | nil => simp at hk
  | cons x l ih =>
    cases k with
    | zero => simp
    | succ k =>
      simp only [List.getElem_cons_succ, List.eraseIdx_cons_succ]
      exact (List.Perm.swap x _ _).trans ((ih (by simpa using hk)).cons x)
theorem eraseIdx_mapI : ∀ (l : List Int) (k : Nat), (l.map VV.int).eraseIdx k = (l.eraseIdx k).map VV.int
  | [], _ => rfl
  | _ :: _, 0 => rfl
  | x :: l, k + 1 => by simp only [List.map_cons, List.eraseIdx_cons_succ, eraseIdx_mapI l k]
/-- a turn of drawing without putting back -/
theorem pop_turn (b : Bx) {rest found : List Int} (hr : rest ≠ []) (hl : rest.length ≤ 16) (hf : found.length < 16777216) : ∃ (r : Nat) (b' : Bx) (hk : r < rest.length),
    F_law_take [.obj 0, .int rest.length] [b.v, .fl (rest.map VV.int), .fl (found.map VV.int)] = .ok (.int r) [b'.v, .fl (rest.map VV.int), .fl (found.map VV.int)]
    ∧ popO (some (.fl (rest.map VV.int))) 1 (r : Int) [b'.v, .fl (rest.map VV.int), .fl (found.map VV.int)] = .ok (.int rest[r]) [b'.v, .fl ((rest.eraseIdx r).map VV.int), .fl (found.map VV.int)]
    ∧ appO (some (.fl (found.map VV.int))) 2 [b'.v, .fl ((rest.eraseIdx r).map VV.int), .fl (found.map VV.int)] (.int rest[r]) = .ok .non [b'.v, .fl ((rest.eraseIdx r).map VV.int), .fl ((found ++ [rest[r]]).map VV.int)] := by
  have hp : 0 < rest.length := List.length_pos_iff.mpr hr
  obtain ⟨r, b', e, h1, h2⟩ := take_h b [.fl (rest.map VV.int), .fl (found.map VV.int)] (m := rest.length) (by omega) (by omega)
  obtain ⟨k, rfl⟩ := Int.eq_ofNat_of_zero_le h1
  have hk : k < rest.length := by omega
  refine ⟨k, b', hk, e, ?_, ?_⟩
  · rw [popO_fl (v := .int rest[k]) h1 (by rw [List.length_map]; exact h2) (by omega) (by rw [List.getElem?_map]; show ((rest[k]?).map _) = _; rw [List.getElem?_eq_getElem hk]; rfl)]
    show Res.ok _ [_, VO.fl ((rest.map VV.int).eraseIdx k), _] = _
    rw [eraseIdx_mapI]
  · rw [appO_fl (by rw [List.length_map]; exact hf) rfl]
    show Res.ok _ [_, _, VO.fl (found.map VV.int ++ [VV.int rest[k]])] = _
    rw [List.map_append]; rfl
theorem points_eq (b : Bx) {m : Int} (h0 : 0 ≤ m) (h1 : m ≤ 16) : ∃ (ps : List Int) (b' : Bx), F_law_points [.obj 0, .int m] [b.v] = .ok (.lst (ps.map VV.int)) [b'.v] ∧ (ps.length : Int) = m ∧ ps.Nodup ∧ ∀ p ∈ ps, 0 ≤ p ∧ p ≤ 15 := by
  unfold F_law_points B_law_points
  walk_at "ev"
  rw [if_pos (by decide)]
  walk_at "ev"
  simp only [List.any_nil, Bool.false_eq_true, false_or]
  rw [if_neg (by decide)]
  walk_at "ev"
  rw [if_pos (by omega)]
  walk_at "ev"
  have e16 : rngV 0 (Int.toNat 16) = ([0, 1, 2, 3, 4, 5, 6, 7, 8, 9, 10, 11, 12, 13, 14, 15] : List Int).map VV.int := rfl
  rw [e16, rng_eq]
  obtain ⟨ρ2, h2, e2, b2, rest, found, o, rfl, rfl, hp, hl⟩ := for_pre (b := bNm 4) (body := lb_law_points_1) (fun (i : Nat) => VV.int (0 + (i : Int)))
    (fun pre ρ h => ∃ (b : Bx) (rest found : List Int) (o : Option VV), ρ = [some (.obj 0), some (.int m), some (.obj 1), some (.obj 2), o] ∧ h = [b.v, .fl (rest.map VV.int), .fl (found.map VV.int)] ∧ (found ++ rest).Perm [0, 1, 2, 3, 4, 5, 6, 7, 8, 9, 10, 11, 12, 13, 14, 15] ∧ found.length = pre.length)
    (List.range m.toNat) (ρ := [some (.obj 0), some (.int m), some (.obj 1), some (.obj 2), none]) (h := [b.v, .fl (([0, 1, 2, 3, 4, 5, 6, 7, 8, 9, 10, 11, 12, 13, 14, 15] : List Int).map VV.int), .fl (([] : List Int).map VV.int)])
    ⟨b, _, [], none, rfl, rfl, List.Perm.refl _, rfl⟩ (by
      rintro pre y post ey ρ h ⟨b, rest, found, o, rfl, rfl, hp, hl⟩
      have ll := hp.length_eq
      have lm : pre.length + 1 + post.length = m.toNat := by
        have := congrArg List.length ey
        simpa [Nat.add_assoc, Nat.add_comm, Nat.add_left_comm] using this.symm
      rw [List.length_append] at ll
      have l16 : ([0, 1, 2, 3, 4, 5, 6, 7, 8, 9, 10, 11, 12, 13, 14, 15] : List Int).length = 16 := rfl
      rw [l16] at ll
      obtain ⟨r, b', hk, t1, t2, t3⟩ := pop_turn b (rest := rest) (found := found) (fun e => by rw [e] at ll; simp at ll; omega) (by omega) (by omega)
      refine ⟨_, [some (.obj 0), some (.int m), some (.obj 1), some (.obj 2), some (.int (0 + (y : Int)))], _, rfl, ?_, b', rest.eraseIdx r, found ++ [rest[r]], _, rfl, rfl, ?_, by simp [hl]⟩
      · walk_at "ev"
        simp only [len_obj]
        walk_at "ev"
        simp only [omap_some, List.length_map, lift_some]
        walk_at "ev"
        simp only [t1]
        walk_at "ev"
        simp only [t2]
        walk_at "ev"
        simp only [t3]
        walk_at "ev"
      · refine List.Perm.trans ?_ hp
        rw [List.append_assoc]
        exact (erase_perm hk).append_left found)
  simp only [List.map_nil] at e2
  rw [e2]
  walk_at "ev"
  rw [fin_b rfl]
  have hnd : (found ++ rest).Nodup := hp.nodup_iff.mpr (by decide)
  refine ⟨found, b2, rfl, ?_, (List.nodup_append.mp hnd).1, fun p hpm => ?_⟩
  · rw [hl, List.length_range]; omega
  · have : p ∈ ([0, 1, 2, 3, 4, 5, 6, 7, 8, 9, 10, 11, 12, 13, 14, 15] : List Int) := hp.mem_iff.mp (List.mem_append_left _ hpm)
    simp only [List.mem_cons, List.not_mem_nil, or_false] at this
    omega
theorem min_int {i j : Int} {h : VH} : cMin h [.int i, .int j] = some (.int (if j < i then j else i)) := rfl
/-- what a drawn face keeps -/
structure DF (p : List Int) (big : Int) (f : List Int) : Prop where
  nd : f.Nodup
  pos : f ≠ []
  le : (f.length : Int) ≤ big + 1
  sub : ∀ x ∈ f, x ∈ p
theorem drawn_face_eq (b : Bx) {p : List Int} {big : Int} (pn : p.Nodup) (pp : p ≠ []) (pl : p.length ≤ 16) (h0 : 0 ≤ big) (h1 : big ≤ 3) : ∃ (f : List Int) (b' : Bx), F_law_drawn_face [.obj 0, .lst (p.map VV.int), .int big] [b.v] = .ok (tupI f) [b'.v] ∧ DF p big f := by
  have hp0 : 0 < p.length := List.length_pos_iff.mpr pp
  unfold F_law_drawn_face B_law_drawn_face
  walk_at "ev"
  simp only [List.any_nil, Bool.false_eq_true, false_or]
  rw [if_neg (by decide)]
  walk_at "ev"
  simp only [len_obj]
  walk_at "ev"
  simp only [omap_some, List.length_map, lift_some]
  walk_at "ev"
  obtain ⟨r, b1, e1, r0, r1⟩ := take_h b [.fl (p.map VV.int), .fl []] (m := big + 1) (by omega) (by omega)
  simp only [e1]
  walk_at "ev"
  simp only [min_int]
  walk_at "ev"
  generalize en : (if 1 + r < (p.length : Int) then 1 + r else (p.length : Int)) = n
  have hn : 1 ≤ n ∧ n ≤ p.length ∧ n ≤ big + 1 := by
    rw [← en]; split <;> omega
  rw [if_pos (by omega)]
  walk_at "ev"
  rw [rng_eq]
  obtain ⟨ρ2, h2, e2, b2, rest, found, o, rfl, rfl, hp, hl⟩ := for_pre (b := bNm 5) (body := lb_law_drawn_face_1) (fun (i : Nat) => VV.int (0 + (i : Int)))
    (fun pre ρ h => ∃ (b : Bx) (rest found : List Int) (o : Option VV), ρ = [some (.obj 0), some (.lst (p.map VV.int)), some (.int big), some (.obj 1), some (.obj 2), o] ∧ h = [b.v, .fl (rest.map VV.int), .fl (found.map VV.int)] ∧ (found ++ rest).Perm p ∧ found.length = pre.length)
    (List.range n.toNat) (ρ := [some (.obj 0), some (.lst (p.map VV.int)), some (.int big), some (.obj 1), some (.obj 2), none]) (h := [b1.v, .fl (p.map VV.int), .fl (([] : List Int).map VV.int)])
    ⟨b1, _, [], none, rfl, rfl, List.Perm.refl _, rfl⟩ (by
      rintro pre y post ey ρ h ⟨b, rest, found, o, rfl, rfl, hp, hl⟩
      have ll := hp.length_eq
      have lm : pre.length + 1 + post.length = n.toNat := by
        have := congrArg List.length ey
        simpa [Nat.add_assoc, Nat.add_comm, Nat.add_left_comm] using this.symm
      rw [List.length_append] at ll
      obtain ⟨r, b', hk, t1, t2, t3⟩ := pop_turn b (rest := rest) (found := found) (fun e => by rw [e] at ll; simp at ll; omega) (by omega) (by omega)
      refine ⟨_, [some (.obj 0), some (.lst (p.map VV.int)), some (.int big), some (.obj 1), some (.obj 2), some (.int (0 + (y : Int)))], _, rfl, ?_, b', rest.eraseIdx r, found ++ [rest[r]], _, rfl, rfl, ?_, by simp [hl]⟩
      · walk_at "ev"
        simp only [len_obj]
        walk_at "ev"
        simp only [omap_some, List.length_map, lift_some]
        walk_at "ev"
        simp only [t1]
        walk_at "ev"
        simp only [t2]
        walk_at "ev"
        simp only [t3]
        walk_at "ev"
      · refine List.Perm.trans ?_ hp
        rw [List.append_assoc]
        exact (erase_perm hk).append_left found)
  simp only [List.map_nil] at e2
  rw [e2]
  walk_at "ev"
  simp only [tuple_lst]
  walk_at "ev"
  rw [fin_b rfl]
  rw [List.length_range] at hl
  have hnd : (found ++ rest).Nodup := hp.nodup_iff.mpr pn
  refine ⟨found, b2, rfl, (List.nodup_append.mp hnd).1, fun e => ?_, by omega, fun x hx => hp.mem_iff.mp (List.mem_append_left _ hx)⟩
  rw [e] at hl; simp at hl; omega
theorem drawn_tops_eq (b : Bx) {mp mt big : Int} (p0 : 0 < mp) (p1 : mp ≤ 16) (t0 : 0 ≤ mt) (t1 : mt ≤ 100) (h0 : 0 ≤ big) (h1 : big ≤ 3) : ∃ (p : List Int) (fs : List (List Int)) (b' : Bx),
    F_law_drawn_tops [.obj 0, .int mp, .int mt, .int big] [b.v] = .ok (.lst (fs.map tupI)) [b'.v] ∧ p.Nodup ∧ (p.length : Int) ≤ mp ∧ (∀ x ∈ p, 0 ≤ x ∧ x ≤ 15) ∧ (fs.length : Int) ≤ mt ∧ ∀ f ∈ fs, DF p big f := by
  unfold F_law_drawn_tops B_law_drawn_tops
  obtain ⟨r, b1, e1, r0, r1⟩ := take1 b (m := mp) p0 (by omega)
  walk_at "ev"
  simp only [e1]
  walk_at "ev"
  obtain ⟨p, b2, e2, l2, n2, g2⟩ := points_eq b1 (m := 1 + r) (by omega) (by omega)
  simp only [e2]
  walk_at "ev"
  obtain ⟨r3, b3, e3, r30, r31⟩ := take1 b2 (m := mt + 1) (by omega) (by omega)
  simp only [e3]
  walk_at "ev"
  rw [if_pos (by omega)]
  walk_at "ev"
  rw [rng_eq, if_neg (by rw [List.length_map, List.length_range]; show ¬ r3.toNat > 16777216; omega)]
  have pp : p ≠ [] := fun e => by rw [e] at l2; simp at l2; omega
  obtain ⟨fs, h', e4, ⟨b4, rfl⟩, l4, g4⟩ := lc_draw (b := bNm 5) (t := tTrue) (e := le_law_drawn_tops_1) (ρ := wp [some (.obj 0), some (.int mp), some (.int mt), some (.int big), some (.lst (p.map VV.int)), none] [5]) (fun (i : Nat) => VV.int (0 + (i : Int))) tupI (fun h => ∃ b : Bx, h = [b.v]) (DF p big) (ys := List.range r3.toNat) (h := [b3.v]) ⟨b3, rfl⟩ (by
    rintro y _ h ⟨b, rfl⟩
    obtain ⟨f, b', e, hf⟩ := drawn_face_eq b (p := p) (big := big) n2 pp (by omega) h0 h1
    refine ⟨_, f, [b'.v], rfl, rfl, ?_, rfl, ⟨b', rfl⟩, hf⟩
    simp only [wp]
    walk_at "ev"
    exact e)
  rw [e4, afterL_ok]
  walk_at "ev"
  rw [fin_b rfl]
  exact ⟨p, fs, b4, rfl, n2, by omega, g2, by rw [l4, List.length_range]; omega, g4⟩
/-! parts of faces -/
theorem allS_snoc (l : List Int) (y : Int) : allS (l ++ [y]) = allS l ++ (allS l).map (fun s => s ++ [y]) := by
  unfold allS; rw [List.foldl_append]; rfl
theorem add_snoc {s : List Int} {y : Int} {h : VH} (hl : s.length ≤ 1000) : opAdd h (tupI s) (.tup [.int y]) = some (tupI (s ++ [y])) := by
  unfold tupI
  rw [add_tup (by simp; omega), List.map_append]; rfl
theorem parts_step {e : EF} {x0 : Option VV} {y : Int} {pre : List Int} {h : VH} (hl : pre.length ≤ 16) (he : e = eBin opAdd (eVar 3) (eTup (aCons (eVar 2) aNil))) :
    sSet 1 (eBin opAdd (eVar 1) (eLc [3] (iSeq (eVar 1)) (bNm 3) tTrue e)) [x0, some (.lst ((allS pre).map tupI)), some (.int y), none] h = .nx [x0, some (.lst ((allS (pre ++ [y])).map tupI)), some (.int y), none] h := by
  have hz : (allS pre).length ≤ 65536 := by
    rw [allS_len]
    exact Nat.pow_le_pow_right (by decide) hl
  walk_at "ev"
  rw [if_neg (by rw [List.length_map]; show ¬ (allS pre).length > 16777216; omega)]
  simp only [wp, List.set_cons_zero, List.set_cons_succ]
  rw [lc_map tupI (fun s => tupI (s ++ [y])) (fun s hs => ?_), afterL_ok]
  · walk_at "ev"
    rw [add_lst (by rw [List.length_map, List.length_map]; omega)]
    walk_at "ev"
    rw [allS_snoc, List.map_append, List.map_map]; rfl
  · have hsl := (mem_allS.mp hs).length_le
    refine ⟨_, rfl, rfl, ?_, rfl⟩
    subst he
    walk_at "ev"
    simp only [List.any_cons, List.any_nil, VV.isObj, Bool.or_false, Bool.false_eq_true, false_or, List.length_cons, List.length_nil]
    rw [if_neg (by decide)]
    walk_at "ev"
    rw [add_snoc (by omega)]; rfl
theorem law_subs_eq {f : List Int} {v : VV} {h : VH} (hv : cSorted h [v] = some (.lst ((isort f).map VV.int))) (hl : f.length ≤ 16) : F_law_subs [v] h = .ok (.lst ((subs (isort f)).map tupI)) h := by
  unfold F_law_subs B_law_subs
  walk_at "eva"
  simp only [List.any_nil, List.any_cons, VV.isObj, Bool.or_false, Bool.false_eq_true, false_or]
  rw [if_neg (by decide)]
  walk_at "ev"
  simp only [List.any_nil, List.any_cons, VV.isObj, Bool.or_false, Bool.false_eq_true, false_or, List.length_cons, List.length_nil]
  rw [if_neg (by decide)]
  walk_at "ev"
  simp only [hv]
  walk_at "ev"
  obtain ⟨ρ2, h2, e2, rfl, o, rfl⟩ := for_pre (b := bNm 2) (body := lb_law_subs_1) VV.int
    (fun pre ρ h' => h' = h ∧ ∃ o, ρ = [some v, some (.lst ((allS pre).map tupI)), o, none])
    (isort f) (ρ := [some v, some (.lst ((allS []).map tupI)), none, none]) (h := h) ⟨rfl, none, rfl⟩ (by
      rintro pre y post ey ρ h' ⟨rfl, o, rfl⟩
      have lm : pre.length ≤ 16 := by
        have := congrArg List.length ey
        rw [isort_len, List.length_append] at this
        omega
      exact ⟨_, _, _, rfl, parts_step lm rfl, rfl, _, rfl⟩)
  have e0 : ((allS []).map tupI) = [VV.tup []] := rfl
  rw [e0] at e2
  rw [e2]
  walk_at "ev"
  obtain ⟨r, er, _⟩ := allS_head (isort f)
  simp only [sl_lst]
  walk_at "ev"
  rw [cut_tail (by rw [er]; simp), fin_ret rfl, ← List.map_drop]; rfl
theorem own_faces_eq {f : List Int} {h : VH} (hl : f.length ≤ 16) : F_own_faces [tupI f] h = .ok (.lst ((subs f).map tupI)) h := by
  unfold F_own_faces B_own_faces
  walk_at "eva"
  simp only [List.any_nil, List.any_cons, VV.isObj, Bool.or_false, Bool.false_eq_true, false_or]
  rw [if_neg (by decide)]
  walk_at "ev"
  simp only [List.any_nil, List.any_cons, VV.isObj, Bool.or_false, Bool.false_eq_true, false_or, List.length_cons, List.length_nil]
  rw [if_neg (by decide)]
  walk_at "ev"
  have es : seqItems (tupI f) h = .ok (f.map VV.int) h := rfl
  simp only [es]
  walk_at "ev"
  obtain ⟨ρ2, h2, e2, rfl, o, rfl⟩ := for_pre (b := bNm 2) (body := lb_own_faces_1) VV.int
    (fun pre ρ h' => h' = h ∧ ∃ o, ρ = [some (tupI f), some (.lst ((allS pre).map tupI)), o, none])
    f (ρ := [some (tupI f), some (.lst ((allS []).map tupI)), none, none]) (h := h) ⟨rfl, none, rfl⟩ (by
      rintro pre y post ey ρ h' ⟨rfl, o, rfl⟩
      have lm : pre.length ≤ 16 := by
        have := congrArg List.length ey
        rw [List.length_append] at this
        omega
      exact ⟨_, _, _, rfl, parts_step lm rfl, rfl, _, rfl⟩)
  have e0 : ((allS []).map tupI) = [VV.tup []] := rfl
  rw [e0] at e2
  rw [e2]
  walk_at "ev"
  obtain ⟨r, er, _⟩ := allS_head f
  simp only [sl_lst]
  walk_at "ev"
  rw [cut_tail (by rw [er]; simp), fin_ret rfl, ← List.map_drop]; rfl
theorem subs_le {f : List Int} (hl : f.length ≤ 4) : (subs f).length ≤ 15 := by
  have h := subs_len (l := f)
  have : 2 ^ f.length ≤ 2 ^ 4 := Nat.pow_le_pow_right (by decide) hl
  omega
theorem parts_snoc (fs : List (List Int)) (f : List Int) : parts (fs ++ [f]) = parts fs ++ subs (isort f) := by
  unfold parts; rw [List.flatMap_append]; simp
theorem parts_le {fs : List (List Int)} (h : ∀ f ∈ fs, f.length ≤ 4) : (parts fs).length ≤ 15 * fs.length := by
  induction fs with
  | nil => simp [parts]
  | cons f fs ih =>
    have e : parts (f :: fs) = subs (isort f) ++ parts fs := by unfold parts; simp
    have := ih fun g hg => h g (List.mem_cons_of_mem _ hg)
    have := subs_le (f := isort f) (by rw [isort_len]; exact h f List.mem_cons_self)
    rw [e, List.length_append, List.length_cons]; omega
theorem parts_pos {fs : List (List Int)} : ∀ s ∈ parts fs, s ≠ [] := fun s hs => by
  obtain ⟨_, _, _, h⟩ := mem_parts.mp hs
  exact h
theorem closed_eqW {fs : List (List Int)} {h : VH} (hf : ∀ f ∈ fs, f.length ≤ 4) (hn : fs.length ≤ 1000) (few : (parts fs).eraseDups.length < 306) : F_law_closed [.lst (fs.map tupI)] h = .ok (.lst ((clo fs).map tupI)) h := by
  unfold F_law_closed B_law_closed
  walk_at "eva"
  simp only [List.any_nil, Bool.false_eq_true, false_or]
  rw [if_neg (by decide)]
  walk_at "ev"
  obtain ⟨ρ2, h2, e2, rfl, o, rfl⟩ := for_pre (b := bNm 2) (body := lb_law_closed_1) tupI
    (fun pre ρ h' => h' = h ∧ ∃ o, ρ = [some (.lst (fs.map tupI)), some (.lst ((parts pre).map tupI)), o])
    fs (ρ := [some (.lst (fs.map tupI)), some (.lst ((parts []).map tupI)), none]) (h := h) ⟨rfl, none, rfl⟩ (by
      rintro pre y post ey ρ h' ⟨rfl, o, rfl⟩
      have hy : y.length ≤ 4 := hf y (by rw [ey]; simp)
      have lm : pre.length ≤ 1000 := by
        have := congrArg List.length ey
        rw [List.length_append] at this
        omega
      have hp := parts_le (fs := pre) fun f hf' => hf f (by rw [ey]; exact List.mem_append_left _ hf')
      have hs := subs_le (f := isort y) (by rw [isort_len]; exact hy)
      refine ⟨_, [some (.lst (fs.map tupI)), some (.lst ((parts (pre ++ [y])).map tupI)), some (tupI y)], _, rfl, ?_, rfl, _, rfl⟩
      walk_at "ev"
      simp only [law_subs_eq (f := y) (v := tupI y) sorted_tup (by omega)]
      walk_at "ev"
      rw [add_lst (by rw [List.length_map, List.length_map]; omega)]
      walk_at "ev"
      rw [parts_snoc, List.map_append])
  have e0 : ((parts []).map tupI) = [] := rfl
  rw [e0] at e2
  rw [e2]
  walk_at "ev"
  simp only [sortSet_tups parts_pos few]
  walk_at "ev"
  rw [fin_ret rfl]; rfl
theorem closed_eq {fs : List (List Int)} {h : VH} (hf : ∀ f ∈ fs, f.length ≤ 4) (hn : fs.length ≤ 1000) (few : (parts fs).eraseDups.length < 76) : F_law_closed [.lst (fs.map tupI)] h = .ok (.lst ((clo fs).map tupI)) h := closed_eqW hf hn (by omega)
/-! walls, wound webs, tyres -/
theorem fourwall_eq {p : List Int} {big : Int} {b : Bx} (hl : p.length ≤ 4) : F_law_fourwall [.lst (p.map VV.int), .int big] [b.v] = .ok (.lst (((subs (isort p)).filter fun s => decide ((s.length : Int) = big + 1)).map tupI)) [b.v] := by
  unfold F_law_fourwall B_law_fourwall
  walk_at "ev"
  simp only [List.any_nil, Bool.false_eq_true, false_or]
  rw [if_neg (by decide)]
  walk_at "ev"
  simp only [law_subs_eq (f := p) (v := .lst (p.map VV.int)) sorted_lst (by omega)]
  walk_at "ev"
  have hs := subs_le (f := isort p) (by rw [isort_len]; exact hl)
  obtain ⟨ρ2, h2, e2, ⟨o, rfl⟩, rfl⟩ := for_pre (b := bNm 3) (body := lb_law_fourwall_1) tupI
    (fun pre ρ h => (∃ o, ρ = [some (.lst (p.map VV.int)), some (.int big), some (.obj 1), o]) ∧ h = [b.v, .fl ((pre.filter fun s => decide ((s.length : Int) = big + 1)).map tupI)])
    (subs (isort p)) (ρ := [some (.lst (p.map VV.int)), some (.int big), some (.obj 1), none]) (h := [b.v, .fl []]) ⟨⟨none, rfl⟩, rfl⟩ (by
      rintro pre y post ey ρ h ⟨⟨o, rfl⟩, rfl⟩
      refine ⟨_, [some (.lst (p.map VV.int)), some (.int big), some (.obj 1), some (tupI y)], _, rfl, ?_, ⟨_, rfl⟩, rfl⟩
      have lm : pre.length ≤ 15 := by
        have := congrArg List.length ey
        rw [List.length_append] at this
        omega
      have lf := List.length_filter_le (fun s : List Int => decide ((s.length : Int) = big + 1)) pre
      have el : cLen [b.v, .fl ((pre.filter fun s => decide ((s.length : Int) = big + 1)).map tupI)] [tupI y] = some (.int (y.length : Int)) := by
        show some (VV.int ((y.map VV.int).length : Int)) = _
        rw [List.length_map]
      walk_at "ev"
      simp only [el]
      walk_at "ev"
      rw [List.filter_append]
      by_cases c : (y.length : Int) = big + 1
      · simp only [decide_eq_true c, reduceIte]
        walk_at "ev"
        rw [appO_fl (by rw [List.length_map]; omega) rfl]
        walk_at "ev"
        simp only [List.filter_cons, decide_eq_true c, if_true, List.filter_nil, List.map_append, List.map_cons, List.map_nil]
      · simp only [decide_eq_false c, Bool.false_eq_true, reduceIte]
        walk_at "ev"
        simp only [List.filter_cons, decide_eq_false c, Bool.false_eq_true, if_false, List.filter_nil, List.append_nil])
  rw [e2]
  walk_at "ev"
  rw [fin_b rfl]
abbrev woundIx : List (List Nat) := (List.range 6).flatMap fun k => [[k, (k + 1) % 6, 6 + k % 3], [(k + 1) % 6, 6 + k % 3, 6 + (k + 1) % 3], [k, (k + 1) % 6, 9]]
theorem wound_eq (p0 p1 p2 p3 p4 p5 p6 p7 p8 p9 : Int) (o : VO) : F_law_wound [.lst ([p0, p1, p2, p3, p4, p5, p6, p7, p8, p9].map VV.int), .int 2] [o] = .ok (.lst ((woundIx.map (pick [p0, p1, p2, p3, p4, p5, p6, p7, p8, p9])).map tupI)) [o] := by kernel_rfl
abbrev tyreIx : List (List Nat) := (List.range 7).flatMap fun k => [[k, (k + 1) % 7, (k + 3) % 7], [k, (k + 2) % 7, (k + 3) % 7]]
theorem tyre_eq (p0 p1 p2 p3 p4 p5 p6 : Int) (o : VO) (ho : lowO 1 o = true) : F_law_tyre [.lst ([p0, p1, p2, p3, p4, p5, p6].map VV.int)] [o] = .ok (.lst ((tyreIx.map (pick [p0, p1, p2, p3, p4, p5, p6])).map tupI)) [o] := by
  have : B_law_tyre [some (.lst ([p0, p1, p2, p3, p4, p5, p6].map VV.int)), none, none] [o] = .ret (.lst ((tyreIx.map (pick [p0, p1, p2, p3, p4, p5, p6])).map tupI)) (o :: [.fzn (.lst ((tyreIx.map (pick [p0, p1, p2, p3, p4, p5, p6])).map tupI))]) := by kernel_rfl
  unfold F_law_tyre
  rw [fn_ap]
  show (B_law_tyre [some (.lst ([p0, p1, p2, p3, p4, p5, p6].map VV.int)), none, none] [o]).fin 1 = _
  rw [this, fin_o rfl ho]
theorem pick_nodup {p : List Int} {ix : List Nat} (hp : p.Nodup) (hi : ix.Nodup) (hl : ∀ i ∈ ix, i < p.length) : (pick p ix).Nodup := by
  unfold pick
  rw [List.nodup_iff_pairwise_ne, List.pairwise_map]
  rw [List.nodup_iff_pairwise_ne] at hi
  refine List.Pairwise.imp_of_mem (fun {a b} ha hb hne e => ?_) hi
  have h1 := hl a ha
  have h2 := hl b hb
  rw [List.getD_eq_getElem?_getD, List.getD_eq_getElem?_getD, List.getElem?_eq_getElem h1, List.getElem?_eq_getElem h2] at e
  exact hne ((List.getElem?_inj h1 hp).mp (by rw [List.getElem?_eq_getElem h1, List.getElem?_eq_getElem h2]; exact congrArg some e))
theorem pick_pts {p : List Int} {ix : List Nat} (hp : p.Nodup) (hr : ∀ x ∈ p, 0 ≤ x ∧ x ≤ 15) (h : (!ix.isEmpty && decide (ix.length ≤ 4) && decide ix.Nodup && ix.all fun i => decide (i < p.length)) = true) : Pts (pick p ix) := by
  simp only [Bool.and_eq_true, decide_eq_true_eq, List.all_eq_true, Bool.not_eq_true'] at h
  obtain ⟨⟨⟨h1, h2⟩, h3⟩, h4⟩ := h
  refine ⟨pick_nodup hp h3 h4, fun e => ?_, by unfold pick; rw [List.length_map]; exact h2, fun x hx => ?_⟩
  · unfold pick at e
    rw [List.map_eq_nil_iff] at e
    rw [e] at h1
    simp at h1
  · obtain ⟨i, hi, rfl⟩ := List.mem_map.mp hx
    have := h4 i hi
    rw [List.getD_eq_getElem?_getD, List.getElem?_eq_getElem this]
    exact hr _ (List.getElem_mem this)
/-- what the drawn tops keep -/
structure Tops (fs : List (List Int)) : Prop where
  pts : ∀ f ∈ fs, Pts f
  few : Few fs
  len : fs.length ≤ 100
theorem tops_drawn {p : List Int} {fs : List (List Int)} {big : Int} (hb : big ≤ 3) (pn : p.Nodup) (pl : p.length ≤ 6) (pr : ∀ x ∈ p, 0 ≤ x ∧ x ≤ 15) (hl : fs.length ≤ 100) (h : ∀ f ∈ fs, DF p big f) : Tops fs :=
  ⟨fun f hf => ⟨(h f hf).nd, (h f hf).pos, by have := (h f hf).le; omega, fun x hx => pr x ((h f hf).sub x hx)⟩, few_six pn pl fun f hf => ⟨(h f hf).nd, by have := (h f hf).le; omega, (h f hf).sub⟩, hl⟩
theorem tops_wall {p : List Int} {big : Int} (pn : p.Nodup) (pl : p.length ≤ 4) (pr : ∀ x ∈ p, 0 ≤ x ∧ x ≤ 15) : Tops ((subs (isort p)).filter fun s => decide ((s.length : Int) = big + 1)) := by
  have hm : ∀ f ∈ (subs (isort p)).filter (fun s => decide ((s.length : Int) = big + 1)), f.Sublist (isort p) ∧ f ≠ [] := fun f hf => mem_subs.mp (List.mem_filter.mp hf).1
  have hle : ∀ f ∈ (subs (isort p)).filter (fun s => decide ((s.length : Int) = big + 1)), f.length ≤ 4 := fun f hf => by have := (hm f hf).1.length_le; rw [isort_len] at this; omega
  refine ⟨fun f hf => ⟨((inc_isort pn).sub (hm f hf).1).nodup, (hm f hf).2, hle f hf, fun x hx => pr x (isort_mem.mp ((hm f hf).1.subset hx))⟩, few_six pn (by omega) fun f hf => ⟨((inc_isort pn).sub (hm f hf).1).nodup, hle f hf, fun x hx => isort_mem.mp ((hm f hf).1.subset hx)⟩, ?_⟩
  have := List.length_filter_le (fun s : List Int => decide ((s.length : Int) = big + 1)) (subs (isort p))
  have := subs_le (f := isort p) (by rw [isort_len]; exact pl)
  omega
def normD (ixs : List (List Nat)) : List (List Nat) := (((ixs.flatMap allN).map nsort).filter fun j => !j.isEmpty).foldr (fun j acc => if acc.contains j then acc else j :: acc) []
theorem tops_places {p : List Int} (ixs : List (List Nat)) (n : Nat) (hn : p.length = n) (pn : p.Nodup) (pr : ∀ x ∈ p, 0 ≤ x ∧ x ≤ 15) (h1 : (normD ixs).length < 61) (h2 : (ixs.all fun ix => (allN ix).all fun j => j.isEmpty || (normD ixs).contains (nsort j)) = true)
    (h3 : (ixs.all fun ix => !ix.isEmpty && decide (ix.length ≤ 4) && decide ix.Nodup && ix.all fun i => decide (i < n)) = true) (h4 : ixs.length ≤ 100) : Tops (ixs.map (pick p)) := by
  refine ⟨fun f hf => ?_, few_places ixs (normD ixs) h1 h2, by rw [List.length_map]; exact h4⟩
  obtain ⟨ix, hix, rfl⟩ := List.mem_map.mp hf
  subst hn
  exact pick_pts pn pr (List.all_eq_true.mp h3 ix hix)
theorem some_tops_eq (b : Bx) : ∃ (fs : List (List Int)) (b' : Bx), F_law_some_tops [.obj 0] [b.v] = .ok (.lst (fs.map tupI)) [b'.v] ∧ Tops fs := by
  unfold F_law_some_tops B_law_some_tops
  obtain ⟨way, b1, e1, w0, w1⟩ := take1 b (m := 8) (by decide) (by decide)
  walk_at "ev"
  simp only [e1]
  walk_at "ev"
  by_cases c1 : way < 4
  · simp only [decide_eq_true c1, reduceIte]
    walk_at "ev"
    obtain ⟨p, fs, b2, e2, pn, pl, pr, fl, hf⟩ := drawn_tops_eq b1 (mp := 6) (mt := 6) (big := 3) (by decide) (by decide) (by decide) (by decide) (by decide) (by decide)
    simp only [e2]
    walk_at "ev"
    rw [fin_b rfl]
    exact ⟨fs, b2, rfl, tops_drawn (by decide) pn (by omega) pr (by omega) hf⟩
  simp only [decide_eq_false c1, Bool.false_eq_true, reduceIte]
  walk_at "ev"
  by_cases c2 : way = 4
  · simp only [decide_eq_true c2, reduceIte]
    walk_at "ev"
    obtain ⟨p, fs, b2, e2, pn, pl, pr, fl, hf⟩ := drawn_tops_eq b1 (mp := 6) (mt := 10) (big := 1) (by decide) (by decide) (by decide) (by decide) (by decide) (by decide)
    simp only [e2]
    walk_at "ev"
    rw [fin_b rfl]
    exact ⟨fs, b2, rfl, tops_drawn (by decide) pn (by omega) pr (by omega) hf⟩
  simp only [decide_eq_false c2, Bool.false_eq_true, reduceIte]
  walk_at "ev"
  by_cases c3 : way = 5
  · simp only [decide_eq_true c3, reduceIte]
    walk_at "ev"
    obtain ⟨r, b2, e2, r0, r1⟩ := take1 b1 (m := 2) (by decide) (by decide)
    simp only [e2]
    walk_at "ev"
    obtain ⟨p, b3, e3, pl, pn, pr⟩ := points_eq b2 (m := 3 + r) (by omega) (by omega)
    simp only [e3]
    walk_at "ev"
    obtain ⟨r', b4, e4, r0', r1'⟩ := take1 b3 (m := 2) (by decide) (by decide)
    simp only [e4]
    walk_at "ev"
    simp only [fourwall_eq (p := p) (big := 1 + r') (b := b4) (by omega)]
    walk_at "ev"
    rw [fin_b rfl]
    exact ⟨_, b4, rfl, tops_wall pn (by omega) pr⟩
  simp only [decide_eq_false c3, Bool.false_eq_true, reduceIte]
  walk_at "ev"
  by_cases c4 : way = 6
  · simp only [decide_eq_true c4, reduceIte]
    walk_at "ev"
    obtain ⟨p, b3, e3, pl, pn, pr⟩ := points_eq b1 (m := 10) (by decide) (by decide)
    simp only [e3]
    walk_at "ev"
    match p, pl, pn, pr with
    | [p0, p1, p2, p3, p4, p5, p6, p7, p8, p9], pl, pn, pr =>
      simp only [wound_eq]
      walk_at "ev"
      rw [fin_b rfl]
      exact ⟨_, b3, rfl, tops_places woundIx 10 rfl pn pr (by decide +kernel) (by decide +kernel) (by decide +kernel) (by decide +kernel)⟩
  simp only [decide_eq_false c4, Bool.false_eq_true, reduceIte]
  walk_at "ev"
  obtain ⟨p, b3, e3, pl, pn, pr⟩ := points_eq b1 (m := 7) (by decide) (by decide)
  simp only [e3]
  walk_at "ev"
  match p, pl, pn, pr with
  | [p0, p1, p2, p3, p4, p5, p6], pl, pn, pr =>
    simp only [tyre_eq p0 p1 p2 p3 p4 p5 p6 b3.v rfl]
    walk_at "ev"
    rw [fin_b rfl]
    exact ⟨_, b3, rfl, tops_places tyreIx 7 rfl pn pr (by decide +kernel) (by decide +kernel) (by decide +kernel) (by decide +kernel)⟩
/-! is_face -/
def isFaceB (f : List Int) : Bool := decide (1 ≤ f.length ∧ f.length ≤ 4) && decide f.Nodup && f.all fun p => decide (0 ≤ p ∧ p ≤ 15)
theorem isFaceB_pts {f : List Int} (h : Pts f) : isFaceB f = true := by
  unfold isFaceB
  rw [decide_eq_true ⟨List.length_pos_iff.mpr h.pos, h.le⟩, decide_eq_true h.nd, Bool.true_and, Bool.true_and, List.all_eq_true]
  exact fun p hp => decide_eq_true (h.rng p hp)
theorem len_tupI {h : VH} {f : List Int} : cLen h [tupI f] = some (.int (f.length : Int)) := by
  show some (VV.int ((f.map VV.int).length : Int)) = _
  rw [List.length_map]
theorem seq_tupI {h : VH} {f : List Int} : seqItems (tupI f) h = .ok (f.map VV.int) h := rfl
theorem is_face_eq {f : List Int} {h : VH} (hl : f.length ≤ 1000) : F_is_face [tupI f] h = .ok (.bl (isFaceB f)) h := by
  have acc : noX (accGo (bNm 1) (stSet (eVar 1)) [some (tupI f), none] (f.map VV.int) h []) = .ok (dd f) h := by
    rw [show ([] : List Int) = dd [] from rfl, acc_pre VV.int dd f (fun pre y post e => ?_), noX_ok]
    have lm : pre.length ≤ 1000 := by
      have := congrArg List.length e
      rw [List.length_append] at this; omega
    have := dd_le pre
    refine ⟨_, rfl, ?_⟩
    show (if (dd pre).length ≥ 4000 then Res.no else .ok (if y ∈ dd pre then dd pre else dd pre ++ [y]) h) = _
    rw [if_neg (by omega), dd_snoc]
  unfold F_is_face B_is_face
  walk_at "ev"
  simp only [len_tupI]
  walk_at "ev"
  by_cases c1 : 1 ≤ f.length ∧ f.length ≤ 4
  · simp only [decide_eq_true (show (1 : Int) ≤ f.length by omega), if_true]
    walk_at "ev"
    simp only [decide_eq_true (show (f.length : Int) ≤ 3 + 1 by omega), Bool.not_true]
    walk_at "ev"
    simp only [seq_tupI]
    walk_at "ev"
    simp only [wp, List.set_cons_zero, List.set_cons_succ, acc]
    walk_at "ev"
    simp only [len_tupI]
    walk_at "ev"
    have dl : decide (((dd f).length : Int) < (f.length : Int)) = !decide f.Nodup := by
      rw [← dd_lt f]; exact Bool.eq_iff_iff.mpr (by simp)
    rw [dl]
    by_cases c2 : f.Nodup
    · simp only [decide_eq_true c2, Bool.not_true, Bool.false_eq_true, if_false]
      walk_at "ev"
      simp only [seq_tupI]
      walk_at "ev"
      rw [if_neg (by rw [List.length_map]; show ¬ f.length > 16777216; omega)]
      simp only [wp, List.set_cons_zero, List.set_cons_succ]
      rw [lc_map VV.int (fun p => VV.bl (decide (0 ≤ p ∧ p ≤ 15))) (fun p hp => ?_), afterL_ok]
      · walk_at "ev"
        have em : f.map (fun p => VV.bl (decide (0 ≤ p ∧ p ≤ 15))) = (f.map fun p => decide (0 ≤ p ∧ p ≤ 15)).map VV.bl := by rw [List.map_map]; rfl
        rw [em]
        simp only [all_bls]
        walk_at "ev"
        rw [fin_ret rfl]
        unfold isFaceB
        rw [decide_eq_true c1, decide_eq_true c2, List.all_map]; rfl
      · refine ⟨_, rfl, rfl, ?_, rfl⟩
        walk_at "ev"
        by_cases c3 : 0 ≤ p
        · simp only [decide_eq_true c3, if_true]
          walk_at "ev"
          simp only [c3, true_and]
        · simp only [decide_eq_false c3, Bool.false_eq_true, if_false]
          walk_at "ev"
          simp only [c3, false_and, decide_false]
    · simp only [decide_eq_false c2, Bool.not_false, if_true]
      walk_at "ev"
      rw [fin_ret rfl]
      unfold isFaceB
      rw [decide_eq_false c2, Bool.and_false, Bool.false_and]
  · have ef : isFaceB f = false := by
      unfold isFaceB
      rw [decide_eq_false c1, Bool.false_and, Bool.false_and]
    by_cases c0 : 1 ≤ f.length
    · simp only [decide_eq_true (show (1 : Int) ≤ f.length by omega), if_true]
      walk_at "ev"
      simp only [decide_eq_false (show ¬ (f.length : Int) ≤ 3 + 1 by omega), Bool.not_false, if_true]
      walk_at "ev"
      rw [fin_ret rfl, ef]
    · simp only [decide_eq_false (show ¬ (1 : Int) ≤ f.length by omega), Bool.false_eq_true, if_false]
      walk_at "ev"
      rw [fin_ret rfl, ef]
/-! a web is made -/
theorem enum_map {α : Type} (f : α → VV) : ∀ (n : Nat) (l : List α), enum n (l.map f) = (l.zipIdx n).map fun p => VV.tup [.int (p.2 : Int), f p.1]
  | _, [] => rfl
  | n, x :: l => by rw [List.map_cons, enum, List.zipIdx_cons, List.map_cons, enum_map f (n + 1) l]
theorem pat_pair {i j : Nat} {a b : VV} {ρ : VSt} : bTup 2 (bCons (bNm i) (bCons (bNm j) bNil)) (.tup [a, b]) ρ = some ((ρ.set i (some a)).set j (some b)) := rfl
theorem sz_snoc (E : List (List Int)) (f : List Int) (k : Nat) : sz (E ++ [f]) k = sz E k ++ (if f.length = k then [f] else []) := by
  unfold sz
  rw [List.filter_append, List.filter_cons, List.filter_nil]
  by_cases h : f.length = k
  · rw [decide_eq_true h, if_pos rfl, if_pos h]
  · rw [decide_eq_false h, if_neg (by decide), if_neg h]
theorem sz_le (E : List (List Int)) (k : Nat) : (sz E k).length ≤ E.length := List.length_filter_le _ _
/-- the dict of places -/
theorem dict_line {K0 V0} {l : List (List Int)} {h : VH} {x0 x1 x2 x5 x6 x7 : Option VV} (hn : l.Nodup) (hk : ∀ f ∈ l, keyI f ∉ K0) (hz : K0.length + l.length ≤ 10000) (hKV : K0.length = V0.length) :
    accGo (bTup 2 (bCons (bNm 4) (bCons (bNm 3) bNil))) (stDict (eVar 3) (eVar 4)) [x0, x1, x2, none, none, x5, x6, x7] (enum 0 (l.map tupI)) h (K0, V0) = .ok (K0 ++ l.map keyI, V0 ++ idxs l) h := by
  rw [enum_map]
  have := acc_pre (b := bTup 2 (bCons (bNm 4) (bCons (bNm 3) bNil))) (stp := stDict (eVar 3) (eVar 4)) (ρ := [x0, x1, x2, none, none, x5, x6, x7]) (h := h) (fun p : List Int × Nat => VV.tup [.int (p.2 : Int), tupI p.1])
    (fun pre => (K0 ++ (pre.map (·.1)).map keyI, V0 ++ idxs (pre.map (·.1)))) (l.zipIdx 0) (by
      rintro pre ⟨f, n⟩ post ey
      have el : l = pre.map (·.1) ++ f :: post.map (·.1) := by
        have := congrArg (List.map (·.1)) ey
        rw [List.zipIdx_map_fst, List.map_append, List.map_cons] at this
        exact this
      have en : n = pre.length := by
        have h1 : (l.zipIdx 0)[pre.length]? = some (f, n) := by rw [ey]; simp
        rw [List.getElem?_zipIdx] at h1
        obtain ⟨a, _, h3⟩ := Option.map_eq_some_iff.mp h1
        have := congrArg Prod.snd h3
        simpa using this.symm
      refine ⟨_, pat_pair, ?_⟩
      have hl := congrArg List.length el
      rw [List.length_append, List.length_map] at hl
      have nk : keyI f ∉ K0 ++ (pre.map (·.1)).map keyI := by
        intro z
        rcases List.mem_append.mp z with z | z
        · exact hk f (by rw [el]; simp) z
        · have hd := hn
          rw [el, List.nodup_append] at hd
          obtain ⟨g, hg, e⟩ := List.mem_map.mp z
          exact hd.2.2 g hg f List.mem_cons_self (keyI_inj e)
      have hh : hasK (K0 ++ (pre.map (·.1)).map keyI) (keyI f) = false := by
        unfold hasK
        rw [List.any_eq_false]
        exact fun x hx => by rw [decide_eq_true_eq]; exact fun e => nk (e ▸ hx)
      have st : stDict (eVar 3) (eVar 4) [x0, x1, x2, some (tupI f), some (.int (n : Int)), x5, x6, x7] h (K0 ++ (pre.map (·.1)).map keyI, V0 ++ idxs (pre.map (·.1))) = (match keyV (tupI f) with
        | some k => if (VV.int (n : Int)).isObj = true ∨ (K0 ++ (pre.map (·.1)).map keyI).length ≥ SZ then .no else .ok (putKs (K0 ++ (pre.map (·.1)).map keyI) k, putVs (K0 ++ (pre.map (·.1)).map keyI) (V0 ++ idxs (pre.map (·.1))) k (.int (n : Int))) h
        | none => .no) := rfl
      have e1 : stDict (eVar 3) (eVar 4) [x0, x1, x2, some (tupI f), some (.int (n : Int)), x5, x6, x7] h (K0 ++ (pre.map (·.1)).map keyI, V0 ++ idxs (pre.map (·.1))) = .ok (K0 ++ ((pre ++ [(f, n)]).map (·.1)).map keyI, V0 ++ idxs ((pre ++ [(f, n)]).map (·.1))) h := by
        rw [st, keyV_tupI]
        simp only
        rw [if_neg (fun h => h.elim (fun z => by cases z) (fun z => by rw [List.length_append, List.length_map, List.length_map] at z; have : K0.length + pre.length ≥ 16777216 := z; omega))]
        unfold putKs putVs
        rw [hh]
        simp only [Bool.false_eq_true, if_false, List.map_append, List.map_cons, List.map_nil, List.append_assoc]
        congr 3
        unfold idxs
        rw [List.length_append, List.length_singleton, List.range_succ, List.map_append, List.length_map, en]
        rfl
      exact e1)
  have e0 : (K0 ++ (([] : List (List Int × Nat)).map (·.1)).map keyI, V0 ++ idxs (([] : List (List Int × Nat)).map (·.1))) = (K0, V0) := by simp [idxs]
  simp only [List.zipIdx_map_fst] at this
  rw [e0] at this
  exact this
abbrev stW : VSt → VH → DA → Res DA := stIn (iEnum (aCons (eVar 7) aNil)) (bTup 2 (bCons (bNm 4) (bCons (bNm 3) bNil))) [4, 3] (stDict (eVar 3) (eVar 4))
theorem stW_eq {K0 V0} {l : List (List Int)} {h : VH} {x0 x1 x2 x5 x6 : Option VV} (hn : l.Nodup) (hk : ∀ f ∈ l, keyI f ∉ K0) (hz : K0.length + l.length ≤ 10000) (hKV : K0.length = V0.length) :
    stW [x0, x1, x2, none, none, x5, x6, some (.lst (l.map tupI))] h (K0, V0) = .ok (K0 ++ l.map keyI, V0 ++ idxs l) h := by
  have : stW [x0, x1, x2, none, none, x5, x6, some (.lst (l.map tupI))] h (K0, V0) = accGo (bTup 2 (bCons (bNm 4) (bCons (bNm 3) bNil))) (stDict (eVar 3) (eVar 4)) [x0, x1, x2, none, none, x5, x6, some (.lst (l.map tupI))] (enum 0 (l.map tupI)) h (K0, V0) := rfl
  rw [this, dict_line hn hk hz hKV]
theorem dict_all {E : List (List Int)} {h : VH} {x0 x1 x2 x5 x6 : Option VV} (hE : E.Nodup) (hz : E.length ≤ 1000) :
    noX (accGo (bNm 7) stW [x0, x1, x2, none, none, x5, x6, none] [szL E 1, szL E 2, szL E 3, szL E 4] h ([], [])) = .ok ((ordE E).map keyI, ordV E) h := by
  have z1 := sz_le E 1
  have z2 := sz_le E 2
  have z3 := sz_le E 3
  have z4 := sz_le E 4
  have no : ∀ {i j : Nat}, i ≠ j → ∀ f ∈ sz E i, keyI f ∉ (sz E j).map keyI := fun hij f hf => not_key fun z => hij ((mem_sz.mp hf).2.symm.trans (mem_sz.mp z).2)
  have l1 : ((sz E 1).map keyI).length = (sz E 1).length := List.length_map _
  have i1 := idxs_len (sz E 1)
  have i2 := idxs_len (sz E 2)
  have i3 := idxs_len (sz E 3)
  simp only [accGo, bNm_ap, List.set_cons_zero, List.set_cons_succ, szL]
  rw [stW_eq (sz_nodup hE 1) (by simp) (by simp; omega) rfl, bind_ok, List.nil_append, List.nil_append]
  rw [stW_eq (sz_nodup hE 2) (no (by decide)) (by simp; omega) i1, bind_ok]
  rw [stW_eq (sz_nodup hE 3) (fun f hf z => (List.mem_append.mp z).elim (no (by decide) f hf) (no (by decide) f hf)) (by simp; omega) (by rw [List.length_append, List.length_append, i1, i2]), bind_ok]
  rw [stW_eq (sz_nodup hE 4) (fun f hf z => (List.mem_append.mp z).elim (fun z => (List.mem_append.mp z).elim (no (by decide) f hf) (no (by decide) f hf)) (no (by decide) f hf)) (by simp; omega) (by rw [List.length_append, List.length_append, List.length_append, List.length_append, i1, i2, i3]), bind_ok]
  unfold ordE ordV
  simp only [List.map_append, List.append_assoc]
  rfl
theorem setD_dd_r {o o9 i : VO} {l : List (List Int)} {x : List Int} (hl : (dd l).length < 16777216) : setD [o, o9, i, .dT ((dd l).map keyI) ((dd l).map fun _ => VV.bl true)] (.obj 3) (tupI x) (.bl true) = some [o, o9, i, .dT ((dd (l ++ [x])).map keyI) ((dd (l ++ [x])).map fun _ => VV.bl true)] := by
  have : setD [o, o9, i, .dT ((dd l).map keyI) ((dd l).map fun _ => VV.bl true)] (.obj 3) (tupI x) (.bl true) = (keyV (tupI x)).bind fun k => if (VV.bl true).isObj = true ∨ ((dd l).map keyI).length ≥ SZ then none else some [o, o9, i, .dT (putKs ((dd l).map keyI) k) (putVs ((dd l).map keyI) ((dd l).map fun _ => VV.bl true) k (.bl true))] := rfl
  rw [this, keyV_tupI]
  show (if _ then _ else _) = _
  rw [if_neg (fun h => h.elim (fun z => by cases z) (fun z => by rw [List.length_map] at z; have : (dd l).length ≥ 16777216 := z; omega)), putKs_dd, putVs_dd]
theorem web_loop1_r {o o9 i : VO} {fs : List (List Int)} (hf : ∀ f ∈ fs, Pts f) (hn : fs.length ≤ 1000) :
    ∃ o3 o4 o5, forGo (bTup 2 (bCons (bNm 4) (bCons (bNm 3) bNil))) lb_Web_init_2 (enum 0 (fs.map tupI)) [some (.obj 2), some (.lst (fs.map tupI)), some (.obj 3), none, none, none, none, none] [o, o9, i, .dT [] []]
      = .nx [some (.obj 2), some (.lst (fs.map tupI)), some (.obj 3), o3, o4, o5, none, none] [o, o9, i, .dT ((dd (parts fs)).map keyI) ((dd (parts fs)).map fun _ => VV.bl true)] := by
  rw [enum_map]
  obtain ⟨ρ2, h2, e2, ⟨o3, o4, o5, rfl⟩, rfl⟩ := for_pre (b := bTup 2 (bCons (bNm 4) (bCons (bNm 3) bNil))) (body := lb_Web_init_2) (fun p : List Int × Nat => VV.tup [.int (p.2 : Int), tupI p.1])
    (fun pre ρ h => (∃ o3 o4 o5, ρ = [some (.obj 2), some (.lst (fs.map tupI)), some (.obj 3), o3, o4, o5, none, none]) ∧ h = [o, o9, i, .dT ((dd (parts (pre.map (·.1)))).map keyI) ((dd (parts (pre.map (·.1)))).map fun _ => VV.bl true)])
    (fs.zipIdx 0) (ρ := [some (.obj 2), some (.lst (fs.map tupI)), some (.obj 3), none, none, none, none, none]) (h := [o, o9, i, .dT [] []]) ⟨⟨none, none, none, rfl⟩, rfl⟩ (by
      rintro pre ⟨f, n⟩ post ey ρ h ⟨⟨o3, o4, o5, rfl⟩, rfl⟩
      have ef : fs = pre.map (·.1) ++ f :: post.map (·.1) := by
        have := congrArg (List.map (·.1)) ey
        rw [List.zipIdx_map_fst, List.map_append, List.map_cons] at this
        exact this
      have hfm : f ∈ fs := by rw [ef]; simp
      have pf := hf f hfm
      have hlen : (pre.map (·.1)).length ≤ 1000 := by
        have := congrArg List.length ef
        rw [List.length_append] at this; omega
      have hpl := parts_le (fs := pre.map (·.1)) fun g hg => (hf g (by rw [ef]; exact List.mem_append_left _ hg)).le
      have hsl := subs_le (f := isort f) (by rw [isort_len]; exact pf.le)
      obtain ⟨ρ3, h3, e3, ⟨o5', rfl⟩, rfl⟩ := for_pre (b := bNm 5) (body := lb_Web_init_1) tupI
        (fun q ρ h => (∃ o5, ρ = [some (.obj 2), some (.lst (fs.map tupI)), some (.obj 3), some (tupI f), some (.int (n : Int)), o5, none, none]) ∧ h = [o, o9, i, .dT ((dd (parts (pre.map (·.1)) ++ q)).map keyI) ((dd (parts (pre.map (·.1)) ++ q)).map fun _ => VV.bl true)])
        (subs (isort f)) (ρ := [some (.obj 2), some (.lst (fs.map tupI)), some (.obj 3), some (tupI f), some (.int (n : Int)), o5, none, none]) (h := [o, o9, i, .dT ((dd (parts (pre.map (·.1)))).map keyI) ((dd (parts (pre.map (·.1)))).map fun _ => VV.bl true)]) ⟨⟨o5, rfl⟩, by rw [List.append_nil]⟩ (by
          rintro q y q' eq ρ h ⟨⟨o5, rfl⟩, rfl⟩
          refine ⟨_, _, _, rfl, ?_, ⟨some (tupI y), rfl⟩, rfl⟩
          have hq : q.length ≤ 15 := by
            have := congrArg List.length eq
            rw [List.length_append] at this; omega
          have hdl := dd_le (parts (pre.map (·.1)) ++ q)
          rw [List.length_append] at hdl
          walk_at "ev"
          rw [setD_dd_r (by omega), List.append_assoc]
          walk_at "ev")
      refine ⟨_, [some (.obj 2), some (.lst (fs.map tupI)), some (.obj 3), some (tupI f), some (.int (n : Int)), o5', none, none], [o, o9, i, .dT ((dd (parts (pre.map (·.1)) ++ subs (isort f))).map keyI) ((dd (parts (pre.map (·.1)) ++ subs (isort f))).map fun _ => VV.bl true)], pat_pair, ?_, ⟨_, _, _, rfl⟩, ?_⟩
      · walk_at "ev"
        simp only [is_face_eq (f := f) (by have := pf.le; omega), isFaceB_pts pf]
        walk_at "ev"
        simp only [sorted_tup]
        walk_at "ev"
        simp only [tuple_lst]
        walk_at "ev"
        have eo := own_faces_eq (f := isort f) (h := [o, o9, i, .dT ((dd (parts (pre.map (·.1)))).map keyI) ((dd (parts (pre.map (·.1)))).map fun _ => VV.bl true)]) (by rw [isort_len]; have := pf.le; omega)
        unfold tupI at eo
        simp only [eo]
        walk_at "ev"
        exact e3
      · rw [List.map_append, List.map_cons, List.map_nil, parts_snoc])
  rw [List.zipIdx_map_fst] at e2
  exact ⟨o3, o4, o5, e2⟩
theorem len_dict_r {o o9 i : VO} {ks vs} : cLenD [o, o9, i, .dT ks vs] [.obj 3] = some (.int (ks.length : Int)) := rfl
theorem list_dict_r {o o9 i : VO} {l : List (List Int)} {vs} {t : VH} : cListD (o :: o9 :: i :: .dT (l.map keyI) vs :: t) [.obj 3] = some (.lst (l.map tupI)) := by
  have : cListD (o :: o9 :: i :: .dT (l.map keyI) vs :: t) [.obj 3] = some (.lst ((l.map keyI).map fun k => .tup (k.map keyB))) := rfl
  rw [this, List.map_map]
  congr 2
  exact List.map_congr_left fun k _ => keyB_I k
def heapT_r (o o9 d : VO) (E : List (List Int)) : VH := [o, o9, .ins "Web" ["table"] [.obj 8], d, .fl ((sz E 1).map tupI), .fl ((sz E 2).map tupI), .fl ((sz E 3).map tupI), .fl ((sz E 4).map tupI), .lo [.obj 4, .obj 5, .obj 6, .obj 7]]
theorem web_turn_r {o o9 d : VO} {pre : List (List Int)} {f : List Int} {x1 x2 x4 x5 : Option VV} (hf : Face f) (hl : pre.length ≤ 10000) : lb_Web_init_3 [some (.obj 2), x1, x2, some (tupI f), x4, x5, none, none] (heapT_r o o9 d pre) = .nx [some (.obj 2), x1, x2, some (tupI f), x4, x5, none, none] (heapT_r o o9 d (pre ++ [f])) := by
  have h1 := hf.le
  have h2 : 0 < f.length := List.length_pos_iff.mpr hf.pos
  have z1 := sz_le pre 1
  have z2 := sz_le pre 2
  have z3 := sz_le pre 3
  have z4 := sz_le pre 4
  have key : ∀ (j : Nat) (xs : List VV), (heapT_r o o9 d pre)[4 + j]? = some (.fl xs) → j < 4 → (f.length : Int) - 1 = j → xs.length < 16777216 → lb_Web_init_3 [some (.obj 2), x1, x2, some (tupI f), x4, x5, none, none] (heapT_r o o9 d pre) = .nx [some (.obj 2), x1, x2, some (tupI f), x4, x5, none, none] ((heapT_r o o9 d pre).set (4 + j) (.fl (xs ++ [tupI f]))) := by
    intro j xs hx hj ej hz
    have ef : fldR "Web" "table" (insOf (heapT_r o o9 d pre) (.obj 2)) (heapT_r o o9 d pre) = .ok (.obj 8) (heapT_r o o9 d pre) := rfl
    have ei : opIx (heapT_r o o9 d pre) (.obj 8) (.int (j : Int)) = some (.obj (4 + j)) := by
      match j, hj with
      | 0, _ => rfl
      | 1, _ => rfl
      | 2, _ => rfl
      | 3, _ => rfl
    simp only [s_expr, a_app, a_bin, a_fld, a_var, List.getElem?_cons_zero, getV_some, bnd_ok, ef, a_call, a_cons, a_nil, List.getElem?_cons_succ, len_tupI, lift_some, a_c, o_sub, ej, ei, lstR_obj, hx, lstRO_fl, chkL_some, appV_obj, appO_fl hz isObj_tupI, sbd_ok]
  have c : f.length = 1 ∨ f.length = 2 ∨ f.length = 3 ∨ f.length = 4 := by omega
  unfold heapT_r at key ⊢
  rcases c with c | c | c | c
  · rw [key 0 _ rfl (by decide) (by omega) (by rw [List.length_map]; omega)]
    simp only [sz_snoc, c, List.map_append, List.append_nil, Nat.reduceEqDiff, if_false, if_true]
    rfl
  · rw [key 1 _ rfl (by decide) (by omega) (by rw [List.length_map]; omega)]
    simp only [sz_snoc, c, List.map_append, List.append_nil, Nat.reduceEqDiff, if_false, if_true]
    rfl
  · rw [key 2 _ rfl (by decide) (by omega) (by rw [List.length_map]; omega)]
    simp only [sz_snoc, c, List.map_append, List.append_nil, Nat.reduceEqDiff, if_false, if_true]
    rfl
  · rw [key 3 _ rfl (by decide) (by omega) (by rw [List.length_map]; omega)]
    simp only [sz_snoc, c, List.map_append, List.append_nil, Nat.reduceEqDiff, if_false, if_true]
    rfl
theorem web_loop2_r {o o9 d : VO} {E : List (List Int)} {x1 x2 x3 x4 x5 : Option VV} (hE : ∀ f ∈ E, Face f) (hl : E.length ≤ 10000) : ∃ x3', forGo (bNm 3) lb_Web_init_3 (E.map tupI) [some (.obj 2), x1, x2, x3, x4, x5, none, none] (heapT_r o o9 d []) = .nx [some (.obj 2), x1, x2, x3', x4, x5, none, none] (heapT_r o o9 d E) := by
  obtain ⟨ρ2, h2, e2, ⟨x3', rfl⟩, rfl⟩ := for_pre (b := bNm 3) (body := lb_Web_init_3) tupI
    (fun pre ρ h => (∃ x3, ρ = [some (.obj 2), x1, x2, x3, x4, x5, none, none]) ∧ h = heapT_r o o9 d pre)
    E (ρ := [some (.obj 2), x1, x2, x3, x4, x5, none, none]) (h := heapT_r o o9 d []) ⟨⟨x3, rfl⟩, rfl⟩ (by
      rintro pre y post ey ρ h ⟨⟨x3, rfl⟩, rfl⟩
      refine ⟨_, _, _, rfl, web_turn_r (hE y (by rw [ey]; simp)) (by have := congrArg List.length ey; rw [List.length_append] at this; omega), ⟨_, rfl⟩, rfl⟩)
  exact ⟨x3', e2⟩
theorem table_new_r {x0 x1 x2 x3 x4 x5 : Option VV} {o o9 i d : VO} : eLcR [6] (iRange1 (eBin opAdd (eC (.int 3)) (eC (.int 1)))) (bNm 6) tTrue (eLstO aNil) [x0, x1, x2, x3, x4, x5, none, none] [o, o9, i, d] = .ok (.obj 8) [o, o9, i, d, .fl [], .fl [], .fl [], .fl [], .lo [.obj 4, .obj 5, .obj 6, .obj 7]] := rfl
theorem web_init_r {fs : List (List Int)} {o o9 : VO} (hf : ∀ f ∈ fs, Pts f) (hn : fs.length ≤ 1000) (few : (parts fs).eraseDups.length ≤ 120) :
    ∃ d, F_Web_init [.obj 2, .lst (fs.map tupI)] [o, o9, .ins "Web" [] []] = .ok .non [o, o9, .ins "Web" ["table", "places"] [.obj 8, .dT ((ordE (clo fs)).map keyI) (ordV (clo fs))], d, .fzn (szL (clo fs) 1), .fzn (szL (clo fs) 2), .fzn (szL (clo fs) 3), .fzn (szL (clo fs) 4), .fzn (.lst [szL (clo fs) 1, szL (clo fs) 2, szL (clo fs) 3, szL (clo fs) 4])] := by
  obtain ⟨o3, o4, o5, e1⟩ := web_loop1_r (o := o) (o9 := o9) (i := .ins "Web" [] []) hf hn
  have wf := webf_clo hf
  have ecl : (clo fs).length = (parts fs).eraseDups.length := by unfold clo; exact (fsort_perm _).length_eq
  unfold F_Web_init B_Web_init
  walk_at "ev"
  rw [e1]
  walk_at "ev"
  simp only [len_dict_r, List.length_map, dd_len]
  walk_at "ev"
  simp only [decide_eq_false (show ¬ (120 : Int) < ((parts fs).eraseDups.length : Int) by omega), Bool.false_eq_true, if_false]
  simp only [s_seq, s_skip, thn_nx, s_fldS, table_new_r, sbd_ok, a_var, List.getElem?_cons_zero, getV_some]
  have es : ∀ d : VO, setF [o, o9, .ins "Web" [] [], d, .fl [], .fl [], .fl [], .fl [], .lo [.obj 4, .obj 5, .obj 6, .obj 7]] "Web" "table" (.obj 2) (.obj 8) = some (heapT_r o o9 d []) := fun _ => rfl
  simp only [es, onh_some, thn_nx, s_seq]
  have hd : ∀ k ∈ dd (parts fs), k ≠ [] := fun k hk => parts_pos k (mem_dd.mp hk)
  have el : cListD (heapT_r o o9 (.dT ((dd (parts fs)).map keyI) ((dd (parts fs)).map fun _ => VV.bl true)) []) [.obj 3] = some (.lst ((dd (parts fs)).map tupI)) := list_dict_r
  have ec : fsort (dd (parts fs)) = clo fs := fsort_dd _
  simp only [s_for, a_seq, a_call, a_cons, a_nil, a_var, List.getElem?_cons_succ, List.getElem?_cons_zero, getV_some, bnd_ok, el, lift_some, sorted_tups hd, seqI_lst, sbd_ok, ec]
  obtain ⟨x3', e2⟩ := web_loop2_r (o := o) (o9 := o9) (d := .dT ((dd (parts fs)).map keyI) ((dd (parts fs)).map fun _ => VV.bl true)) (E := clo fs) (x1 := some (.lst (fs.map tupI))) (x2 := some (.obj 3)) (x3 := o3) (x4 := o4) (x5 := o5) wf.face (by omega)
  rw [e2]
  simp only [thn_nx, s_fldS, a_dc2, a_seq, a_frzD, a_fld, a_var, List.getElem?_cons_zero, getV_some, bnd_ok]
  have e3 : fldR "Web" "table" (insOf (heapT_r o o9 (.dT ((dd (parts fs)).map keyI) ((dd (parts fs)).map fun _ => VV.bl true)) (clo fs)) (.obj 2)) (heapT_r o o9 (.dT ((dd (parts fs)).map keyI) ((dd (parts fs)).map fun _ => VV.bl true)) (clo fs)) = .ok (.obj 8) (heapT_r o o9 (.dT ((dd (parts fs)).map keyI) ((dd (parts fs)).map fun _ => VV.bl true)) (clo fs)) := rfl
  simp only [e3, bnd_ok, frzR_obj]
  have e4 : ∀ d : VO, frzO ((heapT_r o o9 d (clo fs))[8]?) 8 (heapT_r o o9 d (clo fs)) = .ok (.lst [szL (clo fs) 1, szL (clo fs) 2, szL (clo fs) 3, szL (clo fs) 4]) [o, o9, .ins "Web" ["table"] [.obj 8], d, .fzn (szL (clo fs) 1), .fzn (szL (clo fs) 2), .fzn (szL (clo fs) 3), .fzn (szL (clo fs) 4), .fzn (.lst [szL (clo fs) 1, szL (clo fs) 2, szL (clo fs) 3, szL (clo fs) 4])] := fun _ => rfl
  simp only [e4, bnd_ok, seqI_lst, wp, List.set_cons_zero, List.set_cons_succ]
  rw [dict_all wf.nd (by omega)]
  simp only [bnd_ok, sbd_ok, a_var, List.getElem?_cons_zero, getV_some]
  have e5 : ∀ (d v : VV) (D a b c e f : VO), setF [o, o9, .ins "Web" ["table"] [.obj 8], D, a, b, c, e, f] "Web" "places" (.obj 2) v = some [o, o9, .ins "Web" ["table", "places"] [.obj 8, v], D, a, b, c, e, f] := fun _ _ _ _ _ _ _ _ => rfl
  simp only [e5 .non, onh_some]
  refine ⟨.dT ((dd (parts fs)).map keyI) ((dd (parts fs)).map fun _ => VV.bl true), ?_⟩
  show Res.ok VV.non (trim 3 .non _) = _
  unfold trim
  rw [if_neg (by simp), if_neg (fun h => by
    have h2 := h.2
    simp [lowO, lowV] at h2)]
theorem web_make_r {fs : List (List Int)} {o o9 : VO} (ho : lowO 2 o = true) (ho9 : lowO 2 o9 = true) (hf : ∀ f ∈ fs, Pts f) (hn : fs.length ≤ 1000) (few : (parts fs).eraseDups.length ≤ 120) :
    mkZ 2 (F_Web_init [.obj 2, .lst (fs.map tupI)] [o, o9, .ins "Web" [] []]) = .ok (webV (clo fs)) [o, o9] := by
  obtain ⟨d, e⟩ := web_init_r (o := o) (o9 := o9) hf hn few
  rw [e]
  unfold mkZ
  simp only
  rw [if_pos ⟨by simp, by simp [ho, ho9]⟩]
  rfl
/-! Web() -/
theorem enum0_raw {tp : Addr} {ρ : VSt} {h : VH} {f : AF} {h1 : VH} (e : f ρ h = .ok [.raw tp] h1) : iEnum0 tp f ρ h = .ok [] h1 := by
  unfold iEnum0
  rw [e, bind_ok]
  simp only [if_true]
theorem web0_eq {tp : Addr} (o o9 : VO) (ho : lowO 2 o = true) (ho9 : lowO 2 o9 = true) : mkZ 2 (F_Web_initO tp [.obj 2, .raw tp] [o, o9, .ins "Web" [] []]) = .ok web0V [o, o9] := by
  have e0 : ∀ h : VH, iEnum0 tp (aCons (eVar 1) aNil) [some (VV.obj 2), some (VV.raw tp), some (VV.obj 3), none, none, none, none, none] h = .ok [] h := fun h => enum0_raw rfl
  unfold F_Web_initO B_Web_initO
  walk_at "ev"
  simp only [e0, sbd_ok]
  walk_at "ev"
  have e1 : ∀ (b : VV → VSt → Option VSt) (B : SF) (ρ : VSt) (h : VH), forGo b B [] ρ h = .nx ρ h := fun _ _ _ _ => rfl
  simp only [e1]
  walk_at "ev"
  have l0 : ∀ i : VO, cLenD [o, o9, i, .dT [] []] [.obj 3] = some (.int 0) := fun _ => rfl
  simp only [l0]
  walk_at "ev"
  simp only [decide_eq_false (show ¬ (120 : Int) < 0 by omega), Bool.false_eq_true, if_false]
  simp only [s_seq, s_skip, thn_nx, s_fldS, table_new_r, sbd_ok, a_var, List.getElem?_cons_zero, getV_some]
  have es : setF [o, o9, .ins "Web" [] [], .dT [] [], .fl [], .fl [], .fl [], .fl [], .lo [.obj 4, .obj 5, .obj 6, .obj 7]] "Web" "table" (.obj 2) (.obj 8) = some (heapT_r o o9 (.dT [] []) []) := rfl
  simp only [es, onh_some, thn_nx, s_seq]
  have el : cListD (heapT_r o o9 (.dT [] []) []) [.obj 3] = some (.lst (([] : List (List Int)).map tupI)) := rfl
  simp only [s_for, a_seq, a_call, a_cons, a_nil, a_var, List.getElem?_cons_succ, List.getElem?_cons_zero, getV_some, bnd_ok, el, lift_some, sorted_tups (ks := []) (fun k hk => absurd hk (List.not_mem_nil)), seqI_lst, sbd_ok]
  have ef : (fsort ([] : List (List Int))).map tupI = [] := by rw [(fsort_perm []).eq_nil]; rfl
  simp only [ef, e1, thn_nx, s_fldS, a_dc2, a_seq, a_frzD, a_fld, a_var, List.getElem?_cons_zero, getV_some, bnd_ok]
  have e3 : fldR "Web" "table" (insOf (heapT_r o o9 (.dT [] []) []) (.obj 2)) (heapT_r o o9 (.dT [] []) []) = .ok (.obj 8) (heapT_r o o9 (.dT [] []) []) := rfl
  simp only [e3, bnd_ok, frzR_obj]
  have e4 : frzO ((heapT_r o o9 (.dT [] []) [])[8]?) 8 (heapT_r o o9 (.dT [] []) []) = .ok (.lst [szL [] 1, szL [] 2, szL [] 3, szL [] 4]) [o, o9, .ins "Web" ["table"] [.obj 8], .dT [] [], .fzn (szL [] 1), .fzn (szL [] 2), .fzn (szL [] 3), .fzn (szL [] 4), .fzn (.lst [szL [] 1, szL [] 2, szL [] 3, szL [] 4])] := rfl
  simp only [e4, bnd_ok, seqI_lst, wp, List.set_cons_zero, List.set_cons_succ]
  rw [show noX (accGo (bNm 7) _ _ [szL [] 1, szL [] 2, szL [] 3, szL [] 4] _ ([], [])) = .ok ((ordE []).map keyI, ordV []) _ from rfl]
  simp only [bnd_ok, sbd_ok, a_var, List.getElem?_cons_zero, getV_some]
  have e5 : ∀ (d v : VV) (D a b c e f : VO), setF [o, o9, .ins "Web" ["table"] [.obj 8], D, a, b, c, e, f] "Web" "places" (.obj 2) v = some [o, o9, .ins "Web" ["table", "places"] [.obj 8, v], D, a, b, c, e, f] := fun _ _ _ _ _ _ _ _ => rfl
  simp only [e5 .non, onh_some]
  show mkZ 2 (.ok VV.non (trim 3 .non _)) = _
  unfold trim
  rw [if_neg (by simp), if_neg (fun h => by
    have h2 := h.2
    simp [lowO, lowV] at h2)]
  unfold mkZ
  simp only
  rw [if_pos ⟨by simp, by simp [ho, ho9]⟩]
  rfl
/-! a web's own answers -/
section
variable {E : List (List Int)} {h : VH}
theorem fld_table : fldR "Web" "table" (insOf h (webV E)) h = .ok (.lst [szL E 1, szL E 2, szL E 3, szL E 4]) h := rfl
theorem fld_places : fldR "Web" "places" (insOf h (webV E)) h = .ok (.dT ((ordE E).map keyI) (ordV E)) h := rfl
end
/-! sides -/
def sgn (i : Nat) : Int := 1 - 2 * ((i : Int) % 2)
def sidesL (f : List Int) : List (Int × List Int) := if 1 < f.length then (List.range f.length).map fun i => (sgn i, f.eraseIdx i) else []
/-! borders and rises -/
/-! sums -/
/-- a side's number in a face -/
def co (f t : List Int) : Int := ((sidesL f).map fun p => if p.2 = t then p.1 else 0).sum
/-! borders and rises by the sides' numbers -/
/-! bounds and rests -/
/-! a web's own answers -/
/-! the law's own sums -/
theorem alike_refl : ∀ (d : Nat) (v : VV) (h : VH), isD v = true → dep v < d → wide v ≤ SZ → F_law_alike d [v, v] h = .ok (.bl true) h
  | 0, v, h, _, hd, _ => by omega
  | d + 1, v, h, hv, hd, hw => by
    unfold F_law_alike B_law_alike
    have seq : ∀ xs : List VV, (∀ x ∈ xs, F_law_alike d [x, x] h = .ok (.bl true) h) → ∀ (ρ : VSt) (v : VV), lcGo (bTup 2 (bCons (bNm 2) (bCons (bNm 3) bNil))) tTrue (eFn 2 (F_law_alike d) [] (aCons (eVar 2) (aCons (eVar 3) aNil))) [some v, some v, none, none] (prs xs xs) h = .ok (List.replicate xs.length (.bl true)) h := by
      intro xs hx ρ v
      rw [prs_same]
      have := lc_const (b := bTup 2 (bCons (bNm 2) (bCons (bNm 3) bNil))) (t := tTrue) (e := eFn 2 (F_law_alike d) [] (aCons (eVar 2) (aCons (eVar 3) aNil))) (ρ := [some v, some v, none, none]) (h := h) (v := .bl true) rfl (xs := xs.map fun x => .tup [x, x]) ?_
      · rw [List.length_map] at this; exact this
      · intro x hx'
        obtain ⟨y, hy, rfl⟩ := List.mem_map.mp hx'
        refine ⟨[some v, some v, some y, some y], rfl, rfl, ?_⟩
        walk_at "ev"
        exact hx y hy
    cases v with
    | non => walk_at "eva"; rw [fin_ret rfl]
    | bl b => walk_at "eva"; rw [fin_ret rfl]
    | int b => walk_at "eva"; rw [fin_ret rfl]
    | str b => walk_at "eva"; rw [fin_ret rfl]
    | tup xs =>
      rw [isD] at hv
      rw [dep] at hd
      rw [wide] at hw
      have hx : ∀ x ∈ xs, F_law_alike d [x, x] h = .ok (.bl true) h := fun x hx => alike_refl d x h (mem_isDs hv hx) (by have := mem_deps hx; omega) (by have := mem_deps hx; omega)
      walk_at "eva"
      simp only [prs_len, if_neg (show ¬ min xs.length xs.length > SZ by omega)]
      simp only [wp, List.set_cons_zero, List.set_cons_succ, seq xs hx [] (.tup xs), afterL_ok]
      walk_at "ev"
      simp only [all_true]
      walk_at "ev"
      rw [fin_ret rfl]
    | lst xs =>
      rw [isD] at hv
      rw [dep] at hd
      rw [wide] at hw
      have hx : ∀ x ∈ xs, F_law_alike d [x, x] h = .ok (.bl true) h := fun x hx => alike_refl d x h (mem_isDs hv hx) (by have := mem_deps hx; omega) (by have := mem_deps hx; omega)
      walk_at "eva"
      simp only [prs_len, if_neg (show ¬ min xs.length xs.length > SZ by omega)]
      simp only [wp, List.set_cons_zero, List.set_cons_succ, seq xs hx [] (.lst xs), afterL_ok]
      walk_at "ev"
      simp only [all_true]
      walk_at "ev"
      rw [fin_ret rfl]
    | _ => simp [isD] at hv
/-! faces around a face, tops -/
def subB (f g : List Int) : Bool := f.all fun k => decide (k ∈ g)
theorem in_tupI {i : Int} {g : List Int} {h : VH} : opIn h (.int i) (tupI g) = some (.bl (decide (i ∈ g))) := by
  show ((intsOf (g.map VV.int)).map fun ns => decide (i ∈ ns)).map VV.bl = _
  rw [intsOf_map]; rfl
theorem all_sub {f g : List Int} {h : VH} : cAll h [.lst (f.map fun k => VV.bl (decide (k ∈ g)))] = some (.bl (subB f g)) := by
  have := all_bls (h := h) (l := f.map fun k => decide (k ∈ g))
  rw [List.map_map] at this
  rw [show (f.map fun k => VV.bl (decide (k ∈ g))) = f.map (VV.bl ∘ fun k => decide (k ∈ g)) from rfl, this, List.all_map]
  rfl
theorem within_eq {f g : List Int} {h : VH} (hl : f.length ≤ 1000) : F_within [tupI f, tupI g] h = .ok (.bl (subB f g)) h := by
  unfold F_within B_within
  walk_at "ev"
  simp only [seq_tupI]
  walk_at "ev"
  rw [if_neg (by rw [List.length_map]; show ¬ f.length > 16777216; omega)]
  simp only [wp, List.set_cons_zero, List.set_cons_succ]
  rw [lc_map (b := bNm 2) (t := tTrue) (e := le_within_1) VV.int (fun k => VV.bl (decide (k ∈ g))) (ys := f) (fun k _ => ⟨_, rfl, rfl, by walk_at "ev"; simp only [in_tupI]; walk_at "ev", rfl⟩), afterL_ok]
  walk_at "ev"
  simp only [all_sub]
  walk_at "ev"
  rw [fin_ret rfl]
/-- a filter over the table -/
theorem lc2_table {E : List (List Int)} {i j : Nat} {p : List Int → Bool} {t1 : TF} {ρ : VSt} {h : VH} (hE : E.length ≤ 1000) (hij : i ≠ j) (hi : i < ρ.length) (hj : j < ρ.length)
    (ht : ∀ (s : VV), ∀ f ∈ E, t1 ((wp (ρ.set i (some s)) [j]).set j (some (tupI f))) h = .ok (p f) h) :
    lc2Go (bNm i) tTrue (iSeq (eVar i)) (bNm j) [j] t1 (eVar j) ρ [szL E 1, szL E 2, szL E 3, szL E 4] h [] = .ok (((ordE E).filter p).map tupI) h := by
  have one : ∀ (k : Nat) (xs acc : List VV), acc.length ≤ 100000 → lc2Go (bNm i) tTrue (iSeq (eVar i)) (bNm j) [j] t1 (eVar j) ρ (szL E k :: xs) h acc = lc2Go (bNm i) tTrue (iSeq (eVar i)) (bNm j) [j] t1 (eVar j) ρ xs h (acc ++ ((sz E k).filter p).map tupI) := by
    intro k xs acc hacc
    have hsz : (sz E k).length ≤ 1000 := Nat.le_trans (sz_le E k) hE
    rw [lc2Go]
    have ei : iSeq (eVar i) (ρ.set i (some (szL E k))) h = .ok ((sz E k).map tupI) h := by
      rw [a_seq, a_var, List.getElem?_set_self hi]
      rfl
    simp only [bNm_ap, tTrue, bind_ok, if_true, ei]
    rw [if_neg (by rw [List.length_map]; show ¬ acc.length + (sz E k).length > 16777216; omega)]
    rw [lc_mapF (b := bNm j) tupI p tupI (ys := sz E k) (fun f hf => ⟨_, rfl, ht _ f (mem_sz.mp hf).1, fun _ => ⟨by rw [a_var, List.getElem?_set_self (by rw [wp_length, List.length_set]; exact hj)]; rfl, rfl⟩⟩), bind_ok]
  have hsz : ∀ k, (((sz E k).filter p).map tupI).length ≤ 1000 := fun k => by
    rw [List.length_map]
    exact Nat.le_trans (List.length_filter_le _ _) (Nat.le_trans (sz_le E k) hE)
  have s1 := hsz 1
  have s2 := hsz 2
  have s3 := hsz 3
  rw [one 1 _ _ (by simp), one 2 _ _ (by simp only [List.nil_append]; omega), one 3 _ _ (by simp only [List.nil_append, List.length_append]; omega), one 4 _ _ (by simp only [List.nil_append, List.length_append]; omega), lc2Go]
  unfold ordE
  simp only [List.nil_append, List.filter_append, List.map_append, List.append_assoc]
theorem ordE_perm {E : List (List Int)} (w : WebF E) : (ordE E).Perm E := by
  refine nodup_perm ?_ w.nd fun x => mem_ordE w.face
  unfold ordE
  have dj : ∀ a b, a ≠ b → ∀ x ∈ sz E a, ∀ y ∈ sz E b, x ≠ y := fun a b hab x hx y hy e => hab (by rw [← (mem_sz.mp hx).2, ← (mem_sz.mp hy).2, e])
  have n := fun k => sz_nodup w.nd k
  refine List.nodup_append.mpr ⟨n 1, List.nodup_append.mpr ⟨n 2, List.nodup_append.mpr ⟨n 3, n 4, dj 3 4 (by decide)⟩, fun x hx y hy => ?_⟩, fun x hx y hy => ?_⟩
  · rcases List.mem_append.mp hy with z | z
    · exact dj 2 3 (by decide) x hx y z
    · exact dj 2 4 (by decide) x hx y z
  · rcases List.mem_append.mp hy with z | z
    · exact dj 1 2 (by decide) x hx y z
    · rcases List.mem_append.mp z with z | z
      · exact dj 1 3 (by decide) x hx y z
      · exact dj 1 4 (by decide) x hx y z
theorem sort_filter {E : List (List Int)} (w : WebF E) (p : List Int → Bool) : fsort ((ordE E).filter p) = E.filter p :=
  fsort_uniq (fsort_pw _) (w.pw.sublist List.filter_sublist) ((fsort_perm _).trans ((ordE_perm w).filter p))
def arnd (E : List (List Int)) (f : List Int) : List (List Int) := E.filter (subB f)
def topsL (E : List (List Int)) : List (List Int) := E.filter fun f => decide ((arnd E f).length = 1)
section
variable {E : List (List Int)} {h : VH}
theorem mth_around {r : Res VV} : methC "Web" "around" (insOf h (webV E)) r = r := rfl
theorem mth_tops {r : Res VV} : methC "Web" "tops" (insOf h (webV E)) r = r := rfl
theorem around_eq (w : WebF E) (hE : E.length ≤ 1000) {f : List Int} (hf : f.length ≤ 1000) : F_Web_around [webV E, tupI f] h = .ok (.lst ((arnd E f).map tupI)) h := by
  unfold F_Web_around B_Web_around
  walk_at "ev"
  simp only [fld_table]
  walk_at "ev"
  simp only [wp, List.set_cons_zero, List.set_cons_succ]
  rw [lc2_table (E := E) (i := 2) (j := 3) (p := subB f) hE (by decide) (by simp) (by simp) (fun s g _ => by
    simp only [wp, List.set_cons_zero, List.set_cons_succ]
    walk_at "ev"
    simp only [within_eq hf]
    walk_at "ev"), afterL_ok]
  walk_at "ev"
  simp only [sorted_tups (ks := (ordE E).filter (subB f)) (fun k hk => (w.face k ((mem_ordE w.face).mp (List.mem_filter.mp hk).1)).pos), sort_filter w]
  walk_at "ev"
  rw [fin_ret rfl]; rfl
theorem tops_eq (w : WebF E) (hE : E.length ≤ 1000) : F_Web_tops [webV E] h = .ok (.lst ((topsL E).map tupI)) h := by
  unfold F_Web_tops B_Web_tops
  walk_at "ev"
  simp only [fld_table]
  walk_at "ev"
  simp only [wp, List.set_cons_zero, List.set_cons_succ]
  rw [lc2_table (E := E) (i := 1) (j := 2) (p := fun f => decide ((arnd E f).length = 1)) hE (by decide) (by simp) (by simp) (fun s g hg => by
    simp only [wp, List.set_cons_zero, List.set_cons_succ]
    walk_at "ev"
    simp only [mth_around]
    walk_at "ev"
    simp only [around_eq w hE (f := g) (by have := (w.face g hg).le; omega)]
    walk_at "ev"
    simp only [len_lst, List.length_map]
    walk_at "ev"
    congr 1
    exact Bool.eq_iff_iff.mpr (by simp only [decide_eq_true_eq]; omega)), afterL_ok]
  walk_at "ev"
  simp only [sorted_tups (ks := (ordE E).filter fun f => decide ((arnd E f).length = 1)) (fun k hk => (w.face k ((mem_ordE w.face).mp (List.mem_filter.mp hk).1)).pos), sort_filter w]
  walk_at "ev"
  rw [fin_ret rfl]; rfl
theorem wlen_eq (w : WebF E) : F_Web_len [webV E] h = .ok (.int (E.length : Int)) h := by
  unfold F_Web_len B_Web_len
  walk_at "ev"
  simp only [fld_places]
  walk_at "ev"
  have e : cLenD h [.dT ((ordE E).map keyI) (ordV E)] = some (.int (E.length : Int)) := by
    show some (VV.int (((ordE E).map keyI).length : Int)) = _
    rw [List.length_map, (ordE_perm w).length_eq]
  simp only [e]
  walk_at "ev"
  rw [fin_ret rfl]
end
/-! tops: each face lies in one -/
theorem tops_mem {E : List (List Int)} {f : List Int} (h : f ∈ topsL E) : f ∈ E := (List.mem_filter.mp h).1
/-! what the web does -/
theorem subs_op {f g : List Int} {ne : Bool} {h : VH} (hf : f.length ≤ 7) (hg : g ≠ []) (hl : g.length ≤ 60) : opSubs ne h (tupI f) (tupI g) = some (.bl (if ne = true then !subB f g else subB f g)) := by
  have e1 : tupN (tupI f) = some f := intsV_tupI
  have e2 : tupN (tupI g) = some g := intsV_tupI
  unfold opSubs
  rw [e1, e2]
  simp only
  have h1 := eraseDups_le f
  have h2 : 0 < g.eraseDups.length := by
    cases g with
    | nil => exact absurd rfl hg
    | cons a l => rw [List.eraseDups_cons, List.length_cons]; omega
  rw [if_pos ⟨by omega, by omega, by omega⟩]
  rfl
section
variable {E : List (List Int)} {h : VH}
theorem law_tops_eq (w : WebF E) (hE : E.length ≤ 1000) : F_law_tops [.lst (E.map tupI)] h = .ok (.lst ((topsL E).map tupI)) h := by
  unfold F_law_tops B_law_tops
  walk_at "ev"
  rw [if_neg (by rw [List.length_map]; show ¬ E.length > 16777216; omega)]
  simp only [wp, List.set_cons_zero, List.set_cons_succ]
  rw [lc_mapF (b := bNm 1) tupI (fun f => decide ((arnd E f).length = 1)) tupI (ys := E) (fun f hf => ⟨_, rfl, by
    simp only [List.set_cons_zero, List.set_cons_succ]
    walk_at "ev"
    rw [if_neg (by rw [List.length_map]; show ¬ E.length > 16777216; omega)]
    simp only [wp, List.set_cons_zero, List.set_cons_succ]
    rw [lc_mapF (b := bNm 2) tupI (subB f) tupI (ys := E) (fun g hg => ⟨_, rfl, by
      simp only [List.set_cons_zero, List.set_cons_succ]
      walk_at "ev"
      simp only [subs_op (ne := false) (f := f) (g := g) (by have := (w.face f hf).le; omega) (w.face g hg).pos (by have := (w.face g hg).le; omega)]
      walk_at "ev", fun _ => ⟨rfl, rfl⟩⟩), afterL_ok]
    walk_at "ev"
    simp only [len_lst, List.length_map]
    walk_at "ev"
    congr 1
    exact Bool.eq_iff_iff.mpr (by simp only [decide_eq_true_eq]; unfold arnd; omega), fun _ => ⟨rfl, rfl⟩⟩), afterL_ok]
  walk_at "ev"
  rw [fin_ret rfl]; rfl
end
/-! webs alike -/
def tblV (A : List (List (List Int))) : VV := .lst (A.map fun l => VV.lst (l.map tupI))
theorem isDs_tbl : ∀ A : List (List (List Int)), isDs (A.map fun l => VV.lst (l.map tupI)) = true
  | [] => rfl
  | l :: A => by rw [List.map_cons, isDs, isD, isDs_tups, isDs_tbl A]; rfl
theorem toDs_tbl : ∀ A : List (List (List Int)), toDs (A.map fun l => VV.lst (l.map tupI)) = A.map fun l => .list (l.map fun k => .tuple (k.map PyData.int))
  | [] => rfl
  | l :: A => by rw [List.map_cons, toDs, toD, toDs_tups, toDs_tbl A]; rfl
theorem canLay_tbl : ∀ A : List (List (List Int)), PyData.canLayAll0 (A.map fun l => .list (l.map fun k => .tuple (k.map PyData.int))) = true
  | [] => rfl
  | l :: A => by rw [List.map_cons, PyData.canLayAll0, PyData.canLay0, canLay_tups, canLay_tbl A]; rfl
theorem depth_tbl : ∀ A : List (List (List Int)), PyData.depthAll (A.map fun l => .list (l.map fun k => .tuple (k.map PyData.int))) ≤ 2
  | [] => Nat.zero_le _
  | l :: A => by
    rw [List.map_cons, PyData.depthAll, PyData.depth]
    have := depth_tbl A
    have := depth_tups l
    omega
theorem shaped_tbl (A : List (List (List Int))) : SeqAt.shaped (toD (tblV A)) = true := by
  unfold tblV
  rw [toD, toDs_tbl]; unfold SeqAt.shaped; rw [PyData.canLay0, canLay_tbl, PyData.depth]
  have := depth_tbl A
  rw [decide_eq_true (by omega)]; rfl
theorem eqvAll_tups : ∀ l m : List (List Int), PyData.eqvAll (l.map fun k => .tuple (k.map PyData.int)) (m.map fun k => .tuple (k.map PyData.int)) = decide (l = m)
  | [], [] => by simp [PyData.eqvAll]
  | [], _ :: _ => by simp [PyData.eqvAll]
  | _ :: _, [] => by simp [PyData.eqvAll]
  | k :: l, k' :: m => by rw [List.map_cons, List.map_cons, PyData.eqvAll, eqv_tups, eqvAll_tups l m]; simp
theorem eqvAll_tbl : ∀ A B : List (List (List Int)), PyData.eqvAll (A.map fun l => .list (l.map fun k => .tuple (k.map PyData.int))) (B.map fun l => .list (l.map fun k => .tuple (k.map PyData.int))) = decide (A = B)
  | [], [] => by simp [PyData.eqvAll]
  | [], _ :: _ => by simp [PyData.eqvAll]
  | _ :: _, [] => by simp [PyData.eqvAll]
  | k :: l, k' :: m => by rw [List.map_cons, List.map_cons, PyData.eqvAll, PyData.eqv, eqvAll_tups, eqvAll_tbl l m]; simp
theorem eq_tbl {h : VH} {A B : List (List (List Int))} : opEq h (tblV A) (tblV B) = some (.bl (decide (A = B))) := by
  show (eqD _ _).map VV.bl = _
  unfold eqD
  have s1 := shaped_tbl A
  have s2 := shaped_tbl B
  unfold tblV at s1 s2 ⊢
  simp only [isD, isDs_tbl, s1, s2, and_self, if_true]
  rw [toD, toD, toDs_tbl, toDs_tbl, PyData.eqv, eqvAll_tbl]; rfl
def tbl (E : List (List Int)) : List (List (List Int)) := [sz E 1, sz E 2, sz E 3, sz E 4]
theorem tbl_inj {E F : List (List Int)} (w : WebF E) (v : WebF F) (e : tbl E = tbl F) : E = F := by
  have eo : ordE E = ordE F := by
    unfold tbl at e
    simp only [List.cons.injEq, and_true] at e
    obtain ⟨e1, e2, e3, e4⟩ := e
    unfold ordE
    rw [e1, e2, e3, e4]
  refine fsort_uniq w.pw v.pw ?_
  exact (ordE_perm w).symm.trans (by rw [eo]; exact ordE_perm v)
theorem web_eq {E F : List (List Int)} {h : VH} (w : WebF E) (v : WebF F) : F_Web_eq [webV E, webV F] h = .ok (.bl (decide (E = F))) h := by
  have e : opEq h (.lst [szL E 1, szL E 2, szL E 3, szL E 4]) (.lst [szL F 1, szL F 2, szL F 3, szL F 4]) = some (.bl (decide (E = F))) := by
    have z := eq_tbl (h := h) (A := tbl E) (B := tbl F)
    have d : decide (tbl E = tbl F) = decide (E = F) := Bool.eq_iff_iff.mpr (by
      rw [decide_eq_true_eq, decide_eq_true_eq]
      exact ⟨tbl_inj w v, fun e => by rw [e]⟩)
    rw [d] at z
    exact z
  have i1 : (isiK h "Web" [] (webV F)).map VV.bl = some (.bl true) := isi_same (a := ("Web", ["table", "places"], [.lst [szL F 1, szL F 2, szL F 3, szL F 4], .dT ((ordE F).map keyI) (ordV F)])) rfl rfl
  unfold F_Web_eq B_Web_eq
  walk_at "ev"
  simp only [i1]
  walk_at "ev"
  simp only [fld_table]
  walk_at "ev"
  simp only [fld_table]
  walk_at "ev"
  simp only [e]
  walk_at "ev"
  rw [fin_ret rfl]
theorem own_eq {E F : List (List Int)} {h : VH} {ne : Bool} (w : WebF E) (v : WebF F) : ownR ne "Web" F_Web_eq (webV E) (webV F) h = .ok (.bl (if ne = true then !decide (E = F) else decide (E = F))) h :=
  own_of (a := ("Web", ["table", "places"], [.lst [szL E 1, szL E 2, szL E 3, szL E 4], .dT ((ordE E).map keyI) (ordV E)])) (b := ("Web", ["table", "places"], [.lst [szL F 1, szL F 2, szL F 3, szL F 4], .dT ((ordE F).map keyI) (ordV F)])) rfl rfl rfl rfl (web_eq w v)
theorem own_len {E : List (List Int)} {h : VH} (w : WebF E) (hE : E.length ≤ 1000) : lenR "Web" F_Web_len (webV E) h = .ok (.int (E.length : Int)) h :=
  lenR_of (a := ("Web", ["table", "places"], [.lst [szL E 1, szL E 2, szL E 3, szL E 4], .dT ((ordE E).map keyI) (ordV E)])) rfl rfl (wlen_eq w) (by omega) (by omega)
/-! .. -/
local macro_rules | `(tactic| walk_at "ev") => `(tactic| try simp only [fn_ap, a_txt, a_join, jnR_str, a_joined, jd_cons, jd_nil, a_fmtL, a_ownNeL, List.map_cons, List.map_nil, List.length_cons, List.length_nil, List.cons_append, List.nil_append, List.append_nil, Nat.reduceAdd, Nat.reduceSub, Nat.zero_add, List.replicate_succ, List.replicate_zero, s_seq, s_set, s_asg, s_if, s_ret, s_expr, s_for, s_skip, s_par, s_par3, s_setI, thn_nx, thn_ret, thn_no, thn_brk, thn_cnt, thn_exc, a_var, a_c, a_bin, a_un, a_call, a_nil, a_cons, a_tup, a_lst, a_lstO, a_val, a_tand, a_tor, a_tnot, a_if, a_and, a_or, a_not, a_chain, a_fn, a_lc', a_seq, a_range1, a_zip, a_sl, a_onone, a_osome, bnd_ok, bnd_no, bnd_exc, sbd_ok, sbd_no, sbd_exc, getV_some, toB_bl, toO_int, lift_some, lift_none, seqI_lst, seqI_scr, seqI_tup, seqI_str, rng1_int, zip_lst, zip_tup, onx_some, onh_some, List.getElem?_cons_zero, List.getElem?_cons_succ, List.set_cons_zero, List.set_cons_succ, o_sub, o_add, o_lt, o_le, o_gt, o_ge, o_neg, o_eqI, o_neI, o_eqB, o_neB, o_eqS, if_true, if_false, ite_true, ite_false, decide_true, decide_false, Bool.false_eq_true, Bool.true_eq_false, reduceIte, Bool.not_true, Bool.not_false, a_frzD, frzR_obj, frzO_fl, frzO_fzn, frzR_lst, frzR_tup, frzR_int, a_newO, newO_some, lList_lst, lList_tup, a_listRngO, lrO_int, a_repO, repO_lst, chkL_some, lstOf_obj, lstO_fl, lstO_fzn, lstR_obj, lstRO_fl, lstRO_lo, lstRO_fzn, a_pop, popR_obj, a_app, appV_obj, enumI_lst, a_enum, s_augI, augV_obj, augO_int, s_setD, a_dnew, a_fld, insOf_obj, insO_ins, insOf_ins, a_meth, noX_ok, a_make, s_fldS, setF_obj, a_aApp, afterR_ok, a_lcR, a_lenSc, a_dc2, bNm_ap, obd_some, trn_nx, a_knew, s_setK, a_keysK, keysI_dK, a_dc1, a_sortSc, a_ins, a_lc2, frzO_dK, frzR_dK, a_lcP, lcP_some, rootL_obj, rootO_fl, a_dictZip, s_setApp, s_raise0, a_own, a_lenOwn, a_isiC, a_items, a_methX, a_makeX, fin_exc, a_listRng, lrD_int, a_dictD, dcp_dK, a_valsD, valsD_dT, a_dictZipT, a_valsD, valsD_dT, a_maxD, a_lc3, a_dc1T])
local macro_rules | `(tactic| walk_at "evd") => `(tactic| try simp (disch := first | decide | omega) only [o_mod, o_fdiv, o_pow, o_mul_r, o_mul_l, fn_ap, a_txt, a_join, jnR_str, a_joined, jd_cons, jd_nil, a_fmtL, a_ownNeL, List.map_cons, List.map_nil, List.length_cons, List.length_nil, List.cons_append, List.nil_append, List.append_nil, Nat.reduceAdd, Nat.reduceSub, Nat.zero_add, List.replicate_succ, List.replicate_zero, s_seq, s_set, s_asg, s_if, s_ret, s_expr, s_for, s_skip, s_par, s_par3, s_setI, thn_nx, thn_ret, thn_no, thn_brk, thn_cnt, thn_exc, a_var, a_c, a_bin, a_un, a_call, a_nil, a_cons, a_tup, a_lst, a_lstO, a_val, a_tand, a_tor, a_tnot, a_if, a_and, a_or, a_not, a_chain, a_fn, a_lc', a_seq, a_range1, a_zip, a_sl, a_onone, a_osome, bnd_ok, bnd_no, bnd_exc, sbd_ok, sbd_no, sbd_exc, getV_some, toB_bl, toO_int, lift_some, lift_none, seqI_lst, seqI_scr, seqI_tup, seqI_str, rng1_int, zip_lst, zip_tup, onx_some, onh_some, List.getElem?_cons_zero, List.getElem?_cons_succ, List.set_cons_zero, List.set_cons_succ, o_sub, o_add, o_lt, o_le, o_gt, o_ge, o_neg, o_eqI, o_neI, o_eqB, o_neB, o_eqS, if_true, if_false, ite_true, ite_false, decide_true, decide_false, Bool.false_eq_true, Bool.true_eq_false, reduceIte, Bool.not_true, Bool.not_false, a_frzD, frzR_obj, frzO_fl, frzO_fzn, frzR_lst, frzR_tup, frzR_int, a_newO, newO_some, lList_lst, lList_tup, a_listRngO, lrO_int, a_repO, repO_lst, chkL_some, lstOf_obj, lstO_fl, lstO_fzn, lstR_obj, lstRO_fl, lstRO_lo, lstRO_fzn, a_pop, popR_obj, a_app, appV_obj, enumI_lst, a_enum, s_augI, augV_obj, augO_int, s_setD, a_dnew, a_fld, insOf_obj, insO_ins, insOf_ins, a_meth, noX_ok, a_make, s_fldS, setF_obj, a_aApp, afterR_ok, a_lcR, a_lenSc, a_dc2, bNm_ap, obd_some, trn_nx, a_knew, s_setK, a_keysK, keysI_dK, a_dc1, a_sortSc, a_ins, a_lc2, frzO_dK, frzR_dK, a_lcP, lcP_some, rootL_obj, rootO_fl, a_dictZip, s_setApp, s_raise0, a_own, a_lenOwn, a_isiC, a_items, a_methX, a_makeX, fin_exc, a_listRng, lrD_int, a_dictD, dcp_dK, a_valsD, valsD_dT, a_dictZipT, a_valsD, valsD_dT, a_maxD, a_lc3, a_dc1T])
local macro_rules | `(tactic| walk_at "eva") => `(tactic| try simp only [fn_ap, a_txt, a_join, jnR_str, a_joined, jd_cons, jd_nil, a_fmtL, a_ownNeL, List.map_cons, List.map_nil, List.length_cons, List.length_nil, List.cons_append, List.nil_append, List.append_nil, Nat.reduceAdd, Nat.reduceSub, Nat.zero_add, List.replicate_succ, List.replicate_zero, s_seq, s_set, s_asg, s_if, s_ret, s_expr, s_for, s_skip, s_par, s_par3, s_setI, thn_nx, thn_ret, thn_no, thn_brk, thn_cnt, thn_exc, a_var, a_c, a_bin, a_un, a_call, a_nil, a_cons, a_tup, a_lst, a_lstO, a_val, a_tand, a_tor, a_tnot, a_if, a_and, a_or, a_not, a_chain, a_fn, a_lc', a_seq, a_range1, a_zip, a_sl, a_onone, a_osome, bnd_ok, bnd_no, bnd_exc, sbd_ok, sbd_no, sbd_exc, getV_some, toB_bl, toO_int, lift_some, lift_none, seqI_lst, seqI_scr, seqI_tup, seqI_str, rng1_int, zip_lst, zip_tup, onx_some, onh_some, List.getElem?_cons_zero, List.getElem?_cons_succ, List.set_cons_zero, List.set_cons_succ, o_sub, o_add, o_lt, o_le, o_gt, o_ge, o_neg, o_eqI, o_neI, o_eqB, o_neB, o_eqS, if_true, if_false, ite_true, ite_false, decide_true, decide_false, Bool.false_eq_true, Bool.true_eq_false, reduceIte, Bool.not_true, Bool.not_false, a_frzD, frzR_obj, frzO_fl, frzO_fzn, frzR_lst, frzR_tup, frzR_int, a_newO, newO_some, lList_lst, lList_tup, a_listRngO, lrO_int, a_repO, repO_lst, chkL_some, lstOf_obj, lstO_fl, lstO_fzn, lstR_obj, lstRO_fl, lstRO_lo, lstRO_fzn, a_pop, popR_obj, a_app, appV_obj, enumI_lst, a_enum, s_augI, augV_obj, augO_int, s_setD, a_dnew, a_fld, insOf_obj, insO_ins, insOf_ins, a_meth, noX_ok, a_make, s_fldS, setF_obj, a_aApp, afterR_ok, a_lcR, a_lenSc, a_dc2, bNm_ap, obd_some, trn_nx, a_knew, s_setK, a_keysK, keysI_dK, a_dc1, a_sortSc, a_ins, a_lc2, frzO_dK, frzR_dK, a_lcP, lcP_some, rootL_obj, rootO_fl, a_dictZip, s_setApp, s_raise0, a_own, a_lenOwn, a_isiC, a_items, a_methX, a_makeX, fin_exc, a_listRng, lrD_int, a_dictD, dcp_dK, a_valsD, valsD_dT, a_dictZipT, a_valsD, valsD_dT, a_maxD, a_lc3, a_dc1T, a_dcP, dcS_some, seqP_lst, a_rev, revR_lst, a_clr, clrR_obj, clrO_fl, a_ownD, isi_NoneType_list, isi_NoneType_tuple, isi_NoneType_bool, isi_NoneType_int, isi_NoneType_str, isi_bool_list, isi_bool_tuple, isi_bool_bool, isi_bool_int, isi_bool_str, isi_int_list, isi_int_tuple, isi_int_bool, isi_int_int, isi_int_str, isi_str_list, isi_str_tuple, isi_str_bool, isi_str_int, isi_str_str, isi_tuple_list, isi_tuple_tuple, isi_tuple_bool, isi_tuple_int, isi_tuple_str, isi_list_list, isi_list_tuple, isi_list_bool, isi_list_int, isi_list_str, opIsN, opNotN, VV.isObj, len_lst, len_tup, list_lst, list_tup, tuple_lst, x_lst, x_tup])
local macro_rules | `(tactic| walk_at "evad") => `(tactic| try simp (disch := first | decide | omega) only [o_mod, o_fdiv, o_pow, o_mul_r, o_mul_l, fn_ap, a_txt, a_join, jnR_str, a_joined, jd_cons, jd_nil, a_fmtL, a_ownNeL, List.map_cons, List.map_nil, List.length_cons, List.length_nil, List.cons_append, List.nil_append, List.append_nil, Nat.reduceAdd, Nat.reduceSub, Nat.zero_add, List.replicate_succ, List.replicate_zero, s_seq, s_set, s_asg, s_if, s_ret, s_expr, s_for, s_skip, s_par, s_par3, s_setI, thn_nx, thn_ret, thn_no, thn_brk, thn_cnt, thn_exc, a_var, a_c, a_bin, a_un, a_call, a_nil, a_cons, a_tup, a_lst, a_lstO, a_val, a_tand, a_tor, a_tnot, a_if, a_and, a_or, a_not, a_chain, a_fn, a_lc', a_seq, a_range1, a_zip, a_sl, a_onone, a_osome, bnd_ok, bnd_no, bnd_exc, sbd_ok, sbd_no, sbd_exc, getV_some, toB_bl, toO_int, lift_some, lift_none, seqI_lst, seqI_scr, seqI_tup, seqI_str, rng1_int, zip_lst, zip_tup, onx_some, onh_some, List.getElem?_cons_zero, List.getElem?_cons_succ, List.set_cons_zero, List.set_cons_succ, o_sub, o_add, o_lt, o_le, o_gt, o_ge, o_neg, o_eqI, o_neI, o_eqB, o_neB, o_eqS, if_true, if_false, ite_true, ite_false, decide_true, decide_false, Bool.false_eq_true, Bool.true_eq_false, reduceIte, Bool.not_true, Bool.not_false, a_frzD, frzR_obj, frzO_fl, frzO_fzn, frzR_lst, frzR_tup, frzR_int, a_newO, newO_some, lList_lst, lList_tup, a_listRngO, lrO_int, a_repO, repO_lst, chkL_some, lstOf_obj, lstO_fl, lstO_fzn, lstR_obj, lstRO_fl, lstRO_lo, lstRO_fzn, a_pop, popR_obj, a_app, appV_obj, enumI_lst, a_enum, s_augI, augV_obj, augO_int, s_setD, a_dnew, a_fld, insOf_obj, insO_ins, insOf_ins, a_meth, noX_ok, a_make, s_fldS, setF_obj, a_aApp, afterR_ok, a_lcR, a_lenSc, a_dc2, bNm_ap, obd_some, trn_nx, a_knew, s_setK, a_keysK, keysI_dK, a_dc1, a_sortSc, a_ins, a_lc2, frzO_dK, frzR_dK, a_lcP, lcP_some, rootL_obj, rootO_fl, a_dictZip, s_setApp, s_raise0, a_own, a_lenOwn, a_isiC, a_items, a_methX, a_makeX, fin_exc, a_listRng, lrD_int, a_dictD, dcp_dK, a_valsD, valsD_dT, a_dictZipT, a_valsD, valsD_dT, a_maxD, a_lc3, a_dc1T, a_dcP, dcS_some, seqP_lst, a_rev, revR_lst, a_clr, clrR_obj, clrO_fl, a_ownD, isi_NoneType_list, isi_NoneType_tuple, isi_NoneType_bool, isi_NoneType_int, isi_NoneType_str, isi_bool_list, isi_bool_tuple, isi_bool_bool, isi_bool_int, isi_bool_str, isi_int_list, isi_int_tuple, isi_int_bool, isi_int_int, isi_int_str, isi_str_list, isi_str_tuple, isi_str_bool, isi_str_int, isi_str_str, isi_tuple_list, isi_tuple_tuple, isi_tuple_bool, isi_tuple_int, isi_tuple_str, isi_list_list, isi_list_tuple, isi_list_bool, isi_list_int, isi_list_str, opIsN, opNotN, VV.isObj, len_lst, len_tup, list_lst, list_tup, tuple_lst, x_lst, x_tup])
/-! texts of faces -/
theorem pt_small {i : Int} (h0 : 0 ≤ i) (h1 : i ≤ 15) : i.natAbs < 1000000 ∧ i.natAbs.log2 < 1920 ∧ ((toString i : Str)).length ≤ 2 := by
  have : i = 0 ∨ i = 1 ∨ i = 2 ∨ i = 3 ∨ i = 4 ∨ i = 5 ∨ i = 6 ∨ i = 7 ∨ i = 8 ∨ i = 9 ∨ i = 10 ∨ i = 11 ∨ i = 12 ∨ i = 13 ∨ i = 14 ∨ i = 15 := by omega
  rcases this with rfl | rfl | rfl | rfl | rfl | rfl | rfl | rfl | rfl | rfl | rfl | rfl | rfl | rfl | rfl | rfl <;> exact ⟨by decide +kernel, by decide +kernel, by decide +kernel⟩
def dots (f : List Int) : Str := Txt.join "." (f.map fun i => (toString i : Str))
theorem sum_len_le {n : Nat} : ∀ (ts : List Str), (∀ t ∈ ts, t.length ≤ n) → (ts.map (·.length)).sum ≤ ts.length * n
  | [], _ => Nat.zero_le _
  | t :: ts, h => by
    have h1 := h t List.mem_cons_self
    have h2 := sum_len_le ts fun t ht => h t (List.mem_cons_of_mem _ ht)
    rw [List.map_cons, List.sum_cons, List.length_cons, Nat.succ_mul]
    omega
theorem join_le {a : Str} {ts : List Str} {n : Nat} (h : ∀ t ∈ ts, t.length ≤ n) : (Txt.join a ts).length ≤ ts.length * n + ts.length * a.length := by
  rw [TL.join_eq]
  have := PySem.StrLaws.join_length_le a ts
  have := sum_len_le ts h
  omega
theorem pts_strs {f : List Int} (hf : Pts f) : ∀ t ∈ f.map (fun i => (toString i : Str)), t.length ≤ 2 := by
  intro t ht
  obtain ⟨i, hi, rfl⟩ := List.mem_map.mp ht
  exact (pt_small (hf.rng i hi).1 (hf.rng i hi).2).2.2
theorem dots_le {f : List Int} (hf : Pts f) : (dots f).length ≤ 12 := by
  have h := join_le (a := ".") (pts_strs hf)
  rw [List.length_map] at h
  have := hf.le
  have e : (("." : Str)).length = 1 := by decide +kernel
  rw [e] at h
  unfold dots
  omega
/-- the text of tops -/
def topsT (T : List (List Int)) : Str := Txt.join " " (T.map dots)
theorem join_dots {f : List Int} {h : VH} (hf : Pts f) : joinR "." (.lst (f.map fun i => VV.str (toString i))) h = .ok (.str (dots f)) h := by
  have e : f.map (fun i => VV.str (toString i)) = (f.map fun i => (toString i : Str)).map VV.str := by rw [List.map_map]; rfl
  rw [e]
  refine joinR_lst ?_
  have := sum_len_le _ (pts_strs hf)
  have e : (("." : Str)).length = 1 := by decide +kernel
  rw [List.length_map] at this
  rw [List.length_map, e]
  have := hf.le
  omega
theorem join_tops {T : List (List Int)} {h : VH} (hT : ∀ f ∈ T, Pts f) (hl : T.length ≤ 1000) : joinR " " (.lst (T.map fun f => VV.str (dots f))) h = .ok (.str (topsT T)) h := by
  have e : T.map (fun f => VV.str (dots f)) = (T.map dots).map VV.str := by rw [List.map_map]; rfl
  rw [e]
  refine joinR_lst ?_
  have := sum_len_le (n := 12) (T.map dots) fun t ht => by
    obtain ⟨f, hf, rfl⟩ := List.mem_map.mp ht
    exact dots_le (hT f hf)
  have e : ((" " : Str)).length = 1 := by decide +kernel
  rw [List.length_map] at this
  rw [List.length_map, e]
  omega
/-! the list as text -/
theorem smI_ints : ∀ {f : List Int}, (∀ x ∈ f, 0 ≤ x ∧ x ≤ 15) → smI (f.map VV.int) = some f
  | [], _ => rfl
  | i :: f, h => by
    have hi := h i List.mem_cons_self
    rw [List.map_cons, smI, if_pos (pt_small hi.1 hi.2).1, smI_ints fun x hx => h x (List.mem_cons_of_mem _ hx)]
    rfl
theorem smF_tups : ∀ {T : List (List Int)}, (∀ f ∈ T, Pts f) → smF (T.map tupI) = some T
  | [], _ => rfl
  | f :: T, h => by
    have e := smF_tups fun g hg => h g (List.mem_cons_of_mem _ hg)
    rw [List.map_cons]
    show (smI (f.map VV.int)).bind _ = _
    rw [smI_ints (h f List.mem_cons_self).rng]
    show (smF (T.map tupI)).map _ = _
    rw [e]; rfl
theorem shown_ints : ∀ {f : List Int}, (∀ x ∈ f, 0 ≤ x ∧ x ≤ 15) → ∀ t ∈ PyData.shownAll (pdI f), t.length ≤ 2
  | [], _, t, ht => by cases ht
  | i :: f, h, t, ht => by
    have hi := h i List.mem_cons_self
    rcases List.mem_cons.mp (show t ∈ PyData.shown (.int i) :: PyData.shownAll (pdI f) from ht) with rfl | ht
    · exact (pt_small hi.1 hi.2).2.2
    · exact shown_ints (fun x hx => h x (List.mem_cons_of_mem _ hx)) t ht
theorem shown_len : ∀ f : List Int, (PyData.shownAll (pdI f)).length = f.length
  | [] => rfl
  | i :: f => congrArg (· + 1) (shown_len f)
theorem shown_lenF : ∀ f : List (List Int), (PyData.shownAll (pdF f)).length = f.length
  | [] => rfl
  | i :: f => congrArg (· + 1) (shown_lenF f)
theorem shown_face {f : List Int} (hf : Pts f) : (PyData.shown (.tuple (pdI f))).length ≤ 19 := by
  have h1 := tupleText_len_le (PyData.shownAll (pdI f))
  have h2 := sum_len_le _ (shown_ints hf.rng)
  rw [shown_len] at h1 h2
  have := hf.le
  show (tupleText (PyData.shownAll (pdI f))).length ≤ 19
  omega
theorem shown_faces : ∀ {T : List (List Int)}, (∀ f ∈ T, Pts f) → ∀ t ∈ PyData.shownAll (pdF T), t.length ≤ 19
  | [], _, t, ht => by cases ht
  | f :: T, h, t, ht => by
    rcases List.mem_cons.mp (show t ∈ PyData.shown (.tuple (pdI f)) :: PyData.shownAll (pdF T) from ht) with rfl | ht
    · exact shown_face (h f List.mem_cons_self)
    · exact shown_faces (fun g hg => h g (List.mem_cons_of_mem _ hg)) t ht
theorem txF_le {T : List (List Int)} (h : ∀ f ∈ T, Pts f) (hl : T.length ≤ 1000) : (txF T).length ≤ 21003 := by
  have h1 := listText_len_le (PyData.shownAll (pdF T))
  have h2 := sum_len_le _ (shown_faces h)
  rw [shown_lenF] at h1 h2
  show (listText (PyData.shownAll (pdF T))).length ≤ _
  omega
theorem lstTx_tups {T : List (List Int)} {h : VH} (hT : ∀ f ∈ T, Pts f) (hl : T.length ≤ 1000) : lstTx h (.lst (T.map tupI)) = some (txF T) := by
  unfold lstTx
  show (smF (T.map tupI)).bind _ = _
  rw [smF_tups hT]
  show (if (txF T).length ≤ SZ then some (txF T) else none) = _
  rw [if_pos (by have := txF_le hT hl; show _ ≤ 16777216; omega)]
/-! str and repr of a web -/
def strW (E : List (List Int)) : Str := if E = [] then "none" else topsT (topsL E)
section
variable {E : List (List Int)} {h : VH}
theorem tops_pts (w : WebF E) : ∀ f ∈ topsL E, Pts f := fun f hf => (w.face f (tops_mem hf)).pts
theorem tops_len : (topsL E).length ≤ E.length := List.length_filter_le ..
theorem len_places (w : WebF E) : cLenD h [.dT ((ordE E).map keyI) (ordV E)] = some (.int (E.length : Int)) := by
  show some (VV.int (((ordE E).map keyI).length : Int)) = _
  rw [List.length_map, (ordE_perm w).length_eq]
theorem str_point {i : Int} (h0 : 0 ≤ i) (h1 : i ≤ 15) : cStr h [.int i] = some (.str (toString i)) := str_int (pt_small h0 h1).2.1
theorem web_str_eq (w : WebF E) (hE : E.length ≤ 120) : F_Web_str [webV E] h = .ok (.str (strW E)) h := by
  obtain ⟨n, hn⟩ : ∃ n : Int, (E.length : Int) = n := ⟨_, rfl⟩
  unfold F_Web_str B_Web_str
  walk_at "ev"
  simp only [fld_places]
  walk_at "ev"
  simp only [len_places w, hn]
  walk_at "ev"
  by_cases c : n = 0
  · have e : E = [] := List.length_eq_zero_iff.mp (by omega)
    simp only [decide_eq_true c, if_true]
    walk_at "ev"
    rw [fin_ret rfl]
    unfold strW
    rw [if_pos e]
  · have e : E ≠ [] := fun z => c (by rw [← hn, z]; rfl)
    simp only [decide_eq_false c, Bool.false_eq_true, if_false]
    walk_at "ev"
    simp only [mth_tops]
    walk_at "ev"
    simp only [tops_eq w (by omega)]
    walk_at "ev"
    have tl := tops_len (E := E)
    rw [if_neg (by rw [List.length_map]; show ¬ (topsL E).length > 16777216; omega)]
    simp only [wp, List.set_cons_zero, List.set_cons_succ]
    rw [lc_map (b := bNm 1) (t := tTrue) (e := le_Web_str_2) tupI (fun f => VV.str (dots f)) (ys := topsL E) (fun f hf => ⟨_, rfl, rfl, by
      have pf := tops_pts w f hf
      have := pf.le
      simp only [List.set_cons_zero, List.set_cons_succ]
      walk_at "ev"
      simp only [seq_tupI]
      walk_at "ev"
      rw [if_neg (by rw [List.length_map]; show ¬ f.length > 16777216; omega)]
      simp only [wp, List.set_cons_zero, List.set_cons_succ]
      rw [lc_map (b := bNm 2) (t := tTrue) (e := le_Web_str_1) VV.int (fun i => VV.str (toString i)) (ys := f) (fun i hi => ⟨_, rfl, rfl, by
        simp only [List.set_cons_zero, List.set_cons_succ]
        walk_at "ev"
        simp only [str_point (pf.rng i hi).1 (pf.rng i hi).2]
        walk_at "ev", rfl⟩), afterL_ok]
      walk_at "ev"
      exact join_dots pf, rfl⟩), afterL_ok]
    walk_at "ev"
    rw [join_tops (tops_pts w) (by omega)]
    walk_at "ev"
    rw [fin_ret rfl]
    unfold strW
    rw [if_neg e]
theorem web_repr_eq (w : WebF E) (hE : E.length ≤ 120) : F_Web_repr [webV E] h = .ok (.str ("Web(" ++ txF (topsL E) ++ ")")) h := by
  have tl := tops_len (E := E)
  have hz := txF_le (tops_pts w) (by omega)
  have c0 : (Str.empty ++ ("Web(" : Str)) = ("Web(" : Str) := by decide +kernel
  have l1 : (("Web(" : Str)).length = 4 := by decide +kernel
  have l2 : ((")" : Str)).length = 1 := by decide +kernel
  unfold F_Web_repr B_Web_repr
  walk_at "ev"
  rw [catR_str (by decide +kernel), c0]
  walk_at "ev"
  simp only [mth_tops]
  walk_at "ev"
  simp only [tops_eq w (by omega)]
  walk_at "ev"
  have ef : fmtLR (.lst ((topsL E).map tupI)) h = .ok (.str (txF (topsL E))) h := by
    unfold fmtLR
    rw [lstTx_tups (tops_pts w) (by omega)]
  simp only [ef]
  walk_at "ev"
  rw [catR_str (by rw [strLen_append, l1]; show _ ≤ 16777216; omega)]
  walk_at "ev"
  rw [catR_str (by rw [strLen_append, strLen_append, l1, l2]; show _ ≤ 16777216; omega)]
  walk_at "ev"
  rw [fin_ret rfl]
theorem txR_of {cn : Str} {F : FF} {v : VV} {a : Str × List Str × List VV} {t : Str} (ea : insOf h v = some a) (ca : a.1 = cn) (er : F [v] h = .ok (.str t) h) : txR cn F v h = .ok (.str t) h := by
  unfold txR
  rw [ea]
  simp only
  rw [if_pos ca, er]
  rfl
theorem txt_str (w : WebF E) (hE : E.length ≤ 120) : txR "Web" F_Web_str (webV E) h = .ok (.str (strW E)) h := txR_of rfl rfl (web_str_eq w hE)
theorem txt_repr (w : WebF E) (hE : E.length ≤ 120) : txR "Web" F_Web_repr (webV E) h = .ok (.str ("Web(" ++ txF (topsL E) ++ ")")) h := txR_of rfl rfl (web_repr_eq w hE)
end
/-! the law's turn -/
theorem ne_tups {h : VH} {l m : List (List Int)} : opNe h (.lst (l.map tupI)) (.lst (m.map tupI)) = some (.bl (!decide (l = m))) := by
  have e : opEq h (.lst (l.map tupI)) (.lst (m.map tupI)) = some (.bl (decide (l = m))) := eq_tups
  have e2 : (eqD (.lst (l.map tupI)) (.lst (m.map tupI))).map VV.bl = some (.bl (decide (l = m))) := e
  obtain ⟨b, e3, e4⟩ := Option.map_eq_some_iff.mp e2
  cases e4
  show (eqD _ _).map _ = _
  rw [e3]; rfl
theorem alike_str {t : Str} {h : VH} : F_law_alike 4 [.str t, .str t] h = .ok (.bl true) h := alike_refl 4 _ h rfl (by simp [dep]) (by simp [wide])
theorem str_tops {T : List (List Int)} {h : VH} (hT : ∀ f ∈ T, Pts f) (hl : T.length ≤ 1000) : cStrL h [.lst (T.map tupI)] = some (.str (txF T)) := by
  show (lstTx h (.lst (T.map tupI))).map VV.str = _
  rw [lstTx_tups hT hl]; rfl
theorem law_lc {T : List (List Int)} {h : VH} {x0 x1 x2 x3 x4 x5 x6 x7 x8 x9 x10 x11 : Option VV} (hT : ∀ f ∈ T, Pts f) :
    lcGo (bNm 10) tTrue le_law_2 [x0, x1, x2, x3, x4, x5, x6, x7, x8, x9, x10, x11] (T.map tupI) h = .ok (T.map fun f => VV.str (dots f)) h :=
  lc_map (b := bNm 10) (t := tTrue) (e := le_law_2) tupI (fun f => VV.str (dots f)) (ys := T) (fun f hf => ⟨_, rfl, rfl, by
    have pf := hT f hf
    have := pf.le
    simp only [List.set_cons_zero, List.set_cons_succ]
    walk_at "ev"
    simp only [seq_tupI]
    walk_at "ev"
    rw [if_neg (by rw [List.length_map]; show ¬ f.length > 16777216; omega)]
    simp only [wp, List.set_cons_zero, List.set_cons_succ]
    rw [lc_map (b := bNm 11) (t := tTrue) (e := le_law_1) VV.int (fun i => VV.str (toString i)) (ys := f) (fun i hi => ⟨_, rfl, rfl, by
      simp only [List.set_cons_zero, List.set_cons_succ]
      walk_at "ev"
      simp only [str_point (pf.rng i hi).1 (pf.rng i hi).2]
      walk_at "ev", rfl⟩), afterL_ok]
    walk_at "ev"
    exact join_dots pf, rfl⟩)
theorem turn11 {E fs : List (List Int)} {o o9 : VO} {x0 x2 x4 x7 x8 x9 x10 x11 : Option VV} (w : WebF E) (ho : lowO 2 o = true) (ho9 : lowO 2 o9 = true) (hf : ∀ f ∈ fs, Pts f) (hn : fs.length ≤ 1000) (few : (parts fs).eraseDups.length ≤ 120) :
    lb_law_1 [x0, some (.obj 0), x2, some (.lst (E.map tupI)), x4, some (webV E), some (.lst (fs.map tupI)), x7, x8, x9, x10, x11] [o, o9] =
      .nx [x0, some (.obj 0), some (.lst ((topsL (clo fs)).map tupI)), some (.lst (E.map tupI)), x4, some (webV E), some (.lst (fs.map tupI)), some (.lst ((clo fs).map tupI)), some (webV (clo fs)), some (.str (topsT (topsL (clo fs)))), x10, x11] [o, o9] := by
  have v := webf_clo hf
  have ecl : (clo fs).length = (parts fs).eraseDups.length := (fsort_perm _).length_eq
  have ew := web_make_r ho ho9 hf hn few
  have ec : ∀ h, F_law_closed [.lst (fs.map tupI)] h = .ok (.lst ((clo fs).map tupI)) h := fun h => closed_eqW (fun f h => (hf f h).le) hn (by omega)
  generalize clo fs = F at v ecl ew ec
  have hF : F.length ≤ 120 := by omega
  have tl := tops_len (E := F)
  have tp := tops_pts v
  obtain ⟨n, hN⟩ : ∃ n : Int, (F.length : Int) = n := ⟨_, rfl⟩
  unfold lb_law_1
  walk_at "ev"
  simp only [ec]
  walk_at "ev"
  simp only [len_lst, List.length_map, hN]
  walk_at "ev"
  simp only [decide_eq_true (show n ≤ 120 by omega), if_true]
  walk_at "ev"
  simp only [list_lst]
  walk_at "ev"
  simp only [ew]
  walk_at "ev"
  have sy : decide (F = E) = decide (E = F) := Bool.eq_iff_iff.mpr (by simp only [decide_eq_true_eq]; exact ⟨Eq.symm, Eq.symm⟩)
  simp only [own_eq w v, Bool.false_eq_true, if_false]
  walk_at "ev"
  simp only [eq_tups, sy]
  walk_at "ev"
  simp only [own_eq v w, if_true]
  walk_at "ev"
  simp only [ne_tups]
  walk_at "ev"
  simp only [law_tops_eq v (by omega)]
  walk_at "ev"
  have l1 : (("Web(" : Str)).length = 4 := by decide +kernel
  have l2 : ((")" : Str)).length = 1 := by decide +kernel
  have hz := txF_le tp (by omega)
  rw [if_neg (by rw [List.length_map]; show ¬ (topsL F).length > 16777216; omega)]
  simp only [wp, List.set_cons_zero, List.set_cons_succ]
  rw [law_lc tp, afterL_ok]
  walk_at "ev"
  simp only [join_tops tp (show (topsL F).length ≤ 1000 by omega)]
  walk_at "ev"
  simp only [txt_str v hF]
  walk_at "ev"
  have z0 : ¬ (([] : List VV).any VV.isObj = true ∨ 0 > SZ) := by
    rintro (z | z)
    · cases z
    · exact absurd z (by show ¬ 0 > 16777216; omega)
  have en : ∀ h : VH, opNe h (.lst (F.map tupI)) (.lst []) = some (.bl (!decide (F = []))) := fun h => ne_tups (m := [])
  simp only [if_neg z0]
  walk_at "ev"
  simp only [en]
  walk_at "ev"
  have ad1 : ∀ h : VH, opAdd h (.str "Web(") (.str (txF (topsL F))) = some (.str ("Web(" ++ txF (topsL F))) := fun h => if_pos (by rw [l1]; show _ ≤ 16777216; omega)
  have ad2 : ∀ h : VH, opAdd h (.str ("Web(" ++ txF (topsL F))) (.str ")") = some (.str ("Web(" ++ txF (topsL F) ++ ")")) := fun h => if_pos (by rw [strLen_append, l1, l2]; show _ ≤ 16777216; omega)
  by_cases c : F = []
  · have eW : strW F = "none" := by unfold strW; rw [if_pos c]
    rw [eW]
    simp only [decide_eq_true c, Bool.not_true, Bool.false_eq_true, if_false]
    walk_at "ev"
    simp only [alike_str]
    walk_at "ev"
    simp only [txt_repr v hF]
    walk_at "ev"
    simp only [str_tops tp (show (topsL F).length ≤ 1000 by omega)]
    walk_at "ev"
    simp only [ad1]
    walk_at "ev"
    simp only [ad2]
    walk_at "ev"
    simp only [alike_str]
    walk_at "ev"
    simp only [own_len v (by omega), hN]
    walk_at "ev"
    simp only [len_lst, List.length_map, hN]
    walk_at "ev"
  · have eW : strW F = topsT (topsL F) := by unfold strW; rw [if_neg c]
    rw [eW]
    simp only [decide_eq_false c, Bool.not_false, if_true]
    walk_at "ev"
    simp only [alike_str]
    walk_at "ev"
    simp only [txt_repr v hF]
    walk_at "ev"
    simp only [str_tops tp (show (topsL F).length ≤ 1000 by omega)]
    walk_at "ev"
    simp only [ad1]
    walk_at "ev"
    simp only [ad2]
    walk_at "ev"
    simp only [alike_str]
    walk_at "ev"
    simp only [own_len v (by omega), hN]
    walk_at "ev"
    simp only [len_lst, List.length_map, hN]
    walk_at "ev"
local macro_rules | `(tactic| walk_at "ev") => `(tactic| try simp only [fn_ap, a_txt, a_rev, revR_lst, a_join, jnR_str, a_joined, jd_cons, jd_nil, a_fmtL, a_ownNeL, List.map_cons, List.map_nil, List.length_cons, List.length_nil, List.cons_append, List.nil_append, List.append_nil, Nat.reduceAdd, Nat.reduceSub, Nat.zero_add, List.replicate_succ, List.replicate_zero, s_seq, s_set, s_asg, s_if, s_ret, s_expr, s_for, s_skip, s_par, s_par3, s_setI, thn_nx, thn_ret, thn_no, thn_brk, thn_cnt, thn_exc, a_var, a_c, a_bin, a_un, a_call, a_nil, a_cons, a_tup, a_lst, a_lstO, a_val, a_tand, a_tor, a_tnot, a_if, a_and, a_or, a_not, a_chain, a_fn, a_lc', a_seq, a_range1, a_zip, a_sl, a_onone, a_osome, bnd_ok, bnd_no, bnd_exc, sbd_ok, sbd_no, sbd_exc, getV_some, toB_bl, toO_int, lift_some, lift_none, seqI_lst, seqI_scr, seqI_tup, seqI_str, rng1_int, zip_lst, zip_tup, onx_some, onh_some, List.getElem?_cons_zero, List.getElem?_cons_succ, List.set_cons_zero, List.set_cons_succ, o_sub, o_add, o_lt, o_le, o_gt, o_ge, o_neg, o_eqI, o_neI, o_eqB, o_neB, o_eqS, if_true, if_false, ite_true, ite_false, decide_true, decide_false, Bool.false_eq_true, Bool.true_eq_false, reduceIte, Bool.not_true, Bool.not_false, a_frzD, frzR_obj, frzO_fl, frzO_fzn, frzR_lst, frzR_tup, frzR_int, a_newO, newO_some, lList_lst, lList_tup, a_listRngO, lrO_int, a_repO, repO_lst, chkL_some, lstOf_obj, lstO_fl, lstO_fzn, lstR_obj, lstRO_fl, lstRO_lo, lstRO_fzn, a_pop, popR_obj, a_app, appV_obj, enumI_lst, a_enum, s_augI, augV_obj, augO_int, s_setD, a_dnew, a_fld, insOf_obj, insO_ins, insOf_ins, a_meth, noX_ok, a_make, s_fldS, setF_obj, a_aApp, afterR_ok, a_lcR, a_lenSc, a_dc2, bNm_ap, obd_some, trn_nx, a_knew, s_setK, a_keysK, keysI_dK, a_dc1, a_sortSc, a_ins, a_lc2, frzO_dK, frzR_dK, a_lcP, lcP_some, rootL_obj, rootO_fl, a_dictZip, s_setApp, s_raise0, a_own, a_lenOwn, a_isiC, a_items, a_methX, a_makeX, fin_exc, a_listRng, lrD_int, a_dictD, dcp_dK, a_valsD, valsD_dT, a_dictZipT, a_valsD, valsD_dT, a_maxD, a_lc3, a_dc1T])
local macro_rules | `(tactic| walk_at "evd") => `(tactic| try simp (disch := first | decide | omega) only [o_mod, o_fdiv, o_pow, o_mul_r, o_mul_l, fn_ap, a_txt, a_rev, revR_lst, a_join, jnR_str, a_joined, jd_cons, jd_nil, a_fmtL, a_ownNeL, List.map_cons, List.map_nil, List.length_cons, List.length_nil, List.cons_append, List.nil_append, List.append_nil, Nat.reduceAdd, Nat.reduceSub, Nat.zero_add, List.replicate_succ, List.replicate_zero, s_seq, s_set, s_asg, s_if, s_ret, s_expr, s_for, s_skip, s_par, s_par3, s_setI, thn_nx, thn_ret, thn_no, thn_brk, thn_cnt, thn_exc, a_var, a_c, a_bin, a_un, a_call, a_nil, a_cons, a_tup, a_lst, a_lstO, a_val, a_tand, a_tor, a_tnot, a_if, a_and, a_or, a_not, a_chain, a_fn, a_lc', a_seq, a_range1, a_zip, a_sl, a_onone, a_osome, bnd_ok, bnd_no, bnd_exc, sbd_ok, sbd_no, sbd_exc, getV_some, toB_bl, toO_int, lift_some, lift_none, seqI_lst, seqI_scr, seqI_tup, seqI_str, rng1_int, zip_lst, zip_tup, onx_some, onh_some, List.getElem?_cons_zero, List.getElem?_cons_succ, List.set_cons_zero, List.set_cons_succ, o_sub, o_add, o_lt, o_le, o_gt, o_ge, o_neg, o_eqI, o_neI, o_eqB, o_neB, o_eqS, if_true, if_false, ite_true, ite_false, decide_true, decide_false, Bool.false_eq_true, Bool.true_eq_false, reduceIte, Bool.not_true, Bool.not_false, a_frzD, frzR_obj, frzO_fl, frzO_fzn, frzR_lst, frzR_tup, frzR_int, a_newO, newO_some, lList_lst, lList_tup, a_listRngO, lrO_int, a_repO, repO_lst, chkL_some, lstOf_obj, lstO_fl, lstO_fzn, lstR_obj, lstRO_fl, lstRO_lo, lstRO_fzn, a_pop, popR_obj, a_app, appV_obj, enumI_lst, a_enum, s_augI, augV_obj, augO_int, s_setD, a_dnew, a_fld, insOf_obj, insO_ins, insOf_ins, a_meth, noX_ok, a_make, s_fldS, setF_obj, a_aApp, afterR_ok, a_lcR, a_lenSc, a_dc2, bNm_ap, obd_some, trn_nx, a_knew, s_setK, a_keysK, keysI_dK, a_dc1, a_sortSc, a_ins, a_lc2, frzO_dK, frzR_dK, a_lcP, lcP_some, rootL_obj, rootO_fl, a_dictZip, s_setApp, s_raise0, a_own, a_lenOwn, a_isiC, a_items, a_methX, a_makeX, fin_exc, a_listRng, lrD_int, a_dictD, dcp_dK, a_valsD, valsD_dT, a_dictZipT, a_valsD, valsD_dT, a_maxD, a_lc3, a_dc1T])
local macro_rules | `(tactic| walk_at "eva") => `(tactic| try simp only [fn_ap, a_txt, a_rev, revR_lst, a_join, jnR_str, a_joined, jd_cons, jd_nil, a_fmtL, a_ownNeL, List.map_cons, List.map_nil, List.length_cons, List.length_nil, List.cons_append, List.nil_append, List.append_nil, Nat.reduceAdd, Nat.reduceSub, Nat.zero_add, List.replicate_succ, List.replicate_zero, s_seq, s_set, s_asg, s_if, s_ret, s_expr, s_for, s_skip, s_par, s_par3, s_setI, thn_nx, thn_ret, thn_no, thn_brk, thn_cnt, thn_exc, a_var, a_c, a_bin, a_un, a_call, a_nil, a_cons, a_tup, a_lst, a_lstO, a_val, a_tand, a_tor, a_tnot, a_if, a_and, a_or, a_not, a_chain, a_fn, a_lc', a_seq, a_range1, a_zip, a_sl, a_onone, a_osome, bnd_ok, bnd_no, bnd_exc, sbd_ok, sbd_no, sbd_exc, getV_some, toB_bl, toO_int, lift_some, lift_none, seqI_lst, seqI_scr, seqI_tup, seqI_str, rng1_int, zip_lst, zip_tup, onx_some, onh_some, List.getElem?_cons_zero, List.getElem?_cons_succ, List.set_cons_zero, List.set_cons_succ, o_sub, o_add, o_lt, o_le, o_gt, o_ge, o_neg, o_eqI, o_neI, o_eqB, o_neB, o_eqS, if_true, if_false, ite_true, ite_false, decide_true, decide_false, Bool.false_eq_true, Bool.true_eq_false, reduceIte, Bool.not_true, Bool.not_false, a_frzD, frzR_obj, frzO_fl, frzO_fzn, frzR_lst, frzR_tup, frzR_int, a_newO, newO_some, lList_lst, lList_tup, a_listRngO, lrO_int, a_repO, repO_lst, chkL_some, lstOf_obj, lstO_fl, lstO_fzn, lstR_obj, lstRO_fl, lstRO_lo, lstRO_fzn, a_pop, popR_obj, a_app, appV_obj, enumI_lst, a_enum, s_augI, augV_obj, augO_int, s_setD, a_dnew, a_fld, insOf_obj, insO_ins, insOf_ins, a_meth, noX_ok, a_make, s_fldS, setF_obj, a_aApp, afterR_ok, a_lcR, a_lenSc, a_dc2, bNm_ap, obd_some, trn_nx, a_knew, s_setK, a_keysK, keysI_dK, a_dc1, a_sortSc, a_ins, a_lc2, frzO_dK, frzR_dK, a_lcP, lcP_some, rootL_obj, rootO_fl, a_dictZip, s_setApp, s_raise0, a_own, a_lenOwn, a_isiC, a_items, a_methX, a_makeX, fin_exc, a_listRng, lrD_int, a_dictD, dcp_dK, a_valsD, valsD_dT, a_dictZipT, a_valsD, valsD_dT, a_maxD, a_lc3, a_dc1T, a_dcP, dcS_some, seqP_lst, a_rev, revR_lst, a_clr, clrR_obj, clrO_fl, a_ownD, isi_NoneType_list, isi_NoneType_tuple, isi_NoneType_bool, isi_NoneType_int, isi_NoneType_str, isi_bool_list, isi_bool_tuple, isi_bool_bool, isi_bool_int, isi_bool_str, isi_int_list, isi_int_tuple, isi_int_bool, isi_int_int, isi_int_str, isi_str_list, isi_str_tuple, isi_str_bool, isi_str_int, isi_str_str, isi_tuple_list, isi_tuple_tuple, isi_tuple_bool, isi_tuple_int, isi_tuple_str, isi_list_list, isi_list_tuple, isi_list_bool, isi_list_int, isi_list_str, opIsN, opNotN, VV.isObj, len_lst, len_tup, list_lst, list_tup, tuple_lst, x_lst, x_tup])
local macro_rules | `(tactic| walk_at "evad") => `(tactic| try simp (disch := first | decide | omega) only [o_mod, o_fdiv, o_pow, o_mul_r, o_mul_l, fn_ap, a_txt, a_rev, revR_lst, a_join, jnR_str, a_joined, jd_cons, jd_nil, a_fmtL, a_ownNeL, List.map_cons, List.map_nil, List.length_cons, List.length_nil, List.cons_append, List.nil_append, List.append_nil, Nat.reduceAdd, Nat.reduceSub, Nat.zero_add, List.replicate_succ, List.replicate_zero, s_seq, s_set, s_asg, s_if, s_ret, s_expr, s_for, s_skip, s_par, s_par3, s_setI, thn_nx, thn_ret, thn_no, thn_brk, thn_cnt, thn_exc, a_var, a_c, a_bin, a_un, a_call, a_nil, a_cons, a_tup, a_lst, a_lstO, a_val, a_tand, a_tor, a_tnot, a_if, a_and, a_or, a_not, a_chain, a_fn, a_lc', a_seq, a_range1, a_zip, a_sl, a_onone, a_osome, bnd_ok, bnd_no, bnd_exc, sbd_ok, sbd_no, sbd_exc, getV_some, toB_bl, toO_int, lift_some, lift_none, seqI_lst, seqI_scr, seqI_tup, seqI_str, rng1_int, zip_lst, zip_tup, onx_some, onh_some, List.getElem?_cons_zero, List.getElem?_cons_succ, List.set_cons_zero, List.set_cons_succ, o_sub, o_add, o_lt, o_le, o_gt, o_ge, o_neg, o_eqI, o_neI, o_eqB, o_neB, o_eqS, if_true, if_false, ite_true, ite_false, decide_true, decide_false, Bool.false_eq_true, Bool.true_eq_false, reduceIte, Bool.not_true, Bool.not_false, a_frzD, frzR_obj, frzO_fl, frzO_fzn, frzR_lst, frzR_tup, frzR_int, a_newO, newO_some, lList_lst, lList_tup, a_listRngO, lrO_int, a_repO, repO_lst, chkL_some, lstOf_obj, lstO_fl, lstO_fzn, lstR_obj, lstRO_fl, lstRO_lo, lstRO_fzn, a_pop, popR_obj, a_app, appV_obj, enumI_lst, a_enum, s_augI, augV_obj, augO_int, s_setD, a_dnew, a_fld, insOf_obj, insO_ins, insOf_ins, a_meth, noX_ok, a_make, s_fldS, setF_obj, a_aApp, afterR_ok, a_lcR, a_lenSc, a_dc2, bNm_ap, obd_some, trn_nx, a_knew, s_setK, a_keysK, keysI_dK, a_dc1, a_sortSc, a_ins, a_lc2, frzO_dK, frzR_dK, a_lcP, lcP_some, rootL_obj, rootO_fl, a_dictZip, s_setApp, s_raise0, a_own, a_lenOwn, a_isiC, a_items, a_methX, a_makeX, fin_exc, a_listRng, lrD_int, a_dictD, dcp_dK, a_valsD, valsD_dT, a_dictZipT, a_valsD, valsD_dT, a_maxD, a_lc3, a_dc1T, a_dcP, dcS_some, seqP_lst, a_rev, revR_lst, a_clr, clrR_obj, clrO_fl, a_ownD, isi_NoneType_list, isi_NoneType_tuple, isi_NoneType_bool, isi_NoneType_int, isi_NoneType_str, isi_bool_list, isi_bool_tuple, isi_bool_bool, isi_bool_int, isi_bool_str, isi_int_list, isi_int_tuple, isi_int_bool, isi_int_int, isi_int_str, isi_str_list, isi_str_tuple, isi_str_bool, isi_str_int, isi_str_str, isi_tuple_list, isi_tuple_tuple, isi_tuple_bool, isi_tuple_int, isi_tuple_str, isi_list_list, isi_list_tuple, isi_list_bool, isi_list_int, isi_list_str, opIsN, opNotN, VV.isObj, len_lst, len_tup, list_lst, list_tup, tuple_lst, x_lst, x_tup])
theorem box_low (b : Bx) : lowO 2 b.v = true := rfl
theorem fin_b_r {v : VV} {b : Bx} {o9 : VO} {t : VH} (ho9 : lowO 2 o9 = true) (hv : lowV 2 v = true) : (SR.ret v (b.v :: o9 :: t)).fin 2 = .ok v [b.v, o9] := fin_low (h := [b.v, o9]) rfl hv (by simp only [List.all_cons, List.all_nil, Bool.and_true, Bool.and_eq_true]; exact ⟨box_low b, ho9⟩)
theorem pop_turn_r (b : Bx) {o9 : VO} {rest found : List Int} (hr : rest ≠ []) (hl : rest.length ≤ 16) (hf : found.length < 16777216) : ∃ (r : Nat) (b' : Bx) (hk : r < rest.length),
    F_law_take [.obj 0, .int rest.length] [b.v, o9, .fl (rest.map VV.int), .fl (found.map VV.int)] = .ok (.int r) [b'.v, o9, .fl (rest.map VV.int), .fl (found.map VV.int)]
    ∧ popO (some (.fl (rest.map VV.int))) 2 (r : Int) [b'.v, o9, .fl (rest.map VV.int), .fl (found.map VV.int)] = .ok (.int rest[r]) [b'.v, o9, .fl ((rest.eraseIdx r).map VV.int), .fl (found.map VV.int)]
    ∧ appO (some (.fl (found.map VV.int))) 3 [b'.v, o9, .fl ((rest.eraseIdx r).map VV.int), .fl (found.map VV.int)] (.int rest[r]) = .ok .non [b'.v, o9, .fl ((rest.eraseIdx r).map VV.int), .fl ((found ++ [rest[r]]).map VV.int)] := by
  have hp : 0 < rest.length := List.length_pos_iff.mpr hr
  obtain ⟨r, b', e, h1, h2⟩ := take_h b [o9, .fl (rest.map VV.int), .fl (found.map VV.int)] (m := rest.length) (by omega) (by omega)
  obtain ⟨k, rfl⟩ := Int.eq_ofNat_of_zero_le h1
  have hk : k < rest.length := by omega
  refine ⟨k, b', hk, e, ?_, ?_⟩
  · rw [popO_fl (v := .int rest[k]) h1 (by rw [List.length_map]; exact h2) (by omega) (by rw [List.getElem?_map]; show ((rest[k]?).map _) = _; rw [List.getElem?_eq_getElem hk]; rfl)]
    show Res.ok _ [_, _, VO.fl ((rest.map VV.int).eraseIdx k), _] = _
    rw [eraseIdx_mapI]
  · rw [appO_fl (by rw [List.length_map]; exact hf) rfl]
    show Res.ok _ [_, _, _, VO.fl (found.map VV.int ++ [VV.int rest[k]])] = _
    rw [List.map_append]; rfl
theorem drawn_face_eq_r {o9 : VO} (ho9 : lowO 2 o9 = true) (b : Bx) {p : List Int} {big : Int} (pn : p.Nodup) (pp : p ≠ []) (pl : p.length ≤ 16) (h0 : 0 ≤ big) (h1 : big ≤ 3) : ∃ (f : List Int) (b' : Bx), F_law_drawn_face [.obj 0, .lst (p.map VV.int), .int big] [b.v, o9] = .ok (tupI f) [b'.v, o9] ∧ DF p big f := by
  have hp0 : 0 < p.length := List.length_pos_iff.mpr pp
  unfold F_law_drawn_face B_law_drawn_face
  walk_at "ev"
  simp only [List.any_nil, Bool.false_eq_true, false_or]
  rw [if_neg (by decide)]
  walk_at "ev"
  simp only [len_obj]
  walk_at "ev"
  simp only [omap_some, List.length_map, lift_some]
  walk_at "ev"
  obtain ⟨r, b1, e1, r0, r1⟩ := take_h b [o9, .fl (p.map VV.int), .fl []] (m := big + 1) (by omega) (by omega)
  simp only [e1]
  walk_at "ev"
  simp only [min_int]
  walk_at "ev"
  generalize en : (if 1 + r < (p.length : Int) then 1 + r else (p.length : Int)) = n
  have hn : 1 ≤ n ∧ n ≤ p.length ∧ n ≤ big + 1 := by
    rw [← en]; split <;> omega
  rw [if_pos (by omega)]
  walk_at "ev"
  rw [rng_eq]
  obtain ⟨ρ2, h2, e2, b2, rest, found, o, rfl, rfl, hp, hl⟩ := for_pre (b := bNm 5) (body := lb_law_drawn_face_1) (fun (i : Nat) => VV.int (0 + (i : Int)))
    (fun pre ρ h => ∃ (b : Bx) (rest found : List Int) (o : Option VV), ρ = [some (.obj 0), some (.lst (p.map VV.int)), some (.int big), some (.obj 2), some (.obj 3), o] ∧ h = [b.v, o9, .fl (rest.map VV.int), .fl (found.map VV.int)] ∧ (found ++ rest).Perm p ∧ found.length = pre.length)
    (List.range n.toNat) (ρ := [some (.obj 0), some (.lst (p.map VV.int)), some (.int big), some (.obj 2), some (.obj 3), none]) (h := [b1.v, o9, .fl (p.map VV.int), .fl (([] : List Int).map VV.int)])
    ⟨b1, _, [], none, rfl, rfl, List.Perm.refl _, rfl⟩ (by
      rintro pre y post ey ρ h ⟨b, rest, found, o, rfl, rfl, hp, hl⟩
      have ll := hp.length_eq
      have lm : pre.length + 1 + post.length = n.toNat := by
        have := congrArg List.length ey
        simpa [Nat.add_assoc, Nat.add_comm, Nat.add_left_comm] using this.symm
      rw [List.length_append] at ll
      obtain ⟨r, b', hk, t1, t2, t3⟩ := pop_turn_r b (o9 := o9) (rest := rest) (found := found) (fun e => by rw [e] at ll; simp at ll; omega) (by omega) (by omega)
      refine ⟨_, [some (.obj 0), some (.lst (p.map VV.int)), some (.int big), some (.obj 2), some (.obj 3), some (.int (0 + (y : Int)))], _, rfl, ?_, b', rest.eraseIdx r, found ++ [rest[r]], _, rfl, rfl, ?_, by simp [hl]⟩
      · walk_at "ev"
        simp only [len_obj]
        walk_at "ev"
        simp only [omap_some, List.length_map, lift_some]
        walk_at "ev"
        simp only [t1]
        walk_at "ev"
        simp only [t2]
        walk_at "ev"
        simp only [t3]
        walk_at "ev"
      · refine List.Perm.trans ?_ hp
        rw [List.append_assoc]
        exact (erase_perm hk).append_left found)
  simp only [List.map_nil] at e2
  rw [e2]
  walk_at "ev"
  simp only [tuple_lst]
  walk_at "ev"
  rw [fin_b_r ho9 rfl]
  rw [List.length_range] at hl
  have hnd : (found ++ rest).Nodup := hp.nodup_iff.mpr pn
  refine ⟨found, b2, rfl, (List.nodup_append.mp hnd).1, fun e => ?_, by omega, fun x hx => hp.mem_iff.mp (List.mem_append_left _ hx)⟩
  rw [e] at hl; simp at hl; omega
/-! the law's rows -/
theorem cut_tups {l : List (List Int)} (lo hi : Option Int) : ∃ m : List (List Int), cut (l.map tupI) lo hi = m.map tupI ∧ m.length ≤ l.length ∧ ∀ x ∈ m, x ∈ l := by
  refine ⟨(l.drop (HT.sIx l.length 0 lo)).take (HT.sIx l.length l.length hi - HT.sIx l.length 0 lo), ?_, ?_, fun x hx => List.mem_of_mem_drop (List.mem_of_mem_take hx)⟩
  · unfold cut
    rw [List.length_map, List.map_take, List.map_drop]
  · rw [List.length_take, List.length_drop]; omega
/-- a row of faces that a web may be made of -/
structure RowF (fs : List (List Int)) : Prop where
  pts : ∀ f ∈ fs, Pts f
  len : fs.length ≤ 1000
  few : (parts fs).eraseDups.length ≤ 120
theorem clo_few {fs : List (List Int)} : (parts fs).eraseDups.length = (clo fs).length := by
  unfold clo
  exact ((fsort_perm _).length_eq).symm
theorem clo_within {E fs : List (List Int)} (w : WebF E) (h : ∀ f ∈ fs, isort f ∈ E) : (clo fs).length ≤ E.length := few_of (clo_nodup _) fun s hs => by
  obtain ⟨g, hg, s1, s2⟩ := mem_clo.mp hs
  exact w.down (isort g) (h g hg) s s1 s2
theorem web_isort {E : List (List Int)} (w : WebF E) {f : List Int} (h : f ∈ E) : isort f ∈ E := by rw [(w.face f h).srt]; exact h
theorem row_within {E fs : List (List Int)} (w : WebF E) (hE : E.length ≤ 100) (hp : ∀ f ∈ fs, Pts f) (hl : fs.length ≤ 1000) (h : ∀ f ∈ fs, isort f ∈ E) : RowF fs :=
  ⟨hp, hl, by rw [clo_few]; have := clo_within w h; omega⟩
theorem more_len {E : List (List Int)} (w : WebF E) {f : List Int} (hf : f.length ≤ 4) : (clo (E ++ [f])).length ≤ E.length + 15 := by
  have h1 : (clo (E ++ [f])).length ≤ (E ++ subs (isort f)).length := few_of (clo_nodup _) fun s hs => by
    obtain ⟨g, hg, s1, s2⟩ := mem_clo.mp hs
    rcases List.mem_append.mp hg with z | z
    · rw [(w.face g z).srt] at s1
      exact List.mem_append_left _ (w.down g z s s1 s2)
    · rw [List.mem_singleton.mp z] at s1
      exact List.mem_append_right _ (mem_subs.mpr ⟨s1, s2⟩)
  have h2 := subs_le (f := isort f) (by rw [isort_len]; exact hf)
  rw [List.length_append] at h1
  omega
theorem tops_in {fs : List (List Int)} (T : Tops fs) : ∀ f ∈ fs, isort f ∈ clo fs := fun f hf => by
  have pf := T.pts f hf
  refine mem_clo.mpr ⟨f, hf, List.Sublist.refl _, fun z => ?_⟩
  have := congrArg List.length z
  rw [isort_len] at this
  exact absurd (List.length_pos_iff.mpr pf.pos) (by rw [this]; decide)
theorem clo_nil : clo [] = [] := by
  unfold clo
  exact (fsort_perm _).eq_nil
abbrev pool16 : List Int := [0, 1, 2, 3, 4, 5, 6, 7, 8, 9, 10, 11, 12, 13, 14, 15]
theorem rng16 : rngV 0 (Int.toNat 16) = pool16.map VV.int := rfl
theorem df_pts {f : List Int} (d : DF pool16 2 f) : Pts f := ⟨d.nd, d.pos, by have := d.le; omega, fun x hx => by
  have := d.sub x hx
  simp only [List.mem_cons, List.not_mem_nil, or_false] at this
  omega⟩
theorem web_isnt {E : List (List Int)} {xs : List VV} {h : VH} : F_Web_eq [webV E, .lst xs] h = .ok (.bl false) h := by
  unfold F_Web_eq B_Web_eq
  walk_at "ev"
  have ei : isiK h "Web" [] (.lst xs) = some false := rfl
  simp only [ei, Option.map_some]
  walk_at "ev"
  rw [fin_ret rfl]
theorem neLR_of {cn : Str} {F : FF} {v w : VV} {a : Str × List Str × List VV} {xs : List VV} {h : VH} {r : Bool} (ea : insOf h v = some a) (el : lstOf' h w = some xs) (ca : a.1 = cn) (er : F [v, w] h = .ok (.bl r) h) : neLR cn F v w h = .ok (.bl (!r)) h := by
  unfold neLR
  rw [ea, el]
  simp only
  rw [if_pos ca, er]
  rfl
theorem ne_web {E : List (List Int)} {xs : List VV} {h : VH} : neLR "Web" F_Web_eq (webV E) (.lst xs) h = .ok (.bl true) h :=
  neLR_of (a := ("Web", ["table", "places"], [.lst [szL E 1, szL E 2, szL E 3, szL E 4], .dT ((ordE E).map keyI) (ordV E)])) rfl rfl rfl web_isnt
theorem web0_is : web0V = webV [] := rfl
theorem add_rows {h : VH} {a b : List (List Int)} (hl : a.length + b.length ≤ 1000) : opAdd h (.lst (a.map tupI)) (.lst (b.map tupI)) = some (.lst ((a ++ b).map tupI)) := by
  rw [List.map_append]
  exact if_pos (by rw [List.length_map, List.length_map]; show _ ≤ 16777216; omega)
theorem law_true : ∀ ns : List Int, ns.length ≤ 63 → (∀ z ∈ ns, Builtin.Int.intBits z ≤ 1048576) → ∃ h', F_law [.scr (ns.map VV.int)] [] = .ok (.bl true) h' := by
  intro ns _ _
  obtain ⟨b0, e0⟩ := box_eq ns
  obtain ⟨fs, b1, e1, T⟩ := some_tops_eq b0
  have w := webf_clo T.pts
  have hE := T.few.clo_low
  have tin := tops_in T
  have ew := fun (o o9 : VO) (ho : lowO 2 o = true) (ho9 : lowO 2 o9 = true) => web_make_r ho ho9 T.pts (by have := T.len; omega) (by rw [clo_few]; omega)
  unfold F_law B_law
  simp only [fn_ap, List.map_cons, List.map_nil, List.length_cons, List.length_nil, List.cons_append, List.nil_append, Nat.reduceAdd, Nat.reduceSub, List.replicate_succ, List.replicate_zero]
  rw [s_seq]
  have p1 : sSet 1 (eFn 1 F_law_box [] (aCons (eVar 0) aNil)) [some (.scr (ns.map VV.int)), none, none, none, none, none, none, none, none, none, none, none] [] = .nx [some (.scr (ns.map VV.int)), some (.obj 0), none, none, none, none, none, none, none, none, none, none] [b0.v] := by
    walk_at "ev"
    simp only [e0]
    walk_at "ev"
  rw [p1, thn_nx, s_seq]
  have p2 : sSet 2 (eFn 1 F_law_some_tops [] (aCons (eVar 1) aNil)) [some (.scr (ns.map VV.int)), some (.obj 0), none, none, none, none, none, none, none, none, none, none] [b0.v] = .nx [some (.scr (ns.map VV.int)), some (.obj 0), some (VV.lst (fs.map tupI)), none, none, none, none, none, none, none, none, none] [b1.v] := by
    walk_at "ev"
    simp only [e1]
    walk_at "ev"
  rw [p2, thn_nx, s_seq]
  have p3 : sSet 3 (eFn 1 F_law_closed [] (aCons (eVar 2) aNil)) [some (.scr (ns.map VV.int)), some (.obj 0), some (VV.lst (fs.map tupI)), none, none, none, none, none, none, none, none, none] [b1.v] = .nx [some (.scr (ns.map VV.int)), some (.obj 0), some (VV.lst (fs.map tupI)), some ((VV.lst ((clo fs).map tupI))), none, none, none, none, none, none, none, none] [b1.v] := by
    walk_at "ev"
    simp only [closed_eq (fs := fs) (fun f hf => (T.pts f hf).le) (by have := T.len; omega) T.few.len]
    walk_at "ev"
  rw [p3, thn_nx, s_seq]
  generalize clo fs = E at w hE tin ew
  have lf := T.len
  obtain ⟨m, hm⟩ : ∃ m : Int, (E.length : Int) = m := ⟨_, rfl⟩
  obtain ⟨r, b2, e2, r0, r1⟩ := take1 b1 (m := m + 1) (by omega) (by omega)
  obtain ⟨gs, b3, e3, T2⟩ := some_tops_eq b2
  obtain ⟨c1, ec1, lc1, mc1⟩ := cut_tups (l := E) none (some r)
  obtain ⟨c2, ec2, lc2, mc2⟩ := cut_tups (l := E) (some 1) none
  have p4 : sSet 4 (eLstO (aCons (eBin opAdd (eRev (eVar 2)) (eSl opSl (eVar 3) oNone (oSome (eFn 2 F_law_take [] (aCons (eVar 1) (aCons (eBin opAdd (eCall cLen (aCons (eVar 3) aNil)) (eC (.int 1))) aNil)))))) (aCons (eFn 1 F_law_some_tops [] (aCons (eVar 1) aNil)) (aCons (eSl opSl (eVar 3) (oSome (eC (.int 1))) oNone) (aCons (eLst aNil) aNil))))) [some (.scr (ns.map VV.int)), some (.obj 0), some (VV.lst (fs.map tupI)), some (VV.lst (E.map tupI)), none, none, none, none, none, none, none, none] [b1.v] = .nx [some (.scr (ns.map VV.int)), some (.obj 0), some (VV.lst (fs.map tupI)), some (VV.lst (E.map tupI)), some (.obj 1), none, none, none, none, none, none, none] [b3.v, .fl [(VV.lst ((fs.reverse ++ c1).map tupI)), (VV.lst (gs.map tupI)), (VV.lst (c2.map tupI)), (VV.lst [])]] := by
    walk_at "ev"
    simp only [len_lst, List.length_map, hm]
    walk_at "ev"
    simp only [e2]
    walk_at "ev"
    simp only [J.sl_lst, ec1]
    walk_at "ev"
    rw [← List.map_reverse]
    simp only [add_rows (show (fs.reverse).length + c1.length ≤ 1000 by rw [List.length_reverse]; omega)]
    walk_at "ev"
    simp only [e3]
    walk_at "ev"
    simp only [J.sl_lst, ec2]
    walk_at "ev"
    rw [if_neg (by simp [VV.isObj])]
    walk_at "ev"
    rw [if_neg (by simp [VV.isObj, SZ])]
    walk_at "ev"
  rw [p4, thn_nx, s_seq]
  obtain ⟨f, b4, e4, d4⟩ := drawn_face_eq_r (o9 := .fl [(VV.lst ((fs.reverse ++ c1).map tupI)), (VV.lst (gs.map tupI)), (VV.lst (c2.map tupI)), (VV.lst [])]) rfl b3 (p := pool16) (big := 2) (by decide) (by decide) (by decide) (by decide) (by decide)
  have pf := df_pts d4
  have p5 : sExpr (eApp (eVar 4) (eBin opAdd (eVar 3) (eLst (aCons (eFn 3 F_law_drawn_face [] (aCons (eVar 1) (aCons (eListRng (eC (.int 16))) (aCons (eC (.int 2)) aNil)))) aNil)))) [some (.scr (ns.map VV.int)), some (.obj 0), some (VV.lst (fs.map tupI)), some (VV.lst (E.map tupI)), some (.obj 1), none, none, none, none, none, none, none] [b3.v, .fl [(VV.lst ((fs.reverse ++ c1).map tupI)), (VV.lst (gs.map tupI)), (VV.lst (c2.map tupI)), (VV.lst [])]] =
      .nx [some (.scr (ns.map VV.int)), some (.obj 0), some (VV.lst (fs.map tupI)), some (VV.lst (E.map tupI)), some (.obj 1), none, none, none, none, none, none, none] [b4.v, .fl [(VV.lst ((fs.reverse ++ c1).map tupI)), (VV.lst (gs.map tupI)), (VV.lst (c2.map tupI)), (VV.lst []), (VV.lst ((E ++ [f]).map tupI))]] := by
    walk_at "ev"
    rw [if_pos (by decide)]
    walk_at "ev"
    rw [rng16]
    simp only [e4]
    walk_at "ev"
    rw [if_neg (by simp [VV.isObj, SZ, tupI])]
    walk_at "ev"
    have ea : ∀ h : VH, opAdd h (.lst (E.map tupI)) (.lst [tupI f]) = some (.lst ((E ++ [f]).map tupI)) := fun h => add_rows (b := [f]) (by simp only [List.length_cons, List.length_nil]; omega)
    simp only [ea]
    walk_at "ev"
    rfl
  rw [p5, thn_nx, s_seq]
  have p6 : ∀ o9 : VO, lowO 2 o9 = true → sSet 5 (eMakeZ "Web" 2 F_Web_init [] (aCons (eCall cList (aCons (eVar 2) aNil)) aNil)) [some (.scr (ns.map VV.int)), some (.obj 0), some (VV.lst (fs.map tupI)), some (VV.lst (E.map tupI)), some (.obj 1), none, none, none, none, none, none, none] [b4.v, o9] =
      .nx [some (.scr (ns.map VV.int)), some (.obj 0), some (VV.lst (fs.map tupI)), some (VV.lst (E.map tupI)), some (.obj 1), some (webV E), none, none, none, none, none, none] [b4.v, o9] := fun o9 ho9 => by
    walk_at "ev"
    simp only [list_lst]
    walk_at "ev"
    simp only [ew b4.v o9 (box_low b4) ho9]
    walk_at "ev"
  rw [p6 _ rfl, thn_nx, s_seq, s_for]
  have good : ∀ row ∈ [fs.reverse ++ c1, gs, c2, [], E ++ [f]], RowF row := by
    intro row hr
    simp only [List.mem_cons, List.not_mem_nil, or_false] at hr
    have fE : ∀ x ∈ E, Pts x := fun x hx => (w.face x hx).pts
    rcases hr with rfl | rfl | rfl | rfl | rfl
    · refine row_within w (by omega) (fun x hx => ?_) (by rw [List.length_append, List.length_reverse]; omega) fun x hx => ?_
      · rcases List.mem_append.mp hx with z | z
        · exact T.pts x (List.mem_reverse.mp z)
        · exact fE x (mc1 x z)
      · rcases List.mem_append.mp hx with z | z
        · exact tin x (List.mem_reverse.mp z)
        · exact web_isort w (mc1 x z)
    · exact ⟨T2.pts, by have := T2.len; omega, by rw [clo_few]; have := T2.few.clo_low; omega⟩
    · exact row_within w (by omega) (fun x hx => fE x (mc2 x hx)) (by omega) fun x hx => web_isort w (mc2 x hx)
    · exact row_within w (by omega) (fun x hx => by cases hx) (by decide) fun x hx => by cases hx
    · refine ⟨fun x hx => ?_, by rw [List.length_append]; show E.length + 1 ≤ 1000; omega, by rw [clo_few]; have := more_len w pf.le; omega⟩
      rcases List.mem_append.mp hx with z | z
      · exact fE x z
      · rw [List.mem_singleton.mp z]; exact pf
  obtain ⟨rows, er⟩ : ∃ rows : List (List (List Int)), rows = [fs.reverse ++ c1, gs, c2, [], E ++ [f]] := ⟨_, rfl⟩
  have eR : ([(VV.lst ((fs.reverse ++ c1).map tupI)), (VV.lst (gs.map tupI)), (VV.lst (c2.map tupI)), (VV.lst []), (VV.lst ((E ++ [f]).map tupI))] : List VV) = rows.map fun row => VV.lst (row.map tupI) := by rw [er]; rfl
  rw [eR]
  rw [← er] at good
  have it : ∀ (ρ : VSt), ρ[4]? = some (some (.obj 1)) → iSeq (eFrzD (eVar 4)) ρ [b4.v, .fl (rows.map fun row => VV.lst (row.map tupI))] = .ok (rows.map fun row => VV.lst (row.map tupI)) [b4.v, .fzn (.lst (rows.map fun row => VV.lst (row.map tupI)))] := fun ρ e => by
    simp only [a_seq, a_frzD, a_var, e, getV_some, bnd_ok]
    rfl
  rw [it _ rfl, sbd_ok]
  obtain ⟨ρ2, h2, e7, ⟨x2, x6, x7, x8, x9, x10, x11, rfl⟩, rfl⟩ := for_pre (b := bNm 6) (body := lb_law_1) (fun row => VV.lst (row.map tupI))
    (fun pre ρ h => (∃ (x2 x6 x7 x8 x9 x10 x11 : Option VV), ρ = [some (.scr (ns.map VV.int)), some (.obj 0), x2, some (VV.lst (E.map tupI)), some (.obj 1), some (webV E), x6, x7, x8, x9, x10, x11]) ∧ h = [b4.v, .fzn (.lst (rows.map fun row => VV.lst (row.map tupI)))])
    rows (ρ := [some (.scr (ns.map VV.int)), some (.obj 0), some (VV.lst (fs.map tupI)), some (VV.lst (E.map tupI)), some (.obj 1), some (webV E), none, none, none, none, none, none]) (h := [b4.v, .fzn (.lst (rows.map fun row => VV.lst (row.map tupI)))]) ⟨⟨_, _, _, _, _, _, _, rfl⟩, rfl⟩ (by
      rintro pre row post ey ρ h ⟨⟨x2, x6, x7, x8, x9, x10, x11, rfl⟩, rfl⟩
      have g := good row (by rw [ey]; simp)
      exact ⟨_, _, _, rfl, turn11 w (box_low b4) rfl g.pts g.len g.few, ⟨_, _, _, _, _, _, _, rfl⟩, rfl⟩)
  rw [e7, thn_nx]
  have em := web_make_r (fs := []) (box_low b4) (o9 := .fzn (.lst (rows.map fun row => VV.lst (row.map tupI)))) rfl (fun x hx => by cases hx) (by decide) (by rw [clo_few, clo_nil]; decide)
  rw [clo_nil, List.map_nil] at em
  have v0 : WebF [] := by
    have := webf_clo (fs := []) (fun x hx => by cases hx)
    rwa [clo_nil] at this
  walk_at "ev"
  simp only [ne_web]
  walk_at "ev"
  simp only [a_mk0 (box_low b4) (show lowO 2 (.fzn (.lst (rows.map fun row => VV.lst (row.map tupI)))) = true from rfl)]
  walk_at "ev"
  have z0 : ¬ (([] : List VV).any VV.isObj = true ∨ 0 > SZ) := by
    rintro (z | z)
    · cases z
    · exact absurd z (by show ¬ 0 > 16777216; omega)
  simp only [if_neg z0]
  walk_at "ev"
  simp only [em]
  walk_at "ev"
  simp only [web0_is, own_eq v0 v0, own_len v0 (show ([] : List (List Int)).length ≤ 1000 by decide)]
  walk_at "ev"
  simp only [a_mk0 (box_low b4) (show lowO 2 (.fzn (.lst (rows.map fun row => VV.lst (row.map tupI)))) = true from rfl), bnd_ok, own_len v0 (show ([] : List (List Int)).length ≤ 1000 by decide)]
  walk_at "ev"
  exact ⟨_, rfl⟩
end L
namespace L
open PySem L2 J
structure Blt (K : PySem.W.Frag) (mg : Str → Option Value) : Prop where
  n_all : mg "all" = none
  n_bool : mg "bool" = none
  n_enumerate : mg "enumerate" = none
  n_int : mg "int" = none
  n_isinstance : mg "isinstance" = none
  n_len : mg "len" = none
  n_list : mg "list" = none
  n_min : mg "min" = none
  n_range : mg "range" = none
  n_repr : mg "repr" = none
  n_set : mg "set" = none
  n_sorted : mg "sorted" = none
  n_str : mg "str" = none
  n_tuple : mg "tuple" = none
  n_zip : mg "zip" = none
  g_FACES_MOST : ∃ t, mg "FACES_MOST" = some (.int 120 t)
  g_POINTS_MOST : ∃ t, mg "POINTS_MOST" = some (.int 15 t)
  g_SIZE_MOST : ∃ t, mg "SIZE_MOST" = some (.int 3 t)
  ne_Web : NeC K mg "Web"
  i_Web : OkI K mg "Web" []
  f_Web_places : ∀ C, mg "Web" = some (.ref C) → Cls K C ∧ NoAttr K C "places"
  f_Web_table : ∀ C, mg "Web" = some (.ref C) → Cls K C ∧ NoAttr K C "table"
section
variable {P : Program} {w : World} {K : PySem.W.Frag} {mg : Str → Option Value} {base : Heap}
theorem sc_law_box : FnScope ["_law_script", "_law_seed", "_law_cell"] ["_law_script"] (defScope s_law_box) := ⟨rfl, rfl, rfl, by decide +kernel, rfl, by decide +kernel, by decide +kernel⟩
theorem fn_law_box (B : Blt K mg) {f : Addr} {fd : FuncData} (D : Dm K "_law_box" "_law_box" s_law_box [] [] f fd) : FnOk P w K mg base (L2N.CX P w) 1 f fd ["_law_script"] (spF ⟨K, mg⟩ 1 F_law_box) :=
  fnokM_of (k := 0) (N := ["_law_script", "_law_seed", "_law_cell"]) (n := 3) D sc_law_box rfl (by decide) rfl fun cdv A outer s H E hr =>
      (js_cons (js_set (i := 1) sc_law_box.nd rfl (by first | exact Or.inl rfl | exact Or.inr rfl) j_int)
      (js_cons (js_for (passes_of rfl) rfl (ji_seq (j_sl (j_var 0 (pv 0)) jo_none (jo_some j_int))) (pg_name (i := 2) sc_law_box.nd rfl (by first | exact Or.inl rfl | exact Or.inr rfl)) (pat_nm 2) (js_one (js_set (i := 1) sc_law_box.nd rfl (by first | exact Or.inl rfl | exact Or.inr rfl) (j_bin or_mod (j_bin or_add (j_bin or_add (j_bin or_mul (j_var 1 (pv 1)) j_int) (j_var 2 (pv 2))) j_int) j_int))))
      (js_one (js_ret (j_lstO (ja_cons (j_callTy cr_listJ (by rfl) B.n_list (by decide +kernel) (ja_cons (j_sl (j_var 0 (pv 0)) jo_none (jo_some j_int)) ja_nil)) (ja_cons j_int (ja_cons j_int (ja_cons j_int (ja_cons (j_var 1 (pv 1)) ja_nil))))))))))
theorem ok_law_box_L0 (B : Blt K mg) {f : Addr} {fd : FuncData} (D : Dm K "_law_box" "_law_box" s_law_box [] [] f fd) (hm : mg "_law_box" = some (.ref f)) : Ok1 P w K mg base 1 "_law_box" 1 [] F_law_box := ok_of ⟨D.F, hm⟩ (fn_law_box B D) (fun _ _ _ _ _ _ us hl => match us, hl with | [_], _ => rfl)
theorem sc_law_mixed : FnScope ["_law_number", "_law_turn", "_law_one", "_law_two"] ["_law_number", "_law_turn"] (defScope s_law_mixed) := ⟨rfl, rfl, rfl, by decide +kernel, rfl, by decide +kernel, by decide +kernel⟩
theorem fn_law_mixed (B : Blt K mg) {f : Addr} {fd : FuncData} (D : Dm K "_law_mixed" "_law_mixed" s_law_mixed [] [] f fd) : FnOk P w K mg base (L2N.CX P w) 1 f fd ["_law_number", "_law_turn"] (spF ⟨K, mg⟩ 2 F_law_mixed) :=
  fnokM_of (k := 0) (N := ["_law_number", "_law_turn", "_law_one", "_law_two"]) (n := 4) D sc_law_mixed rfl (by decide) rfl fun cdv A outer s H E hr =>
      (js_cons (js_set (i := 2) sc_law_mixed.nd rfl (by first | exact Or.inl rfl | exact Or.inr rfl) (j_bin or_mod (j_bin or_add (j_bin or_add (j_bin or_mul (j_var 0 (pv 0)) j_int) (j_bin or_mul (j_var 1 (pv 1)) j_int)) j_int) j_int))
      (js_cons (js_set (i := 3) sc_law_mixed.nd rfl (by first | exact Or.inl rfl | exact Or.inr rfl) (j_bin or_mod (j_bin or_add (j_bin or_add (j_bin or_mul (j_var 2 (pv 2)) (j_bin or_add (j_bin or_mod (j_var 2 (pv 2)) j_int) j_int)) (j_bin or_mul (j_var 1 (pv 1)) j_int)) (j_bin or_mod (j_var 0 (pv 0)) j_int)) j_int))
      (js_one (js_ret (j_bin or_fdiv (j_var 3 (pv 3)) j_int)))))
theorem ok_law_mixed_L0 (B : Blt K mg) {f : Addr} {fd : FuncData} (D : Dm K "_law_mixed" "_law_mixed" s_law_mixed [] [] f fd) (hm : mg "_law_mixed" = some (.ref f)) : Ok1 P w K mg base 1 "_law_mixed" 2 [] F_law_mixed := ok_of ⟨D.F, hm⟩ (fn_law_mixed B D) (fun _ _ _ _ _ _ us hl => match us, hl with | [_, _], _ => rfl)
theorem sc_law_take : FnScope ["_law_box_here", "_law_many", "_law_cell", "_law_left"] ["_law_box_here", "_law_many"] (defScope s_law_take) := ⟨rfl, rfl, rfl, by decide +kernel, rfl, by decide +kernel, by decide +kernel⟩
theorem fn_law_take (B : Blt K mg) {f : Addr} {fd : FuncData} (D : Dm K "_law_take" "_law_take" s_law_take [] [] f fd) (O_law_mixed_L0 : Ok1 P w K mg base 1 "_law_mixed" 2 [] F_law_mixed) : FnOk P w K mg base (L2N.CX P w) 2 f fd ["_law_box_here", "_law_many"] (spF ⟨K, mg⟩ 2 F_law_take) :=
  fnokM_of (k := 1) (N := ["_law_box_here", "_law_many", "_law_cell", "_law_left"]) (n := 4) D sc_law_take rfl (by decide) rfl fun cdv A outer s H E hr =>
      (js_cons (js_setI (j_bin or_add (j_ix ir_ix (j_var 0 (pv 0)) j_int (fun _ _ => rfl)) j_int) (j_var 0 (pv 0)) j_int)
      (js_cons (js_if (jt_cmp or_gt (j_ix ir_ix (j_var 0 (pv 0)) j_int (fun _ _ => rfl)) j_int (nomark _)) (js_cons (js_set (i := 3) sc_law_take.nd rfl (by first | exact Or.inl rfl | exact Or.inr rfl) (j_ix ir_ix (j_var 0 (pv 0)) j_int (fun _ _ => rfl)))
      (js_cons (js_setI (j_bin or_fdiv (j_var 3 (pv 3)) (j_var 1 (pv 1))) (j_var 0 (pv 0)) j_int)
      (js_one (js_ret (j_bin or_mod (j_var 3 (pv 3)) (j_var 1 (pv 1))))))) js_nil)
      (js_cons (js_if (jt_cmp or_ge (j_ix ir_ix (j_var 0 (pv 0)) j_int (fun _ _ => rfl)) (j_callB cr_len (by rfl) B.n_len (by decide +kernel) (ja_cons (j_ix ir_ix (j_var 0 (pv 0)) j_int (fun _ _ => rfl)) ja_nil)) (nomark _)) (js_one (js_ret (j_bin or_mod (j_callO O_law_mixed_L0 (hr.mono (by decide)) (by rfl) (L2N.takes_of rfl rfl rfl rfl) (ja_cons (j_ix ir_ix (j_var 0 (pv 0)) j_int (fun _ _ => rfl)) (ja_cons (j_ix ir_ix (j_var 0 (pv 0)) j_int (fun _ _ => rfl)) ja_nil))) (j_var 1 (pv 1))))) js_nil)
      (js_cons (js_set (i := 2) sc_law_take.nd rfl (by first | exact Or.inl rfl | exact Or.inr rfl) (j_ix ir_ix (j_ix ir_ix (j_var 0 (pv 0)) j_int (fun _ _ => rfl)) (j_ix ir_ix (j_var 0 (pv 0)) j_int (fun _ _ => rfl)) (fun _ _ => rfl)))
      (js_cons (js_setI (j_bin or_add (j_ix ir_ix (j_var 0 (pv 0)) j_int (fun _ _ => rfl)) j_int) (j_var 0 (pv 0)) j_int)
      (js_cons (js_if (jt_cmp or_lt (j_var 2 (pv 2)) (j_bin or_pow j_int j_int) (nomark _)) (js_one (js_ret (j_bin or_mod (j_callO O_law_mixed_L0 (hr.mono (by decide)) (by rfl) (L2N.takes_of rfl rfl rfl rfl) (ja_cons (j_var 2 (pv 2)) (ja_cons (j_ix ir_ix (j_var 0 (pv 0)) j_int (fun _ _ => rfl)) ja_nil))) (j_var 1 (pv 1))))) js_nil)
      (js_cons (js_setI (j_bin or_fdiv (j_var 2 (pv 2)) (j_var 1 (pv 1))) (j_var 0 (pv 0)) j_int)
      (js_one (js_ret (j_bin or_mod (j_var 2 (pv 2)) (j_var 1 (pv 1))))))))))))
theorem ok_law_take_L0 (B : Blt K mg) {f : Addr} {fd : FuncData} (D : Dm K "_law_take" "_law_take" s_law_take [] [] f fd) (O_law_mixed_L0 : Ok1 P w K mg base 1 "_law_mixed" 2 [] F_law_mixed) (hm : mg "_law_take" = some (.ref f)) : Ok1 P w K mg base 2 "_law_take" 2 [] F_law_take := ok_of ⟨D.F, hm⟩ (fn_law_take B D O_law_mixed_L0) (fun _ _ _ _ _ _ us hl => match us, hl with | [_, _], _ => rfl)
theorem sc_law_points : FnScope ["_law_box_here", "_law_many", "_law_pool", "_law_found", "_law_k"] ["_law_box_here", "_law_many"] (defScope s_law_points) := ⟨rfl, rfl, rfl, by decide +kernel, rfl, by decide +kernel, by decide +kernel⟩
theorem fn_law_points (B : Blt K mg) {f : Addr} {fd : FuncData} (D : Dm K "_law_points" "_law_points" s_law_points [] [] f fd) (O_law_take_L0 : Ok1 P w K mg base 2 "_law_take" 2 [] F_law_take) : FnOk P w K mg base (L2N.CX P w) 3 f fd ["_law_box_here", "_law_many"] (spF ⟨K, mg⟩ 2 F_law_points) :=
  fnokM_of (k := 2) (N := ["_law_box_here", "_law_many", "_law_pool", "_law_found", "_law_k"]) (n := 5) D sc_law_points rfl (by decide) rfl fun cdv A outer s H E hr =>
      (js_cons (js_set (i := 2) sc_law_points.nd rfl (by first | exact Or.inl rfl | exact Or.inr rfl) (j_listRngO rfl (by rfl) B.n_list (by rfl) B.n_range j_int))
      (js_cons (js_set (i := 3) sc_law_points.nd rfl (by first | exact Or.inl rfl | exact Or.inr rfl) (j_lstO ja_nil))
      (js_cons (js_for (passes_of rfl) rfl (ji_range1 (by rfl) B.n_range (j_var 1 (pv 1))) (pg_name (i := 4) sc_law_points.nd rfl (by first | exact Or.inl rfl | exact Or.inr rfl)) (pat_nm 4) (js_one (js_expr (j_app (j_var 3 (pv 3)) (j_pop (j_var 2 (pv 2)) (j_callO O_law_take_L0 (hr.mono (by decide)) (by rfl) (L2N.takes_of rfl rfl rfl rfl) (ja_cons (j_var 0 (pv 0)) (ja_cons (j_callB cr_len (by rfl) B.n_len (by decide +kernel) (ja_cons (j_var 2 (pv 2)) ja_nil)) ja_nil))))))))
      (js_one (js_ret (j_frzD (j_var 3 (pv 3))))))))
theorem ok_law_points_L0 (B : Blt K mg) {f : Addr} {fd : FuncData} (D : Dm K "_law_points" "_law_points" s_law_points [] [] f fd) (O_law_take_L0 : Ok1 P w K mg base 2 "_law_take" 2 [] F_law_take) (hm : mg "_law_points" = some (.ref f)) : Ok1 P w K mg base 3 "_law_points" 2 [] F_law_points := ok_of ⟨D.F, hm⟩ (fn_law_points B D O_law_take_L0) (fun _ _ _ _ _ _ us hl => match us, hl with | [_, _], _ => rfl)
theorem sc_law_drawn_face : FnScope ["_law_box_here", "_law_points_here", "_law_biggest", "_law_some", "_law_face", "_law_k"] ["_law_box_here", "_law_points_here", "_law_biggest"] (defScope s_law_drawn_face) := ⟨rfl, rfl, rfl, by decide +kernel, rfl, by decide +kernel, by decide +kernel⟩
theorem fn_law_drawn_face (B : Blt K mg) {f : Addr} {fd : FuncData} (D : Dm K "_law_drawn_face" "_law_drawn_face" s_law_drawn_face [] [] f fd) (O_law_take_L0 : Ok1 P w K mg base 2 "_law_take" 2 [] F_law_take) : FnOk P w K mg base (L2N.CX P w) 3 f fd ["_law_box_here", "_law_points_here", "_law_biggest"] (spF ⟨K, mg⟩ 3 F_law_drawn_face) :=
  fnokM_of (k := 2) (N := ["_law_box_here", "_law_points_here", "_law_biggest", "_law_some", "_law_face", "_law_k"]) (n := 6) D sc_law_drawn_face rfl (by decide) rfl fun cdv A outer s H E hr =>
      (js_cons (js_set (i := 3) sc_law_drawn_face.nd rfl (by first | exact Or.inl rfl | exact Or.inr rfl) (j_callTyO cr_listO (by rfl) B.n_list (by decide +kernel) (ja_cons (j_var 1 (pv 1)) ja_nil)))
      (js_cons (js_set (i := 4) sc_law_drawn_face.nd rfl (by first | exact Or.inl rfl | exact Or.inr rfl) (j_lstO ja_nil))
      (js_cons (js_for (passes_of rfl) rfl (ji_range1 (by rfl) B.n_range (j_callB (cr_minJ rfl) (by rfl) B.n_min (by decide +kernel) (ja_cons (j_callB cr_len (by rfl) B.n_len (by decide +kernel) (ja_cons (j_var 3 (pv 3)) ja_nil)) (ja_cons (j_bin or_add j_int (j_callO O_law_take_L0 (hr.mono (by decide)) (by rfl) (L2N.takes_of rfl rfl rfl rfl) (ja_cons (j_var 0 (pv 0)) (ja_cons (j_bin or_add (j_var 2 (pv 2)) j_int) ja_nil)))) ja_nil)))) (pg_name (i := 5) sc_law_drawn_face.nd rfl (by first | exact Or.inl rfl | exact Or.inr rfl)) (pat_nm 5) (js_one (js_expr (j_app (j_var 4 (pv 4)) (j_pop (j_var 3 (pv 3)) (j_callO O_law_take_L0 (hr.mono (by decide)) (by rfl) (L2N.takes_of rfl rfl rfl rfl) (ja_cons (j_var 0 (pv 0)) (ja_cons (j_callB cr_len (by rfl) B.n_len (by decide +kernel) (ja_cons (j_var 3 (pv 3)) ja_nil)) ja_nil))))))))
      (js_one (js_ret (j_callTy cr_tupleJ (by rfl) B.n_tuple (by decide +kernel) (ja_cons (j_frzD (j_var 4 (pv 4))) ja_nil)))))))
theorem ok_law_drawn_face_L0 (B : Blt K mg) {f : Addr} {fd : FuncData} (D : Dm K "_law_drawn_face" "_law_drawn_face" s_law_drawn_face [] [] f fd) (O_law_take_L0 : Ok1 P w K mg base 2 "_law_take" 2 [] F_law_take) (hm : mg "_law_drawn_face" = some (.ref f)) : Ok1 P w K mg base 3 "_law_drawn_face" 3 [] F_law_drawn_face := ok_of ⟨D.F, hm⟩ (fn_law_drawn_face B D O_law_take_L0) (fun _ _ _ _ _ _ us hl => match us, hl with | [_, _, _], _ => rfl)
theorem sc_law_drawn_tops : FnScope ["_law_box_here", "_law_most_points", "_law_most_tops", "_law_biggest", "_law_points_here", "_law_k"] ["_law_box_here", "_law_most_points", "_law_most_tops", "_law_biggest"] (defScope s_law_drawn_tops) := ⟨rfl, rfl, rfl, by decide +kernel, rfl, by decide +kernel, by decide +kernel⟩
theorem fn_law_drawn_tops (B : Blt K mg) {f : Addr} {fd : FuncData} (D : Dm K "_law_drawn_tops" "_law_drawn_tops" s_law_drawn_tops [] [] f fd) (O_law_take_L0 : Ok1 P w K mg base 2 "_law_take" 2 [] F_law_take) (O_law_points_L0 : Ok1 P w K mg base 3 "_law_points" 2 [] F_law_points) (O_law_drawn_face_L0 : Ok1 P w K mg base 3 "_law_drawn_face" 3 [] F_law_drawn_face) : FnOk P w K mg base (L2N.CX P w) 4 f fd ["_law_box_here", "_law_most_points", "_law_most_tops", "_law_biggest"] (spF ⟨K, mg⟩ 4 F_law_drawn_tops) :=
  fnokM_of (k := 3) (N := ["_law_box_here", "_law_most_points", "_law_most_tops", "_law_biggest", "_law_points_here", "_law_k"]) (n := 6) D sc_law_drawn_tops rfl (by decide) rfl fun cdv A outer s H E hr =>
      (js_cons (js_set (i := 4) sc_law_drawn_tops.nd rfl (by first | exact Or.inl rfl | exact Or.inr rfl) (j_callO O_law_points_L0 (hr.mono (by decide)) (by rfl) (L2N.takes_of rfl rfl rfl rfl) (ja_cons (j_var 0 (pv 0)) (ja_cons (j_bin or_add j_int (j_callO O_law_take_L0 (hr.mono (by decide)) (by rfl) (L2N.takes_of rfl rfl rfl rfl) (ja_cons (j_var 0 (pv 0)) (ja_cons (j_var 1 (pv 1)) ja_nil)))) ja_nil))))
      (js_one (js_ret (j_lc rfl sc_law_drawn_tops.nd (ji_range1 (by rfl) B.n_range (j_callO O_law_take_L0 (hr.mono (by decide)) (by rfl) (L2N.takes_of rfl rfl rfl rfl) (ja_cons (j_var 0 (pv 0)) (ja_cons (j_bin or_add (j_var 2 (pv 2)) j_int) ja_nil)))) (blkOk_by (own := [("_law_k", 5)]) (by kernel_rfl)) (fun _ _ _ _ _ => (pg_name (i := 5) sc_law_drawn_tops.nd rfl (by first | exact Or.inl rfl | exact Or.inr rfl))) (pat_nm 5) (fun _ _ _ _ _ => jts_nil) (fun _ _ _ _ _ => (j_callO O_law_drawn_face_L0 (hr.mono (by decide)) (by rfl) takesN0 (ja_cons (j_var 0 (pv 0)) (ja_cons (j_var 4 (pv 4)) (ja_cons (j_var 3 (pv 3)) ja_nil)))))))))
theorem ok_law_drawn_tops_L0 (B : Blt K mg) {f : Addr} {fd : FuncData} (D : Dm K "_law_drawn_tops" "_law_drawn_tops" s_law_drawn_tops [] [] f fd) (O_law_take_L0 : Ok1 P w K mg base 2 "_law_take" 2 [] F_law_take) (O_law_points_L0 : Ok1 P w K mg base 3 "_law_points" 2 [] F_law_points) (O_law_drawn_face_L0 : Ok1 P w K mg base 3 "_law_drawn_face" 3 [] F_law_drawn_face) (hm : mg "_law_drawn_tops" = some (.ref f)) : Ok1 P w K mg base 4 "_law_drawn_tops" 4 [] F_law_drawn_tops := ok_of ⟨D.F, hm⟩ (fn_law_drawn_tops B D O_law_take_L0 O_law_points_L0 O_law_drawn_face_L0) (fun _ _ _ _ _ _ us hl => match us, hl with | [_, _, _, _], _ => rfl)
theorem sc_law_subs : FnScope ["_law_face", "_law_found", "_law_point", "_law_some"] ["_law_face"] (defScope s_law_subs) := ⟨rfl, rfl, rfl, by decide +kernel, rfl, by decide +kernel, by decide +kernel⟩
theorem fn_law_subs (B : Blt K mg) {f : Addr} {fd : FuncData} (D : Dm K "_law_subs" "_law_subs" s_law_subs [] [] f fd) : FnOk P w K mg base (L2N.CX P w) 1 f fd ["_law_face"] (spF ⟨K, mg⟩ 1 F_law_subs) :=
  fnokM_of (k := 0) (N := ["_law_face", "_law_found", "_law_point", "_law_some"]) (n := 4) D sc_law_subs rfl (by decide) rfl fun cdv A outer s H E hr =>
      (js_cons (js_set (i := 1) sc_law_subs.nd rfl (by first | exact Or.inl rfl | exact Or.inr rfl) (j_lst (ja_cons (j_tup ja_nil) ja_nil)))
      (js_cons (js_for (passes_of rfl) rfl (ji_seq (j_callB (cr_sortedJ hr.units) (by rfl) B.n_sorted (by decide +kernel) (ja_cons (j_var 0 (pv 0)) ja_nil))) (pg_name (i := 2) sc_law_subs.nd rfl (by first | exact Or.inl rfl | exact Or.inr rfl)) (pat_nm 2) (js_one (js_set (i := 1) sc_law_subs.nd rfl (by first | exact Or.inl rfl | exact Or.inr rfl) (j_bin or_add (j_var 1 (pv 1)) (j_lc rfl sc_law_subs.nd (ji_seq (j_var 1 (pv 1))) (blkOk_by (own := [("_law_some", 3)]) (by kernel_rfl)) (fun _ _ _ _ _ => (pg_name (i := 3) sc_law_subs.nd rfl (by first | exact Or.inl rfl | exact Or.inr rfl))) (pat_nm 3) (fun _ _ _ _ _ => jts_nil) (fun _ _ _ _ _ => (j_bin or_add (j_var 3 (pv 3)) (j_tup (ja_cons (j_var 2 (pv 2)) ja_nil)))))))))
      (js_one (js_ret (j_sl (j_var 1 (pv 1)) (jo_some j_int) jo_none)))))
theorem ok_law_subs_L0 (B : Blt K mg) {f : Addr} {fd : FuncData} (D : Dm K "_law_subs" "_law_subs" s_law_subs [] [] f fd) (hm : mg "_law_subs" = some (.ref f)) : Ok1 P w K mg base 1 "_law_subs" 1 [] F_law_subs := ok_of ⟨D.F, hm⟩ (fn_law_subs B D) (fun _ _ _ _ _ _ us hl => match us, hl with | [_], _ => rfl)
theorem sc_law_fourwall : FnScope ["_law_points_here", "_law_biggest", "_law_found", "_law_face"] ["_law_points_here", "_law_biggest"] (defScope s_law_fourwall) := ⟨rfl, rfl, rfl, by decide +kernel, rfl, by decide +kernel, by decide +kernel⟩
theorem fn_law_fourwall (B : Blt K mg) {f : Addr} {fd : FuncData} (D : Dm K "_law_fourwall" "_law_fourwall" s_law_fourwall [] [] f fd) (O_law_subs_L0 : Ok1 P w K mg base 1 "_law_subs" 1 [] F_law_subs) : FnOk P w K mg base (L2N.CX P w) 2 f fd ["_law_points_here", "_law_biggest"] (spF ⟨K, mg⟩ 2 F_law_fourwall) :=
  fnokM_of (k := 1) (N := ["_law_points_here", "_law_biggest", "_law_found", "_law_face"]) (n := 4) D sc_law_fourwall rfl (by decide) rfl fun cdv A outer s H E hr =>
      (js_cons (js_set (i := 2) sc_law_fourwall.nd rfl (by first | exact Or.inl rfl | exact Or.inr rfl) (j_lstO ja_nil))
      (js_cons (js_for (passes_of rfl) rfl (ji_seq (j_callO O_law_subs_L0 (hr.mono (by decide)) (by rfl) (L2N.takes_of rfl rfl rfl rfl) (ja_cons (j_var 0 (pv 0)) ja_nil))) (pg_name (i := 3) sc_law_fourwall.nd rfl (by first | exact Or.inl rfl | exact Or.inr rfl)) (pat_nm 3) (js_one (js_if (jt_cmp (or_eq hr) (j_callB cr_len (by rfl) B.n_len (by decide +kernel) (ja_cons (j_var 3 (pv 3)) ja_nil)) (j_bin or_add (j_var 1 (pv 1)) j_int) (nomark _)) (js_one (js_expr (j_app (j_var 2 (pv 2)) (j_var 3 (pv 3))))) js_nil)))
      (js_one (js_ret (j_frzD (j_var 2 (pv 2)))))))
theorem ok_law_fourwall_L0 (B : Blt K mg) {f : Addr} {fd : FuncData} (D : Dm K "_law_fourwall" "_law_fourwall" s_law_fourwall [] [] f fd) (O_law_subs_L0 : Ok1 P w K mg base 1 "_law_subs" 1 [] F_law_subs) (hm : mg "_law_fourwall" = some (.ref f)) : Ok1 P w K mg base 2 "_law_fourwall" 2 [] F_law_fourwall := ok_of ⟨D.F, hm⟩ (fn_law_fourwall B D O_law_subs_L0) (fun _ _ _ _ _ _ us hl => match us, hl with | [_, _], _ => rfl)
theorem sc_law_wound : FnScope ["_law_points_here", "_law_times", "_law_outer", "_law_inner", "_law_top", "_law_found", "_law_k", "_law_a", "_law_b"] ["_law_points_here", "_law_times"] (defScope s_law_wound) := ⟨rfl, rfl, rfl, by decide +kernel, rfl, by decide +kernel, by decide +kernel⟩
theorem fn_law_wound (B : Blt K mg) {f : Addr} {fd : FuncData} (D : Dm K "_law_wound" "_law_wound" s_law_wound [] [] f fd) : FnOk P w K mg base (L2N.CX P w) 1 f fd ["_law_points_here", "_law_times"] (spF ⟨K, mg⟩ 2 F_law_wound) :=
  fnokM_of (k := 0) (N := ["_law_points_here", "_law_times", "_law_outer", "_law_inner", "_law_top", "_law_found", "_law_k", "_law_a", "_law_b"]) (n := 9) D sc_law_wound rfl (by decide) rfl fun cdv A outer s H E hr =>
      (js_cons (js_set (i := 2) sc_law_wound.nd rfl (by first | exact Or.inl rfl | exact Or.inr rfl) (j_sl (j_var 0 (pv 0)) jo_none (jo_some (j_bin or_mul j_int (j_var 1 (pv 1))))))
      (js_cons (js_set (i := 3) sc_law_wound.nd rfl (by first | exact Or.inl rfl | exact Or.inr rfl) (j_sl (j_var 0 (pv 0)) (jo_some (j_bin or_mul j_int (j_var 1 (pv 1)))) (jo_some (j_bin or_add (j_bin or_mul j_int (j_var 1 (pv 1))) j_int))))
      (js_cons (js_set (i := 4) sc_law_wound.nd rfl (by first | exact Or.inl rfl | exact Or.inr rfl) (j_ix ir_ix (j_var 0 (pv 0)) (j_bin or_add (j_bin or_mul j_int (j_var 1 (pv 1))) j_int) (fun _ _ => rfl)))
      (js_cons (js_set (i := 5) sc_law_wound.nd rfl (by first | exact Or.inl rfl | exact Or.inr rfl) (j_lst ja_nil))
      (js_cons (js_for (passes_of rfl) rfl (ji_range1 (by rfl) B.n_range (j_bin or_mul j_int (j_var 1 (pv 1)))) (pg_name (i := 6) sc_law_wound.nd rfl (by first | exact Or.inl rfl | exact Or.inr rfl)) (pat_nm 6) (js_cons (js_set (i := 7) sc_law_wound.nd rfl (by first | exact Or.inl rfl | exact Or.inr rfl) (j_ix ir_ix (j_var 2 (pv 2)) (j_var 6 (pv 6)) (fun _ _ => rfl)))
      (js_cons (js_set (i := 8) sc_law_wound.nd rfl (by first | exact Or.inl rfl | exact Or.inr rfl) (j_ix ir_ix (j_var 2 (pv 2)) (j_bin or_mod (j_bin or_add (j_var 6 (pv 6)) j_int) (j_bin or_mul j_int (j_var 1 (pv 1)))) (fun _ _ => rfl)))
      (js_one (js_set (i := 5) sc_law_wound.nd rfl (by first | exact Or.inl rfl | exact Or.inr rfl) (j_bin or_add (j_var 5 (pv 5)) (j_lst (ja_cons (j_tup (ja_cons (j_var 7 (pv 7)) (ja_cons (j_var 8 (pv 8)) (ja_cons (j_ix ir_ix (j_var 3 (pv 3)) (j_bin or_mod (j_var 6 (pv 6)) j_int) (fun _ _ => rfl)) ja_nil)))) (ja_cons (j_tup (ja_cons (j_var 8 (pv 8)) (ja_cons (j_ix ir_ix (j_var 3 (pv 3)) (j_bin or_mod (j_var 6 (pv 6)) j_int) (fun _ _ => rfl)) (ja_cons (j_ix ir_ix (j_var 3 (pv 3)) (j_bin or_mod (j_bin or_add (j_var 6 (pv 6)) j_int) j_int) (fun _ _ => rfl)) ja_nil)))) (ja_cons (j_tup (ja_cons (j_var 7 (pv 7)) (ja_cons (j_var 8 (pv 8)) (ja_cons (j_var 4 (pv 4)) ja_nil)))) ja_nil))))))))))
      (js_one (js_ret (j_var 5 (pv 5)))))))))
theorem ok_law_wound_L0 (B : Blt K mg) {f : Addr} {fd : FuncData} (D : Dm K "_law_wound" "_law_wound" s_law_wound [] [] f fd) (hm : mg "_law_wound" = some (.ref f)) : Ok1 P w K mg base 1 "_law_wound" 2 [] F_law_wound := ok_of ⟨D.F, hm⟩ (fn_law_wound B D) (fun _ _ _ _ _ _ us hl => match us, hl with | [_, _], _ => rfl)
theorem sc_law_tyre : FnScope ["_law_points_here", "_law_found", "_law_k"] ["_law_points_here"] (defScope s_law_tyre) := ⟨rfl, rfl, rfl, by decide +kernel, rfl, by decide +kernel, by decide +kernel⟩
theorem fn_law_tyre (B : Blt K mg) {f : Addr} {fd : FuncData} (D : Dm K "_law_tyre" "_law_tyre" s_law_tyre [] [] f fd) : FnOk P w K mg base (L2N.CX P w) 1 f fd ["_law_points_here"] (spF ⟨K, mg⟩ 1 F_law_tyre) :=
  fnokM_of (k := 0) (N := ["_law_points_here", "_law_found", "_law_k"]) (n := 3) D sc_law_tyre rfl (by decide) rfl fun cdv A outer s H E hr =>
      (js_cons (js_set (i := 1) sc_law_tyre.nd rfl (by first | exact Or.inl rfl | exact Or.inr rfl) (j_lstO ja_nil))
      (js_cons (js_for (passes_of rfl) rfl (ji_range1 (by rfl) B.n_range j_int) (pg_name (i := 2) sc_law_tyre.nd rfl (by first | exact Or.inl rfl | exact Or.inr rfl)) (pat_nm 2) (js_cons (js_expr (j_app (j_var 1 (pv 1)) (j_tup (ja_cons (j_ix ir_ix (j_var 0 (pv 0)) (j_var 2 (pv 2)) (fun _ _ => rfl)) (ja_cons (j_ix ir_ix (j_var 0 (pv 0)) (j_bin or_mod (j_bin or_add (j_var 2 (pv 2)) j_int) j_int) (fun _ _ => rfl)) (ja_cons (j_ix ir_ix (j_var 0 (pv 0)) (j_bin or_mod (j_bin or_add (j_var 2 (pv 2)) j_int) j_int) (fun _ _ => rfl)) ja_nil))))))
      (js_one (js_expr (j_app (j_var 1 (pv 1)) (j_tup (ja_cons (j_ix ir_ix (j_var 0 (pv 0)) (j_var 2 (pv 2)) (fun _ _ => rfl)) (ja_cons (j_ix ir_ix (j_var 0 (pv 0)) (j_bin or_mod (j_bin or_add (j_var 2 (pv 2)) j_int) j_int) (fun _ _ => rfl)) (ja_cons (j_ix ir_ix (j_var 0 (pv 0)) (j_bin or_mod (j_bin or_add (j_var 2 (pv 2)) j_int) j_int) (fun _ _ => rfl)) ja_nil)))))))))
      (js_one (js_ret (j_frzD (j_var 1 (pv 1)))))))
theorem ok_law_tyre_L0 (B : Blt K mg) {f : Addr} {fd : FuncData} (D : Dm K "_law_tyre" "_law_tyre" s_law_tyre [] [] f fd) (hm : mg "_law_tyre" = some (.ref f)) : Ok1 P w K mg base 1 "_law_tyre" 1 [] F_law_tyre := ok_of ⟨D.F, hm⟩ (fn_law_tyre B D) (fun _ _ _ _ _ _ us hl => match us, hl with | [_], _ => rfl)
theorem sc_law_some_tops : FnScope ["_law_box_here", "_law_way"] ["_law_box_here"] (defScope s_law_some_tops) := ⟨rfl, rfl, rfl, by decide +kernel, rfl, by decide +kernel, by decide +kernel⟩
theorem fn_law_some_tops (B : Blt K mg) {f : Addr} {fd : FuncData} (D : Dm K "_law_some_tops" "_law_some_tops" s_law_some_tops [] [] f fd) (O_law_take_L0 : Ok1 P w K mg base 2 "_law_take" 2 [] F_law_take) (O_law_drawn_tops_L0 : Ok1 P w K mg base 4 "_law_drawn_tops" 4 [] F_law_drawn_tops) (O_law_points_L0 : Ok1 P w K mg base 3 "_law_points" 2 [] F_law_points) (O_law_fourwall_L0 : Ok1 P w K mg base 2 "_law_fourwall" 2 [] F_law_fourwall) (O_law_wound_L0 : Ok1 P w K mg base 1 "_law_wound" 2 [] F_law_wound) (O_law_tyre_L0 : Ok1 P w K mg base 1 "_law_tyre" 1 [] F_law_tyre) : FnOk P w K mg base (L2N.CX P w) 5 f fd ["_law_box_here"] (spF ⟨K, mg⟩ 1 F_law_some_tops) :=
  fnokM_of (k := 4) (N := ["_law_box_here", "_law_way"]) (n := 2) D sc_law_some_tops rfl (by decide) rfl fun cdv A outer s H E hr =>
      (js_cons (js_set (i := 1) sc_law_some_tops.nd rfl (by first | exact Or.inl rfl | exact Or.inr rfl) (j_callO O_law_take_L0 (hr.mono (by decide)) (by rfl) (L2N.takes_of rfl rfl rfl rfl) (ja_cons (j_var 0 (pv 0)) (ja_cons j_int ja_nil))))
      (js_cons (js_if (jt_cmp or_lt (j_var 1 (pv 1)) j_int (nomark _)) (js_one (js_ret (j_callO O_law_drawn_tops_L0 (hr.mono (by decide)) (by rfl) (L2N.takes_of rfl rfl rfl rfl) (ja_cons (j_var 0 (pv 0)) (ja_cons j_int (ja_cons j_int (ja_cons j_int ja_nil))))))) js_nil)
      (js_cons (js_if (jt_cmp (or_eq hr) (j_var 1 (pv 1)) j_int (nomark _)) (js_one (js_ret (j_callO O_law_drawn_tops_L0 (hr.mono (by decide)) (by rfl) (L2N.takes_of rfl rfl rfl rfl) (ja_cons (j_var 0 (pv 0)) (ja_cons j_int (ja_cons j_int (ja_cons j_int ja_nil))))))) js_nil)
      (js_cons (js_if (jt_cmp (or_eq hr) (j_var 1 (pv 1)) j_int (nomark _)) (js_one (js_ret (j_callO O_law_fourwall_L0 (hr.mono (by decide)) (by rfl) (L2N.takes_of rfl rfl rfl rfl) (ja_cons (j_callO O_law_points_L0 (hr.mono (by decide)) (by rfl) (L2N.takes_of rfl rfl rfl rfl) (ja_cons (j_var 0 (pv 0)) (ja_cons (j_bin or_add j_int (j_callO O_law_take_L0 (hr.mono (by decide)) (by rfl) (L2N.takes_of rfl rfl rfl rfl) (ja_cons (j_var 0 (pv 0)) (ja_cons j_int ja_nil)))) ja_nil))) (ja_cons (j_bin or_add j_int (j_callO O_law_take_L0 (hr.mono (by decide)) (by rfl) (L2N.takes_of rfl rfl rfl rfl) (ja_cons (j_var 0 (pv 0)) (ja_cons j_int ja_nil)))) ja_nil))))) js_nil)
      (js_cons (js_if (jt_cmp (or_eq hr) (j_var 1 (pv 1)) j_int (nomark _)) (js_one (js_ret (j_callO O_law_wound_L0 (hr.mono (by decide)) (by rfl) (L2N.takes_of rfl rfl rfl rfl) (ja_cons (j_callO O_law_points_L0 (hr.mono (by decide)) (by rfl) (L2N.takes_of rfl rfl rfl rfl) (ja_cons (j_var 0 (pv 0)) (ja_cons j_int ja_nil))) (ja_cons j_int ja_nil))))) js_nil)
      (js_one (js_ret (j_callO O_law_tyre_L0 (hr.mono (by decide)) (by rfl) (L2N.takes_of rfl rfl rfl rfl) (ja_cons (j_callO O_law_points_L0 (hr.mono (by decide)) (by rfl) (L2N.takes_of rfl rfl rfl rfl) (ja_cons (j_var 0 (pv 0)) (ja_cons j_int ja_nil))) ja_nil)))))))))
theorem ok_law_some_tops_L0 (B : Blt K mg) {f : Addr} {fd : FuncData} (D : Dm K "_law_some_tops" "_law_some_tops" s_law_some_tops [] [] f fd) (O_law_take_L0 : Ok1 P w K mg base 2 "_law_take" 2 [] F_law_take) (O_law_drawn_tops_L0 : Ok1 P w K mg base 4 "_law_drawn_tops" 4 [] F_law_drawn_tops) (O_law_points_L0 : Ok1 P w K mg base 3 "_law_points" 2 [] F_law_points) (O_law_fourwall_L0 : Ok1 P w K mg base 2 "_law_fourwall" 2 [] F_law_fourwall) (O_law_wound_L0 : Ok1 P w K mg base 1 "_law_wound" 2 [] F_law_wound) (O_law_tyre_L0 : Ok1 P w K mg base 1 "_law_tyre" 1 [] F_law_tyre) (hm : mg "_law_some_tops" = some (.ref f)) : Ok1 P w K mg base 5 "_law_some_tops" 1 [] F_law_some_tops := ok_of ⟨D.F, hm⟩ (fn_law_some_tops B D O_law_take_L0 O_law_drawn_tops_L0 O_law_points_L0 O_law_fourwall_L0 O_law_wound_L0 O_law_tyre_L0) (fun _ _ _ _ _ _ us hl => match us, hl with | [_], _ => rfl)
theorem sc_law_closed : FnScope ["_law_tops_here", "_law_found", "_law_face"] ["_law_tops_here"] (defScope s_law_closed) := ⟨rfl, rfl, rfl, by decide +kernel, rfl, by decide +kernel, by decide +kernel⟩
theorem fn_law_closed (B : Blt K mg) {f : Addr} {fd : FuncData} (D : Dm K "_law_closed" "_law_closed" s_law_closed [] [] f fd) (O_law_subs_L0 : Ok1 P w K mg base 1 "_law_subs" 1 [] F_law_subs) : FnOk P w K mg base (L2N.CX P w) 2 f fd ["_law_tops_here"] (spF ⟨K, mg⟩ 1 F_law_closed) :=
  fnokM_of (k := 1) (N := ["_law_tops_here", "_law_found", "_law_face"]) (n := 3) D sc_law_closed rfl (by decide) rfl fun cdv A outer s H E hr =>
      (js_cons (js_set (i := 1) sc_law_closed.nd rfl (by first | exact Or.inl rfl | exact Or.inr rfl) (j_lst ja_nil))
      (js_cons (js_for (passes_of rfl) rfl (ji_seq (j_var 0 (pv 0))) (pg_name (i := 2) sc_law_closed.nd rfl (by first | exact Or.inl rfl | exact Or.inr rfl)) (pat_nm 2) (js_one (js_set (i := 1) sc_law_closed.nd rfl (by first | exact Or.inl rfl | exact Or.inr rfl) (j_bin or_add (j_var 1 (pv 1)) (j_callO O_law_subs_L0 (hr.mono (by decide)) (by rfl) (L2N.takes_of rfl rfl rfl rfl) (ja_cons (j_var 2 (pv 2)) ja_nil))))))
      (js_one (js_ret (j_sortSet hr rfl (by rfl) B.n_sorted (by rfl) B.n_set (j_var 1 (pv 1)))))))
theorem ok_law_closed_L0 (B : Blt K mg) {f : Addr} {fd : FuncData} (D : Dm K "_law_closed" "_law_closed" s_law_closed [] [] f fd) (O_law_subs_L0 : Ok1 P w K mg base 1 "_law_subs" 1 [] F_law_subs) (hm : mg "_law_closed" = some (.ref f)) : Ok1 P w K mg base 2 "_law_closed" 1 [] F_law_closed := ok_of ⟨D.F, hm⟩ (fn_law_closed B D O_law_subs_L0) (fun _ _ _ _ _ _ us hl => match us, hl with | [_], _ => rfl)
theorem sc_is_face : FnScope ["face", "point"] ["face"] (defScope s_is_face) := ⟨rfl, rfl, rfl, by decide +kernel, rfl, by decide +kernel, by decide +kernel⟩
theorem fn_is_face (B : Blt K mg) {f : Addr} {fd : FuncData} (D : Dm K "is_face" "is_face" s_is_face [] [] f fd) : FnOk P w K mg base (L2N.CX P w) 1 f fd ["face"] (spF ⟨K, mg⟩ 1 F_is_face) :=
  fnokM_of (k := 0) (N := ["face", "point"]) (n := 2) D sc_is_face rfl (by decide) rfl fun cdv A outer s H E hr =>
      (js_cons (js_if (PW.pt (jw_or (jt_not (jt_chain or_le or_le j_int (j_callB cr_len (by rfl) B.n_len (by decide +kernel) (ja_cons (j_var 0 (pv 0)) ja_nil)) (j_bin or_add (j_globI (by rfl) B.g_SIZE_MOST) j_int))) (jw_or1 (jt_cmp or_lt (j_lenSc rfl sc_is_face.nd (by rfl) B.n_len (ji_seq (j_var 0 (pv 0))) (blkOk_by (own := [("point", 1)]) (by kernel_rfl)) (fun _ _ _ _ _ => (pg_name (i := 1) sc_is_face.nd rfl (by first | exact Or.inl rfl | exact Or.inr rfl))) (pat_nm 1) (fun _ _ _ _ _ => (j_var 1 (pv 1)))) (j_callB cr_len (by rfl) B.n_len (by decide +kernel) (ja_cons (j_var 0 (pv 0)) ja_nil)) (nomark _))))) (js_one (js_ret j_bl)) js_nil)
      (js_one (js_ret (j_callB (cr_allJ rfl) (by rfl) B.n_all (by decide +kernel) (ja_cons (j_lc rfl sc_is_face.nd (ji_seq (j_var 0 (pv 0))) (blkOk_by (own := [("point", 1)]) (by kernel_rfl)) (fun _ _ _ _ _ => (pg_name (i := 1) sc_is_face.nd rfl (by first | exact Or.inl rfl | exact Or.inr rfl))) (pat_nm 1) (fun _ _ _ _ _ => jts_nil) (fun _ _ _ _ _ => (j_chain or_le or_le j_int (j_var 1 (pv 1)) (j_globI (by rfl) B.g_POINTS_MOST)))) ja_nil)))))
theorem ok_is_face_L0 (B : Blt K mg) {f : Addr} {fd : FuncData} (D : Dm K "is_face" "is_face" s_is_face [] [] f fd) (hm : mg "is_face" = some (.ref f)) : Ok1 P w K mg base 1 "is_face" 1 [] F_is_face := ok_of ⟨D.F, hm⟩ (fn_is_face B D) (fun _ _ _ _ _ _ us hl => match us, hl with | [_], _ => rfl)
theorem sc_own_faces : FnScope ["face", "found", "point", "some"] ["face"] (defScope s_own_faces) := ⟨rfl, rfl, rfl, by decide +kernel, rfl, by decide +kernel, by decide +kernel⟩
theorem fn_own_faces (B : Blt K mg) {f : Addr} {fd : FuncData} (D : Dm K "own_faces" "own_faces" s_own_faces [] [] f fd) : FnOk P w K mg base (L2N.CX P w) 1 f fd ["face"] (spF ⟨K, mg⟩ 1 F_own_faces) :=
  fnokM_of (k := 0) (N := ["face", "found", "point", "some"]) (n := 4) D sc_own_faces rfl (by decide) rfl fun cdv A outer s H E hr =>
      (js_cons (js_set (i := 1) sc_own_faces.nd rfl (by first | exact Or.inl rfl | exact Or.inr rfl) (j_lst (ja_cons (j_tup ja_nil) ja_nil)))
      (js_cons (js_for (passes_of rfl) rfl (ji_seq (j_var 0 (pv 0))) (pg_name (i := 2) sc_own_faces.nd rfl (by first | exact Or.inl rfl | exact Or.inr rfl)) (pat_nm 2) (js_one (js_set (i := 1) sc_own_faces.nd rfl (by first | exact Or.inl rfl | exact Or.inr rfl) (j_bin or_add (j_var 1 (pv 1)) (j_lc rfl sc_own_faces.nd (ji_seq (j_var 1 (pv 1))) (blkOk_by (own := [("some", 3)]) (by kernel_rfl)) (fun _ _ _ _ _ => (pg_name (i := 3) sc_own_faces.nd rfl (by first | exact Or.inl rfl | exact Or.inr rfl))) (pat_nm 3) (fun _ _ _ _ _ => jts_nil) (fun _ _ _ _ _ => (j_bin or_add (j_var 3 (pv 3)) (j_tup (ja_cons (j_var 2 (pv 2)) ja_nil)))))))))
      (js_one (js_ret (j_sl (j_var 1 (pv 1)) (jo_some j_int) jo_none)))))
theorem ok_own_faces_L0 (B : Blt K mg) {f : Addr} {fd : FuncData} (D : Dm K "own_faces" "own_faces" s_own_faces [] [] f fd) (hm : mg "own_faces" = some (.ref f)) : Ok1 P w K mg base 1 "own_faces" 1 [] F_own_faces := ok_of ⟨D.F, hm⟩ (fn_own_faces B D) (fun _ _ _ _ _ _ us hl => match us, hl with | [_], _ => rfl)
theorem sc_Web_init : FnScope ["self", "faces", "known", "face", "at", "some", "size", "line"] ["self", "faces"] (defScope s_Web_init) := ⟨rfl, rfl, rfl, by decide +kernel, rfl, by decide +kernel, by decide +kernel⟩
theorem fn_Web_init (B : Blt K mg) {f : Addr} {fd : FuncData} {tp : Addr} (D : Dm K "__init__" "Web.__init__" s_Web_init [.ref tp] [] f fd) (O_is_face_L0 : Ok1 P w K mg base 1 "is_face" 1 [] F_is_face) (O_own_faces_L0 : Ok1 P w K mg base 1 "own_faces" 1 [] F_own_faces) : FnOk P w K mg base (L2N.CX P w) 2 f fd ["self", "faces"] (spF ⟨K, mg⟩ 2 F_Web_init) :=
  fnokM_of (k := 1) (N := ["self", "faces", "known", "face", "at", "some", "size", "line"]) (n := 8) D sc_Web_init rfl (by decide) rfl fun cdv A outer s H E hr =>
      (js_cons (js_set (i := 2) sc_Web_init.nd rfl (by first | exact Or.inl rfl | exact Or.inr rfl) j_dnew')
      (js_cons (js_for (passes_of rfl) rfl (ji_enum (by rfl) B.n_enumerate (ja_cons (j_var 1 (pv 1)) ja_nil)) (pg_tup rfl (pgs_cons (pg_name (i := 4) sc_Web_init.nd rfl (by first | exact Or.inl rfl | exact Or.inr rfl)) (pgs_cons (pg_name (i := 3) sc_Web_init.nd rfl (by first | exact Or.inl rfl | exact Or.inr rfl)) pgs_nil))) (pat_tup (pats_cons (pat_nm 4) (pats_cons (pat_nm 3) pats_nil))) (js_cons (js_if (jt_not (jt_val (j_callO O_is_face_L0 (hr.mono (by decide)) (by rfl) (L2N.takes_of rfl rfl rfl rfl) (ja_cons (j_var 3 (pv 3)) ja_nil)))) (js_one js_never) js_nil)
      (js_one (js_for (passes_of rfl) rfl (ji_seq (j_callO O_own_faces_L0 (hr.mono (by decide)) (by rfl) (L2N.takes_of rfl rfl rfl rfl) (ja_cons (j_callTy cr_tupleJ (by rfl) B.n_tuple (by decide +kernel) (ja_cons (j_callB (cr_sortedJ hr.units) (by rfl) B.n_sorted (by decide +kernel) (ja_cons (j_var 3 (pv 3)) ja_nil)) ja_nil)) ja_nil))) (pg_name (i := 5) sc_Web_init.nd rfl (by first | exact Or.inl rfl | exact Or.inr rfl)) (pat_nm 5) (js_one (js_setD hr j_bl (j_var 2 (pv 2)) (j_var 5 (pv 5))))))))
      (js_cons (js_if (jt_cmp or_gt (j_callB cr_lenD (by rfl) B.n_len (by decide +kernel) (ja_cons (j_var 2 (pv 2)) ja_nil)) (j_globI (by rfl) B.g_FACES_MOST) (nomark _)) (js_one js_never) js_nil)
      (js_cons (js_fld B.f_Web_table (j_var 0 (pv 0)) (j_lcR rfl sc_Web_init.nd (ji_range1 (by rfl) B.n_range (j_bin or_add (j_globI (by rfl) B.g_SIZE_MOST) j_int)) (blkOk_by (own := [("size", 6)]) (by kernel_rfl)) (fun _ _ _ _ _ => (pg_name (i := 6) sc_Web_init.nd rfl (by first | exact Or.inl rfl | exact Or.inr rfl))) (pat_nm 6) (fun _ _ _ _ _ => jts_nil) (fun _ _ _ _ _ => (j_lstO ja_nil))))
      (js_cons (js_for (passes_of rfl) rfl (ji_seq (j_callB (cr_sortedJ hr.units) (by rfl) B.n_sorted (by decide +kernel) (ja_cons (j_callTy (cr_listD rfl) (by rfl) B.n_list (by decide +kernel) (ja_cons (j_var 2 (pv 2)) ja_nil)) ja_nil))) (pg_name (i := 3) sc_Web_init.nd rfl (by first | exact Or.inl rfl | exact Or.inr rfl)) (pat_nm 3) (js_one (js_expr (j_app (j_ix ir_ix (j_fld B.f_Web_table (j_var 0 (pv 0))) (j_bin or_sub (j_callB cr_len (by rfl) B.n_len (by decide +kernel) (ja_cons (j_var 3 (pv 3)) ja_nil)) j_int) (fun _ _ => rfl)) (j_var 3 (pv 3))))))
      (js_one (js_fld B.f_Web_places (j_var 0 (pv 0)) (j_dc2 hr rfl sc_Web_init.nd (ji_seq (j_frzD (j_fld B.f_Web_table (j_var 0 (pv 0))))) (blkOk_by (own := [("line", 7), ("at", 4), ("face", 3)]) (by kernel_rfl)) (fun _ _ _ _ _ => (pg_name (i := 7) sc_Web_init.nd rfl (by first | exact Or.inl rfl | exact Or.inr rfl))) (pat_nm 7) (by decide) (fun _ _ _ _ _ => (ji_enum (by rfl) B.n_enumerate (ja_cons (j_var 7 (pv 7)) ja_nil))) (fun _ _ _ _ _ => (pg_tup rfl (pgs_cons (pg_name (i := 4) sc_Web_init.nd rfl (by first | exact Or.inl rfl | exact Or.inr rfl)) (pgs_cons (pg_name (i := 3) sc_Web_init.nd rfl (by first | exact Or.inl rfl | exact Or.inr rfl)) pgs_nil)))) (pat_tup (pats_cons (pat_nm 4) (pats_cons (pat_nm 3) pats_nil))) (by decide) (fun _ _ _ _ _ => (j_var 3 (pv 3))) (fun _ _ _ _ _ => (j_var 4 (pv 4)))))))))))
theorem ok_Web_init_C (B : Blt K mg) {f : Addr} {fd : FuncData} {tp : Addr} (D : Dm K "__init__" "Web.__init__" s_Web_init [.ref tp] [] f fd) (O_is_face_L0 : Ok1 P w K mg base 1 "is_face" 1 [] F_is_face) (O_own_faces_L0 : Ok1 P w K mg base 1 "own_faces" 1 [] F_own_faces) {C : Addr} (T : ClsT K mg "Web" C) (M : Mk K C f) : OkC P w K mg base 2 "Web" 2 [] F_Web_init := okCD_of T M D (fn_Web_init B D O_is_face_L0 O_own_faces_L0) 2 1 (by simp) rfl (fun _ _ _ _ _ _ _ us its h1 h2 => match us, h1, its, h2 with | [_, _], _, [_], _ => ⟨_, rfl, rfl⟩) (fun _ _ => rfl)
theorem sc_Web_eq : FnScope ["self", "other"] ["self", "other"] (defScope s_Web_eq) := ⟨rfl, rfl, rfl, by decide +kernel, rfl, by decide +kernel, by decide +kernel⟩
theorem fn_Web_eq (B : Blt K mg) {f : Addr} {fd : FuncData} (D : Dm K "__eq__" "Web.__eq__" s_Web_eq [] [] f fd) : FnOk P w K mg base (L2N.CX P w) 1 f fd ["self", "other"] (spF ⟨K, mg⟩ 2 F_Web_eq) :=
  fnokM_of (k := 0) (N := ["self", "other"]) (n := 2) D sc_Web_eq rfl (by decide) rfl fun cdv A outer s H E hr =>
      (js_one (js_ret (j_and (j_isiC B.i_Web (by rfl) B.n_isinstance (by rfl) (j_var 1 (pv 1))) (j_one (j_cmp (or_eq hr) (j_fld B.f_Web_table (j_var 0 (pv 0))) (j_fld B.f_Web_table (j_var 1 (pv 1))) (nomark _))))))
theorem ok_Web_eq_M0 (B : Blt K mg) {f : Addr} {fd : FuncData} (D : Dm K "__eq__" "Web.__eq__" s_Web_eq [] [] f fd) {C : Addr} (T : ClsT K mg "Web" C) (M : Meth K C "__eq__" f) : OkM P w K mg base 1 "Web" "__eq__" 2 [] F_Web_eq := okM_of T M D (fn_Web_eq B D) (fun _ _ _ _ _ _ us hl => match us, hl with | [_, _], _ => rfl)
theorem sc_law_tops : FnScope ["_law_every", "_law_face", "_law_other"] ["_law_every"] (defScope s_law_tops) := ⟨rfl, rfl, rfl, by decide +kernel, rfl, by decide +kernel, by decide +kernel⟩
theorem fn_law_tops (B : Blt K mg) {f : Addr} {fd : FuncData} (D : Dm K "_law_tops" "_law_tops" s_law_tops [] [] f fd) : FnOk P w K mg base (L2N.CX P w) 1 f fd ["_law_every"] (spF ⟨K, mg⟩ 1 F_law_tops) :=
  fnokM_of (k := 0) (N := ["_law_every", "_law_face", "_law_other"]) (n := 3) D sc_law_tops rfl (by decide) rfl fun cdv A outer s H E hr =>
      (js_one (js_ret (j_lc rfl sc_law_tops.nd (ji_seq (j_var 0 (pv 0))) (blkOk_by (own := [("_law_face", 1)]) (by kernel_rfl)) (fun _ _ _ _ _ => (pg_name (i := 1) sc_law_tops.nd rfl (by first | exact Or.inl rfl | exact Or.inr rfl))) (pat_nm 1) (fun _ _ _ _ _ => (jts_one (jt_cmp (or_eq hr) (j_callB cr_len (by rfl) B.n_len (by decide +kernel) (ja_cons (j_lc rfl sc_law_tops.nd (ji_seq (j_var 0 (pv 0))) (blkOk_by (own := [("_law_other", 2)]) (by kernel_rfl)) (fun _ _ _ _ _ => (pg_name (i := 2) sc_law_tops.nd rfl (by first | exact Or.inl rfl | exact Or.inr rfl))) (pat_nm 2) (fun _ _ _ _ _ => (jts_one (jt_setSub (ne := false) hr rfl (by rfl) B.n_set (j_var 1 (pv 1)) (pv 2)))) (fun _ _ _ _ _ => (j_var 2 (pv 2)))) ja_nil)) j_int (nomark _)))) (fun _ _ _ _ _ => (j_var 1 (pv 1))))))
theorem ok_law_tops_L0 (B : Blt K mg) {f : Addr} {fd : FuncData} (D : Dm K "_law_tops" "_law_tops" s_law_tops [] [] f fd) (hm : mg "_law_tops" = some (.ref f)) : Ok1 P w K mg base 1 "_law_tops" 1 [] F_law_tops := ok_of ⟨D.F, hm⟩ (fn_law_tops B D) (fun _ _ _ _ _ _ us hl => match us, hl with | [_], _ => rfl)
theorem sc_within : FnScope ["face", "other", "point"] ["face", "other"] (defScope s_within) := ⟨rfl, rfl, rfl, by decide +kernel, rfl, by decide +kernel, by decide +kernel⟩
theorem fn_within (B : Blt K mg) {f : Addr} {fd : FuncData} (D : Dm K "within" "within" s_within [] [] f fd) : FnOk P w K mg base (L2N.CX P w) 1 f fd ["face", "other"] (spF ⟨K, mg⟩ 2 F_within) :=
  fnokM_of (k := 0) (N := ["face", "other", "point"]) (n := 3) D sc_within rfl (by decide) rfl fun cdv A outer s H E hr =>
      (js_one (js_ret (j_callB (cr_allJ rfl) (by rfl) B.n_all (by decide +kernel) (ja_cons (j_lc rfl sc_within.nd (ji_seq (j_var 0 (pv 0))) (blkOk_by (own := [("point", 2)]) (by kernel_rfl)) (fun _ _ _ _ _ => (pg_name (i := 2) sc_within.nd rfl (by first | exact Or.inl rfl | exact Or.inr rfl))) (pat_nm 2) (fun _ _ _ _ _ => jts_nil) (fun _ _ _ _ _ => (j_cmp (or_in hr) (j_var 2 (pv 2)) (j_var 1 (pv 1)) rfl))) ja_nil))))
theorem ok_within_L0 (B : Blt K mg) {f : Addr} {fd : FuncData} (D : Dm K "within" "within" s_within [] [] f fd) (hm : mg "within" = some (.ref f)) : Ok1 P w K mg base 1 "within" 2 [] F_within := ok_of ⟨D.F, hm⟩ (fn_within B D) (fun _ _ _ _ _ _ us hl => match us, hl with | [_, _], _ => rfl)
theorem sc_Web_around : FnScope ["self", "face", "line", "other"] ["self", "face"] (defScope s_Web_around) := ⟨rfl, rfl, rfl, by decide +kernel, rfl, by decide +kernel, by decide +kernel⟩
theorem fn_Web_around (B : Blt K mg) {f : Addr} {fd : FuncData} (D : Dm K "around" "Web.around" s_Web_around [] [] f fd) (O_within_L0 : Ok1 P w K mg base 1 "within" 2 [] F_within) : FnOk P w K mg base (L2N.CX P w) 2 f fd ["self", "face"] (spF ⟨K, mg⟩ 2 F_Web_around) :=
  fnokM_of (k := 1) (N := ["self", "face", "line", "other"]) (n := 4) D sc_Web_around rfl (by decide) rfl fun cdv A outer s H E hr =>
      (js_one (js_ret (j_callB (cr_sortedJ hr.units) (by rfl) B.n_sorted (by decide +kernel) (ja_cons (j_lc2 rfl sc_Web_around.nd (ji_seq (j_fld B.f_Web_table (j_var 0 (pv 0)))) (blkOk_by (own := [("line", 2), ("other", 3)]) (by kernel_rfl)) (fun _ _ _ _ _ => (pg_name (i := 2) sc_Web_around.nd rfl (by first | exact Or.inl rfl | exact Or.inr rfl))) (pat_nm 2) (by decide) (fun _ _ _ _ _ => jts_nil) (fun _ _ _ _ _ => (ji_seq (j_var 2 (pv 2)))) (fun _ _ _ _ _ => (pg_name (i := 3) sc_Web_around.nd rfl (by first | exact Or.inl rfl | exact Or.inr rfl))) (pat_nm 3) (by decide) (fun _ _ _ _ _ => (jts_one (jt_val (j_callO O_within_L0 (hr.mono (by decide)) (by rfl) takesN0 (ja_cons (j_var 1 (pv 1)) (ja_cons (j_var 3 (pv 3)) ja_nil)))))) (fun _ _ _ _ _ => (j_var 3 (pv 3)))) ja_nil))))
theorem ok_Web_around_M0 (B : Blt K mg) {f : Addr} {fd : FuncData} (D : Dm K "around" "Web.around" s_Web_around [] [] f fd) (O_within_L0 : Ok1 P w K mg base 1 "within" 2 [] F_within) {C : Addr} (T : ClsT K mg "Web" C) (M : Meth K C "around" f) : OkM P w K mg base 2 "Web" "around" 2 [] F_Web_around := okM_of T M D (fn_Web_around B D O_within_L0) (fun _ _ _ _ _ _ us hl => match us, hl with | [_, _], _ => rfl)
theorem sc_Web_tops : FnScope ["self", "line", "face"] ["self"] (defScope s_Web_tops) := ⟨rfl, rfl, rfl, by decide +kernel, rfl, by decide +kernel, by decide +kernel⟩
theorem fn_Web_tops (B : Blt K mg) {f : Addr} {fd : FuncData} (D : Dm K "tops" "Web.tops" s_Web_tops [] [] f fd) (O_Web_around_M0 : OkM P w K mg base 2 "Web" "around" 2 [] F_Web_around) : FnOk P w K mg base (L2N.CX P w) 3 f fd ["self"] (spF ⟨K, mg⟩ 1 F_Web_tops) :=
  fnokM_of (k := 2) (N := ["self", "line", "face"]) (n := 3) D sc_Web_tops rfl (by decide) rfl fun cdv A outer s H E hr =>
      (js_one (js_ret (j_callB (cr_sortedJ hr.units) (by rfl) B.n_sorted (by decide +kernel) (ja_cons (j_lc2 rfl sc_Web_tops.nd (ji_seq (j_fld B.f_Web_table (j_var 0 (pv 0)))) (blkOk_by (own := [("line", 1), ("face", 2)]) (by kernel_rfl)) (fun _ _ _ _ _ => (pg_name (i := 1) sc_Web_tops.nd rfl (by first | exact Or.inl rfl | exact Or.inr rfl))) (pat_nm 1) (by decide) (fun _ _ _ _ _ => jts_nil) (fun _ _ _ _ _ => (ji_seq (j_var 1 (pv 1)))) (fun _ _ _ _ _ => (pg_name (i := 2) sc_Web_tops.nd rfl (by first | exact Or.inl rfl | exact Or.inr rfl))) (pat_nm 2) (by decide) (fun _ _ _ _ _ => (jts_one (jt_cmp (or_eq hr) (j_callB cr_len (by rfl) B.n_len (by decide +kernel) (ja_cons (j_meth O_Web_around_M0 (hr.mono (by decide)) (j_var 0 (pv 0)) (ja_cons (j_var 2 (pv 2)) ja_nil)) ja_nil)) j_int (nomark _)))) (fun _ _ _ _ _ => (j_var 2 (pv 2)))) ja_nil))))
theorem ok_Web_tops_M0 (B : Blt K mg) {f : Addr} {fd : FuncData} (D : Dm K "tops" "Web.tops" s_Web_tops [] [] f fd) (O_Web_around_M0 : OkM P w K mg base 2 "Web" "around" 2 [] F_Web_around) {C : Addr} (T : ClsT K mg "Web" C) (M : Meth K C "tops" f) : OkM P w K mg base 3 "Web" "tops" 1 [] F_Web_tops := okM_of T M D (fn_Web_tops B D O_Web_around_M0) (fun _ _ _ _ _ _ us hl => match us, hl with | [_], _ => rfl)
theorem sc_Web_str : FnScope ["self", "face", "point"] ["self"] (defScope s_Web_str) := ⟨rfl, rfl, rfl, by decide +kernel, rfl, by decide +kernel, by decide +kernel⟩
theorem fn_Web_str (B : Blt K mg) {f : Addr} {fd : FuncData} (D : Dm K "__str__" "Web.__str__" s_Web_str [] [] f fd) (O_Web_tops_M0 : OkM P w K mg base 3 "Web" "tops" 1 [] F_Web_tops) : FnOk P w K mg base (L2N.CX P w) 4 f fd ["self"] (spF ⟨K, mg⟩ 1 F_Web_str) :=
  fnokM_of (k := 3) (N := ["self", "face", "point"]) (n := 3) D sc_Web_str rfl (by decide) rfl fun cdv A outer s H E hr =>
      (js_cons (js_if (jt_cmp (or_eq hr) (j_callB cr_lenD (by rfl) B.n_len (by decide +kernel) (ja_cons (j_fld B.f_Web_places (j_var 0 (pv 0))) ja_nil)) j_int (nomark _)) (js_one (js_ret j_str)) js_nil)
      (js_one (js_ret (j_join j_str (j_lc rfl sc_Web_str.nd (ji_seq (j_meth0 O_Web_tops_M0 (hr.mono (by decide)) (j_var 0 (pv 0)))) (blkOk_by (own := [("face", 1)]) (by kernel_rfl)) (fun _ _ _ _ _ => (pg_name (i := 1) sc_Web_str.nd rfl (by first | exact Or.inl rfl | exact Or.inr rfl))) (pat_nm 1) (fun _ _ _ _ _ => jts_nil) (fun _ _ _ _ _ => (j_join j_str (j_lc rfl sc_Web_str.nd (ji_seq (j_var 1 (pv 1))) (blkOk_by (own := [("point", 2)]) (by kernel_rfl)) (fun _ _ _ _ _ => (pg_name (i := 2) sc_Web_str.nd rfl (by first | exact Or.inl rfl | exact Or.inr rfl))) (pat_nm 2) (fun _ _ _ _ _ => jts_nil) (fun _ _ _ _ _ => (j_callTy cr_strJ (by rfl) B.n_str (by decide +kernel) (ja_cons (j_var 2 (pv 2)) ja_nil)))))))))))
theorem ok_Web_str_M0 (B : Blt K mg) {f : Addr} {fd : FuncData} (D : Dm K "__str__" "Web.__str__" s_Web_str [] [] f fd) (O_Web_tops_M0 : OkM P w K mg base 3 "Web" "tops" 1 [] F_Web_tops) {C : Addr} (T : ClsT K mg "Web" C) (M : Meth K C "__str__" f) : OkM P w K mg base 4 "Web" "__str__" 1 [] F_Web_str := okM_of T M D (fn_Web_str B D O_Web_tops_M0) (fun _ _ _ _ _ _ us hl => match us, hl with | [_], _ => rfl)
theorem sc_law_alike : FnScope ["_law_found", "_law_due", "_law_one", "_law_other"] ["_law_found", "_law_due"] (defScope s_law_alike) := ⟨rfl, rfl, rfl, by decide +kernel, rfl, by decide +kernel, by decide +kernel⟩
theorem fn_law_alike (B : Blt K mg) {f : Addr} {fd : FuncData} (D : Dm K "_law_alike" "_law_alike" s_law_alike [] [] f fd) (hm : mg "_law_alike" = some (.ref f)) : ∀ d : Nat, FnOk P w K mg base (L2N.CX P w) (0 + d) f fd ["_law_found", "_law_due"] (spF ⟨K, mg⟩ 2 (F_law_alike d))
  | 0 => fn_no rfl
  | d + 1 => by
    have OkR : Ok1 P w K mg base (0 + d) "_law_alike" 2 [] (F_law_alike d) := ok_of ⟨D.F, hm⟩ (fn_law_alike B D hm d) (fun _ _ _ _ _ _ us hl => match us, hl with | [_, _], _ => rfl)
    exact fnokM_of (k := 0 + d) (N := ["_law_found", "_law_due", "_law_one", "_law_other"]) (n := 4) D sc_law_alike rfl (by decide) rfl fun cdv A outer s H E hr =>
      (js_cons (js_if (PW.pt (jw_or (jt_val (j_callB cr_isi (by rfl) B.n_isinstance (by decide +kernel) (ja_cons (j_var 1 (pv 1)) (ja_cons (j_ty (by rfl) B.n_list (by decide +kernel)) ja_nil)))) (jw_or1 (jt_val (j_callB cr_isi (by rfl) B.n_isinstance (by decide +kernel) (ja_cons (j_var 1 (pv 1)) (ja_cons (j_ty (by rfl) B.n_tuple (by decide +kernel)) ja_nil))))))) (js_cons (js_if (PW.pt (jw_or (jt_cmp (or_ne hr) (j_callB cr_isi (by rfl) B.n_isinstance (by decide +kernel) (ja_cons (j_var 0 (pv 0)) (ja_cons (j_ty (by rfl) B.n_list (by decide +kernel)) ja_nil))) (j_callB cr_isi (by rfl) B.n_isinstance (by decide +kernel) (ja_cons (j_var 1 (pv 1)) (ja_cons (j_ty (by rfl) B.n_list (by decide +kernel)) ja_nil))) (nomark _)) (jw_or1 (jt_cmp (or_ne hr) (j_callB cr_isi (by rfl) B.n_isinstance (by decide +kernel) (ja_cons (j_var 0 (pv 0)) (ja_cons (j_ty (by rfl) B.n_tuple (by decide +kernel)) ja_nil))) (j_callB cr_isi (by rfl) B.n_isinstance (by decide +kernel) (ja_cons (j_var 1 (pv 1)) (ja_cons (j_ty (by rfl) B.n_tuple (by decide +kernel)) ja_nil))) (nomark _))))) (js_one (js_ret j_bl)) js_nil)
      (js_one (js_ret (j_and (j_cmp (or_eq hr) (j_callB cr_len (by rfl) B.n_len (by decide +kernel) (ja_cons (j_var 0 (pv 0)) ja_nil)) (j_callB cr_len (by rfl) B.n_len (by decide +kernel) (ja_cons (j_var 1 (pv 1)) ja_nil)) (nomark _)) (j_one (j_callB (cr_allJ rfl) (by rfl) B.n_all (by decide +kernel) (ja_cons (j_lc rfl sc_law_alike.nd (ji_zip (by rfl) B.n_zip (ja_cons (j_var 0 (pv 0)) (ja_cons (j_var 1 (pv 1)) ja_nil))) (blkOk_by (own := [("_law_one", 2), ("_law_other", 3)]) (by kernel_rfl)) (fun _ _ _ _ _ => (pg_tup rfl (pgs_cons (pg_name (i := 2) sc_law_alike.nd rfl (by first | exact Or.inl rfl | exact Or.inr rfl)) (pgs_cons (pg_name (i := 3) sc_law_alike.nd rfl (by first | exact Or.inl rfl | exact Or.inr rfl)) pgs_nil)))) (pat_tup (pats_cons (pat_nm 2) (pats_cons (pat_nm 3) pats_nil))) (fun _ _ _ _ _ => jts_nil) (fun _ _ _ _ _ => (j_callO OkR hr (by rfl) takesN0 (ja_cons (j_var 2 (pv 2)) (ja_cons (j_var 3 (pv 3)) ja_nil))))) ja_nil))))))) js_nil)
      (js_cons (js_if (PW.pt (jw_or (jt_cmp or_isN (j_var 1 (pv 1)) j_non (nomark _)) (jw_or1 (jt_cmp or_isN (j_var 0 (pv 0)) j_non (nomark _))))) (js_one (js_ret (j_and (j_cmp or_isN (j_var 0 (pv 0)) j_non (nomark _)) (j_one (j_cmp or_isN (j_var 1 (pv 1)) j_non (nomark _)))))) js_nil)
      (js_cons (js_if (PW.pt (jw_or (jt_cmp (or_ne hr) (j_callB cr_isi (by rfl) B.n_isinstance (by decide +kernel) (ja_cons (j_var 0 (pv 0)) (ja_cons (j_ty (by rfl) B.n_bool (by decide +kernel)) ja_nil))) (j_callB cr_isi (by rfl) B.n_isinstance (by decide +kernel) (ja_cons (j_var 1 (pv 1)) (ja_cons (j_ty (by rfl) B.n_bool (by decide +kernel)) ja_nil))) (nomark _)) (jw_or1 (jt_cmp (or_ne hr) (j_callB cr_isi (by rfl) B.n_isinstance (by decide +kernel) (ja_cons (j_var 0 (pv 0)) (ja_cons (j_ty (by rfl) B.n_int (by decide +kernel)) ja_nil))) (j_callB cr_isi (by rfl) B.n_isinstance (by decide +kernel) (ja_cons (j_var 1 (pv 1)) (ja_cons (j_ty (by rfl) B.n_int (by decide +kernel)) ja_nil))) (nomark _))))) (js_one (js_ret j_bl)) js_nil)
      (js_one (js_ret (j_and (j_cmp (or_eq hr) (j_callB cr_isi (by rfl) B.n_isinstance (by decide +kernel) (ja_cons (j_var 0 (pv 0)) (ja_cons (j_ty (by rfl) B.n_str (by decide +kernel)) ja_nil))) (j_callB cr_isi (by rfl) B.n_isinstance (by decide +kernel) (ja_cons (j_var 1 (pv 1)) (ja_cons (j_ty (by rfl) B.n_str (by decide +kernel)) ja_nil))) (nomark _)) (j_one (j_cmp (or_eq hr) (j_var 0 (pv 0)) (j_var 1 (pv 1)) (nomark _)))))))))
theorem ok_law_alike_L0 (B : Blt K mg) {f : Addr} {fd : FuncData} (D : Dm K "_law_alike" "_law_alike" s_law_alike [] [] f fd) (hm : mg "_law_alike" = some (.ref f)) : Ok1 P w K mg base 4 "_law_alike" 2 [] (F_law_alike 4) := ok_of ⟨D.F, hm⟩ (fn_law_alike B D hm 4) (fun _ _ _ _ _ _ us hl => match us, hl with | [_, _], _ => rfl)
theorem sc_Web_repr : FnScope ["self"] ["self"] (defScope s_Web_repr) := ⟨rfl, rfl, rfl, by decide +kernel, rfl, by decide +kernel, by decide +kernel⟩
theorem fn_Web_repr (B : Blt K mg) {f : Addr} {fd : FuncData} (D : Dm K "__repr__" "Web.__repr__" s_Web_repr [] [] f fd) (O_Web_tops_M0 : OkM P w K mg base 3 "Web" "tops" 1 [] F_Web_tops) : FnG P w K mg base (L2N.CX P w) 4 f fd ["self"] (spF ⟨K, mg⟩ 1 F_Web_repr) :=
  fnokG_of (k := 3) (N := ["self"]) (n := 1) D sc_Web_repr rfl (by decide) rfl fun cdv A outer s H E hgd hr =>
      (js_one (js_ret (j_joined (.cons j_str (.cons (j_fmtL hgd hr (j_meth0 O_Web_tops_M0 (hr.mono (by decide)) (j_var 0 (pv 0)))) (.cons j_str .nil))))))
theorem ok_Web_repr_G (B : Blt K mg) {f : Addr} {fd : FuncData} (D : Dm K "__repr__" "Web.__repr__" s_Web_repr [] [] f fd) (O_Web_tops_M0 : OkM P w K mg base 3 "Web" "tops" 1 [] F_Web_tops) {C : Addr} (T : ClsT K mg "Web" C) (M : Meth K C "__repr__" f) : OkMG P w K mg base 4 "Web" "__repr__" 1 F_Web_repr := okMG_of T M D (fn_Web_repr B D O_Web_tops_M0) (fun _ _ _ _ _ _ us hl => match us, hl with | [_], _ => rfl)
theorem sc_Web_len : FnScope ["self"] ["self"] (defScope s_Web_len) := ⟨rfl, rfl, rfl, by decide +kernel, rfl, by decide +kernel, by decide +kernel⟩
theorem fn_Web_len (B : Blt K mg) {f : Addr} {fd : FuncData} (D : Dm K "__len__" "Web.__len__" s_Web_len [] [] f fd) : FnOk P w K mg base (L2N.CX P w) 1 f fd ["self"] (spF ⟨K, mg⟩ 1 F_Web_len) :=
  fnokM_of (k := 0) (N := ["self"]) (n := 1) D sc_Web_len rfl (by decide) rfl fun cdv A outer s H E hr =>
      (js_one (js_ret (j_callB cr_lenD (by rfl) B.n_len (by decide +kernel) (ja_cons (j_fld B.f_Web_places (j_var 0 (pv 0))) ja_nil))))
theorem ok_Web_len_M0 (B : Blt K mg) {f : Addr} {fd : FuncData} (D : Dm K "__len__" "Web.__len__" s_Web_len [] [] f fd) {C : Addr} (T : ClsT K mg "Web" C) (M : Meth K C "__len__" f) : OkM P w K mg base 1 "Web" "__len__" 1 [] F_Web_len := okM_of T M D (fn_Web_len B D) (fun _ _ _ _ _ _ us hl => match us, hl with | [_], _ => rfl)
theorem sc_Web_initO : FnScope ["self", "faces", "known", "face", "at", "some", "size", "line"] ["self", "faces"] (defScope s_Web_initO) := ⟨rfl, rfl, rfl, by decide +kernel, rfl, by decide +kernel, by decide +kernel⟩
theorem fn_Web_initO (B : Blt K mg) {f : Addr} {fd : FuncData} {tp : Addr} (D : Dm K "__init__" "Web.__init__" s_Web_initO [.ref tp] [] f fd) (O_is_face_L0 : Ok1 P w K mg base 1 "is_face" 1 [] F_is_face) (O_own_faces_L0 : Ok1 P w K mg base 1 "own_faces" 1 [] F_own_faces) (hE : EmpT K tp) : FnOk P w K mg base (L2N.CX P w) 2 f fd ["self", "faces"] (spF ⟨K, mg⟩ 2 (F_Web_initO tp)) :=
  fnokM_of (k := 1) (N := ["self", "faces", "known", "face", "at", "some", "size", "line"]) (n := 8) D sc_Web_initO rfl (by decide) rfl fun cdv A outer s H E hr =>
      (js_cons (js_set (i := 2) sc_Web_initO.nd rfl (by first | exact Or.inl rfl | exact Or.inr rfl) j_dnew')
      (js_cons (js_for (passes_of rfl) rfl (ji_enum0 hE (by rfl) B.n_enumerate (ja_cons (j_var 1 (pv 1)) ja_nil)) (pg_tup rfl (pgs_cons (pg_name (i := 4) sc_Web_initO.nd rfl (by first | exact Or.inl rfl | exact Or.inr rfl)) (pgs_cons (pg_name (i := 3) sc_Web_initO.nd rfl (by first | exact Or.inl rfl | exact Or.inr rfl)) pgs_nil))) (pat_tup (pats_cons (pat_nm 4) (pats_cons (pat_nm 3) pats_nil))) (js_cons (js_if (jt_not (jt_val (j_callO O_is_face_L0 (hr.mono (by decide)) (by rfl) (L2N.takes_of rfl rfl rfl rfl) (ja_cons (j_var 3 (pv 3)) ja_nil)))) (js_one js_never) js_nil)
      (js_one (js_for (passes_of rfl) rfl (ji_seq (j_callO O_own_faces_L0 (hr.mono (by decide)) (by rfl) (L2N.takes_of rfl rfl rfl rfl) (ja_cons (j_callTy cr_tupleJ (by rfl) B.n_tuple (by decide +kernel) (ja_cons (j_callB (cr_sortedJ hr.units) (by rfl) B.n_sorted (by decide +kernel) (ja_cons (j_var 3 (pv 3)) ja_nil)) ja_nil)) ja_nil))) (pg_name (i := 5) sc_Web_initO.nd rfl (by first | exact Or.inl rfl | exact Or.inr rfl)) (pat_nm 5) (js_one (js_setD hr j_bl (j_var 2 (pv 2)) (j_var 5 (pv 5))))))))
      (js_cons (js_if (jt_cmp or_gt (j_callB cr_lenD (by rfl) B.n_len (by decide +kernel) (ja_cons (j_var 2 (pv 2)) ja_nil)) (j_globI (by rfl) B.g_FACES_MOST) (nomark _)) (js_one js_never) js_nil)
      (js_cons (js_fld B.f_Web_table (j_var 0 (pv 0)) (j_lcR rfl sc_Web_initO.nd (ji_range1 (by rfl) B.n_range (j_bin or_add (j_globI (by rfl) B.g_SIZE_MOST) j_int)) (blkOk_by (own := [("size", 6)]) (by kernel_rfl)) (fun _ _ _ _ _ => (pg_name (i := 6) sc_Web_initO.nd rfl (by first | exact Or.inl rfl | exact Or.inr rfl))) (pat_nm 6) (fun _ _ _ _ _ => jts_nil) (fun _ _ _ _ _ => (j_lstO ja_nil))))
      (js_cons (js_for (passes_of rfl) rfl (ji_seq (j_callB (cr_sortedJ hr.units) (by rfl) B.n_sorted (by decide +kernel) (ja_cons (j_callTy (cr_listD rfl) (by rfl) B.n_list (by decide +kernel) (ja_cons (j_var 2 (pv 2)) ja_nil)) ja_nil))) (pg_name (i := 3) sc_Web_initO.nd rfl (by first | exact Or.inl rfl | exact Or.inr rfl)) (pat_nm 3) (js_one (js_expr (j_app (j_ix ir_ix (j_fld B.f_Web_table (j_var 0 (pv 0))) (j_bin or_sub (j_callB cr_len (by rfl) B.n_len (by decide +kernel) (ja_cons (j_var 3 (pv 3)) ja_nil)) j_int) (fun _ _ => rfl)) (j_var 3 (pv 3))))))
      (js_one (js_fld B.f_Web_places (j_var 0 (pv 0)) (j_dc2 hr rfl sc_Web_initO.nd (ji_seq (j_frzD (j_fld B.f_Web_table (j_var 0 (pv 0))))) (blkOk_by (own := [("line", 7), ("at", 4), ("face", 3)]) (by kernel_rfl)) (fun _ _ _ _ _ => (pg_name (i := 7) sc_Web_initO.nd rfl (by first | exact Or.inl rfl | exact Or.inr rfl))) (pat_nm 7) (by decide) (fun _ _ _ _ _ => (ji_enum (by rfl) B.n_enumerate (ja_cons (j_var 7 (pv 7)) ja_nil))) (fun _ _ _ _ _ => (pg_tup rfl (pgs_cons (pg_name (i := 4) sc_Web_initO.nd rfl (by first | exact Or.inl rfl | exact Or.inr rfl)) (pgs_cons (pg_name (i := 3) sc_Web_initO.nd rfl (by first | exact Or.inl rfl | exact Or.inr rfl)) pgs_nil)))) (pat_tup (pats_cons (pat_nm 4) (pats_cons (pat_nm 3) pats_nil))) (by decide) (fun _ _ _ _ _ => (j_var 3 (pv 3))) (fun _ _ _ _ _ => (j_var 4 (pv 4)))))))))))
theorem ok_Web_initO_C (B : Blt K mg) {f : Addr} {fd : FuncData} {tp : Addr} (D : Dm K "__init__" "Web.__init__" s_Web_initO [.ref tp] [] f fd) (O_is_face_L0 : Ok1 P w K mg base 1 "is_face" 1 [] F_is_face) (O_own_faces_L0 : Ok1 P w K mg base 1 "own_faces" 1 [] F_own_faces) (hE : EmpT K tp) {C : Addr} (T : ClsT K mg "Web" C) (M : Mk K C f) : OkC P w K mg base 2 "Web" 2 [.raw tp] (F_Web_initO tp) := okCD_of T M D (fn_Web_initO B D O_is_face_L0 O_own_faces_L0 hE) 1 0 (by simp) rfl (fun _ _ _ _ _ _ _ us its h1 h2 => match us, h1, its, h2 with | [_], _, [_], _ => ⟨_, rfl, rfl⟩) (fun _ _ => ⟨_, _, rfl, rt_raw, rfl⟩)
theorem sc_law : FnScope ["_law_script", "_law_box_here", "_law_tops_here", "_law_every", "_law_rows", "_law_web", "_law_row", "_law_mine", "_law_other", "_law_text", "_law_face", "_law_point"] ["_law_script"] (defScope s_law) := ⟨rfl, rfl, rfl, by decide +kernel, rfl, by decide +kernel, by decide +kernel⟩
theorem fn_law (B : Blt K mg) {f : Addr} {fd : FuncData} {tp : Addr} (D : Dm K "law" "law" s_law [] [] f fd) (O_law_box_L0 : Ok1 P w K mg base 1 "_law_box" 1 [] F_law_box) (O_law_some_tops_L0 : Ok1 P w K mg base 5 "_law_some_tops" 1 [] F_law_some_tops) (O_law_closed_L0 : Ok1 P w K mg base 2 "_law_closed" 1 [] F_law_closed) (O_law_take_L0 : Ok1 P w K mg base 2 "_law_take" 2 [] F_law_take) (O_law_drawn_face_L0 : Ok1 P w K mg base 3 "_law_drawn_face" 3 [] F_law_drawn_face) (O_Web_init_C : OkC P w K mg base 2 "Web" 2 [] F_Web_init) (O_Web_eq_M0 : OkM P w K mg base 1 "Web" "__eq__" 2 [] F_Web_eq) (O_law_tops_L0 : Ok1 P w K mg base 1 "_law_tops" 1 [] F_law_tops) (O_Web_str_M0 : OkM P w K mg base 4 "Web" "__str__" 1 [] F_Web_str) (O_law_alike_L0 : Ok1 P w K mg base 4 "_law_alike" 2 [] (F_law_alike 4)) (O_Web_repr_G : OkMG P w K mg base 4 "Web" "__repr__" 1 F_Web_repr) (O_Web_len_M0 : OkM P w K mg base 1 "Web" "__len__" 1 [] F_Web_len) (O_Web_initO_C : OkC P w K mg base 2 "Web" 2 [.raw tp] (F_Web_initO tp)) : FnG P w K mg base (L2N.CX P w) 7 f fd ["_law_script"] (spF ⟨K, mg⟩ 1 F_law) :=
  fnokG_of (k := 6) (N := ["_law_script", "_law_box_here", "_law_tops_here", "_law_every", "_law_rows", "_law_web", "_law_row", "_law_mine", "_law_other", "_law_text", "_law_face", "_law_point"]) (n := 12) D sc_law rfl (by decide) rfl fun cdv A outer s H E hgd hr =>
      (js_cons (js_set (i := 1) sc_law.nd rfl (by first | exact Or.inl rfl | exact Or.inr rfl) (j_callO O_law_box_L0 (hr.mono (by decide)) (by rfl) (L2N.takes_of rfl rfl rfl rfl) (ja_cons (j_var 0 (pv 0)) ja_nil)))
      (js_cons (js_set (i := 2) sc_law.nd rfl (by first | exact Or.inl rfl | exact Or.inr rfl) (j_callO O_law_some_tops_L0 (hr.mono (by decide)) (by rfl) (L2N.takes_of rfl rfl rfl rfl) (ja_cons (j_var 1 (pv 1)) ja_nil)))
      (js_cons (js_set (i := 3) sc_law.nd rfl (by first | exact Or.inl rfl | exact Or.inr rfl) (j_callO O_law_closed_L0 (hr.mono (by decide)) (by rfl) (L2N.takes_of rfl rfl rfl rfl) (ja_cons (j_var 2 (pv 2)) ja_nil)))
      (js_cons (js_set (i := 4) sc_law.nd rfl (by first | exact Or.inl rfl | exact Or.inr rfl) (j_lstO (ja_cons (j_bin or_add (j_rev (j_var 2 (pv 2))) (j_sl (j_var 3 (pv 3)) jo_none (jo_some (j_callO O_law_take_L0 (hr.mono (by decide)) (by rfl) (L2N.takes_of rfl rfl rfl rfl) (ja_cons (j_var 1 (pv 1)) (ja_cons (j_bin or_add (j_callB cr_len (by rfl) B.n_len (by decide +kernel) (ja_cons (j_var 3 (pv 3)) ja_nil)) j_int) ja_nil)))))) (ja_cons (j_callO O_law_some_tops_L0 (hr.mono (by decide)) (by rfl) (L2N.takes_of rfl rfl rfl rfl) (ja_cons (j_var 1 (pv 1)) ja_nil)) (ja_cons (j_sl (j_var 3 (pv 3)) (jo_some j_int) jo_none) (ja_cons (j_lst ja_nil) ja_nil))))))
      (js_cons (js_expr (j_app (j_var 4 (pv 4)) (j_bin or_add (j_var 3 (pv 3)) (j_lst (ja_cons (j_callO O_law_drawn_face_L0 (hr.mono (by decide)) (by rfl) (L2N.takes_of rfl rfl rfl rfl) (ja_cons (j_var 1 (pv 1)) (ja_cons (j_listRng rfl (by rfl) B.n_list (by rfl) B.n_range j_int) (ja_cons j_int ja_nil)))) ja_nil)))))
      (js_cons (js_set (i := 5) sc_law.nd rfl (by first | exact Or.inl rfl | exact Or.inr rfl) (j_make O_Web_init_C (hr.mono (by decide)) (by rfl) (ja_cons (j_callTy cr_listJ (by rfl) B.n_list (by decide +kernel) (ja_cons (j_var 2 (pv 2)) ja_nil)) ja_nil)))
      (js_cons (js_for (passes_of rfl) rfl (ji_seq (j_frzD (j_var 4 (pv 4)))) (pg_name (i := 6) sc_law.nd rfl (by first | exact Or.inl rfl | exact Or.inr rfl)) (pat_nm 6) (js_cons (js_set (i := 7) sc_law.nd rfl (by first | exact Or.inl rfl | exact Or.inr rfl) (j_callO O_law_closed_L0 (hr.mono (by decide)) (by rfl) (L2N.takes_of rfl rfl rfl rfl) (ja_cons (j_var 6 (pv 6)) ja_nil)))
      (js_one (js_if (jt_cmp or_le (j_callB cr_len (by rfl) B.n_len (by decide +kernel) (ja_cons (j_var 7 (pv 7)) ja_nil)) j_int (nomark _)) (js_cons (js_set (i := 8) sc_law.nd rfl (by first | exact Or.inl rfl | exact Or.inr rfl) (j_make O_Web_init_C (hr.mono (by decide)) (by rfl) (ja_cons (j_callTy cr_listJ (by rfl) B.n_list (by decide +kernel) (ja_cons (j_var 6 (pv 6)) ja_nil)) ja_nil)))
      (js_cons (js_if (PW.pt (jw_or (jt_cmp (or_ne hr) (j_ownEq O_Web_eq_M0 (hr.mono (by decide)) (j_var 5 (pv 5)) (j_var 8 (pv 8)) (nomark _)) (j_cmp (or_eq hr) (j_var 7 (pv 7)) (j_var 3 (pv 3)) (nomark _)) (nomark _)) (jw_or1 (jt_cmp (or_ne hr) (j_ownNe O_Web_eq_M0 B.ne_Web (hr.mono (by decide)) (j_var 8 (pv 8)) (j_var 5 (pv 5)) (nomark _)) (j_cmp (or_ne hr) (j_var 7 (pv 7)) (j_var 3 (pv 3)) (nomark _)) (nomark _))))) (js_one (js_ret j_bl)) js_nil)
      (js_cons (js_set (i := 2) sc_law.nd rfl (by first | exact Or.inl rfl | exact Or.inr rfl) (j_callO O_law_tops_L0 (hr.mono (by decide)) (by rfl) (L2N.takes_of rfl rfl rfl rfl) (ja_cons (j_var 7 (pv 7)) ja_nil)))
      (js_cons (js_set (i := 9) sc_law.nd rfl (by first | exact Or.inl rfl | exact Or.inr rfl) (j_join j_str (j_lc rfl sc_law.nd (ji_seq (j_var 2 (pv 2))) (blkOk_by (own := [("_law_face", 10)]) (by kernel_rfl)) (fun _ _ _ _ _ => (pg_name (i := 10) sc_law.nd rfl (by first | exact Or.inl rfl | exact Or.inr rfl))) (pat_nm 10) (fun _ _ _ _ _ => jts_nil) (fun _ _ _ _ _ => (j_join j_str (j_lc rfl sc_law.nd (ji_seq (j_var 10 (pv 10))) (blkOk_by (own := [("_law_point", 11)]) (by kernel_rfl)) (fun _ _ _ _ _ => (pg_name (i := 11) sc_law.nd rfl (by first | exact Or.inl rfl | exact Or.inr rfl))) (pat_nm 11) (fun _ _ _ _ _ => jts_nil) (fun _ _ _ _ _ => (j_callTy cr_strJ (by rfl) B.n_str (by decide +kernel) (ja_cons (j_var 11 (pv 11)) ja_nil)))))))))
      (js_cons (js_if (jt_not (jt_val (j_callO O_law_alike_L0 (hr.mono (by decide)) (by rfl) (L2N.takes_of rfl rfl rfl rfl) (ja_cons (j_strOwn O_Web_str_M0 (hr.mono (by decide)) (by rfl) B.n_str (j_var 8 (pv 8))) (ja_cons (j_if (jt_cmp (or_ne hr) (j_var 7 (pv 7)) (j_lst ja_nil) (nomark _)) (j_var 9 (pv 9)) j_str) ja_nil))))) (js_one (js_ret j_bl)) js_nil)
      (js_one (js_if (PW.pt (jw_or (jt_not (jt_val (j_callO O_law_alike_L0 (hr.mono (by decide)) (by rfl) (L2N.takes_of rfl rfl rfl rfl) (ja_cons (j_repr O_Web_repr_G hgd (hr.mono (by decide)) (by rfl) B.n_repr (j_var 8 (pv 8))) (ja_cons (j_bin or_add (j_bin or_add j_str (j_callTy (cr_strL hgd hr) (by rfl) B.n_str (by decide +kernel) (ja_cons (j_var 2 (pv 2)) ja_nil))) j_str) ja_nil))))) (jw_or1 (jt_cmp (or_ne hr) (j_lenOwn O_Web_len_M0 (hr.mono (by decide)) (by rfl) B.n_len (j_var 8 (pv 8))) (j_callB cr_len (by rfl) B.n_len (by decide +kernel) (ja_cons (j_var 7 (pv 7)) ja_nil)) (nomark _))))) (js_one (js_ret j_bl)) js_nil))))))) js_nil))))
      (js_one (js_ret (j_and (j_ownNeL O_Web_eq_M0 B.ne_Web (hr.mono (by decide)) (j_var 5 (pv 5)) (j_var 3 (pv 3)) (nomark _)) (j_and (j_ownEq O_Web_eq_M0 (hr.mono (by decide)) (j_make0 O_Web_initO_C (hr.mono (by decide)) (by rfl) web0_eq) (j_make O_Web_init_C (hr.mono (by decide)) (by rfl) (ja_cons (j_lst ja_nil) ja_nil)) (nomark _)) (j_one (j_cmp (or_eq hr) (j_lenOwn O_Web_len_M0 (hr.mono (by decide)) (by rfl) B.n_len (j_make0 O_Web_initO_C (hr.mono (by decide)) (by rfl) web0_eq)) j_int (nomark _))))))))))))))
end
theorem ex_at {h : Heap} {K : PySem.W.Frag} (Y : SaysL fs fn ex h K) {b : Bool} (i : Nat) (e : (exs K)[i]? = some b) : b = true := by
  have q := List.all_eq_true.mp Y.2.2 b (List.mem_of_getElem? e)
  exact q
theorem all_mk {P : Program} {w : World} {K : PySem.W.Frag} {h : Heap} {mg : Str → Option Value} {fa : Addr} (Y : SaysL fs fn ex h K) (G : h.Ns mainGlobals mg) (hfa : mg "law" = some (.ref fa))
    : ∃ (fd : FuncData) (cc TT : Addr), PySem.W.tabIn K lamFn = some (cc, TT) ∧ K.lookup TT = none ∧ (∀ (s : Shared) (v : Value), BindsTo s fd ⟨[v], []⟩ [("_law_script", v)]) ∧ ∀ base : Heap, K.In base → base.Ns mainGlobals mg → LamX.TabB base mg cc TT → FnG P w K mg base (L2N.CX P w) 7 fa fd ["_law_script"] (spF ⟨K, mg⟩ 1 F_law) := by
  have e := hfa.symm.trans (Y.glo (x := "law") G 40 rfl)
  cases e
  have T_Web : ClsT K mg "Web" (He.ga K "Web") := Y.cls G 0 1 rfl rfl
  have M_Web := He.mkr_ok (Y.f (f := .mkr "Web") 2 rfl)
  have B : Blt K mg := ⟨Y.free G 3 rfl, Y.free G 4 rfl, Y.free G 5 rfl, Y.free G 6 rfl, Y.free G 7 rfl, Y.free G 8 rfl, Y.free G 9 rfl, Y.free G 10 rfl, Y.free G 11 rfl, Y.free G 12 rfl, Y.free G 13 rfl, Y.free G 14 rfl, Y.free G 15 rfl, Y.free G 16 rfl, Y.free G 17 rfl, Y.int G 18 rfl, Y.int G 19 rfl, Y.int G 20 rfl, neC_of T_Web (neB_ok (ex_at Y 1 rfl)).1 (neB_ok (ex_at Y 1 rfl)).2, okI_of T_Web (ex_at Y 2 rfl), fld_of T_Web (He.eqO_ok (Y.f (f := .noat "Web" "places") 21 rfl)), fld_of T_Web (He.eqO_ok (Y.f (f := .noat "Web" "table") 22 rfl))⟩
  obtain ⟨fd0, D0⟩ : ∃ fd, Dm K "_law_box" "_law_box" s_law_box [] [] (He.ga K "_law_box") fd := Y.dm (st := s_law_box) (df := []) (kw := []) 0 rfl
  have hm0 := Y.glo (x := "_law_box") G 23 rfl
  obtain ⟨fd1, D1⟩ : ∃ fd, Dm K "_law_mixed" "_law_mixed" s_law_mixed [] [] (He.ga K "_law_mixed") fd := Y.dm (st := s_law_mixed) (df := []) (kw := []) 1 rfl
  have hm1 := Y.glo (x := "_law_mixed") G 24 rfl
  obtain ⟨fd2, D2⟩ : ∃ fd, Dm K "_law_take" "_law_take" s_law_take [] [] (He.ga K "_law_take") fd := Y.dm (st := s_law_take) (df := []) (kw := []) 2 rfl
  have hm2 := Y.glo (x := "_law_take") G 25 rfl
  obtain ⟨fd3, D3⟩ : ∃ fd, Dm K "_law_points" "_law_points" s_law_points [] [] (He.ga K "_law_points") fd := Y.dm (st := s_law_points) (df := []) (kw := []) 3 rfl
  have hm3 := Y.glo (x := "_law_points") G 26 rfl
  obtain ⟨fd4, D4⟩ : ∃ fd, Dm K "_law_drawn_face" "_law_drawn_face" s_law_drawn_face [] [] (He.ga K "_law_drawn_face") fd := Y.dm (st := s_law_drawn_face) (df := []) (kw := []) 4 rfl
  have hm4 := Y.glo (x := "_law_drawn_face") G 27 rfl
  obtain ⟨fd5, D5⟩ : ∃ fd, Dm K "_law_drawn_tops" "_law_drawn_tops" s_law_drawn_tops [] [] (He.ga K "_law_drawn_tops") fd := Y.dm (st := s_law_drawn_tops) (df := []) (kw := []) 5 rfl
  have hm5 := Y.glo (x := "_law_drawn_tops") G 28 rfl
  obtain ⟨fd6, D6⟩ : ∃ fd, Dm K "_law_subs" "_law_subs" s_law_subs [] [] (He.ga K "_law_subs") fd := Y.dm (st := s_law_subs) (df := []) (kw := []) 6 rfl
  have hm6 := Y.glo (x := "_law_subs") G 29 rfl
  obtain ⟨fd7, D7⟩ : ∃ fd, Dm K "_law_fourwall" "_law_fourwall" s_law_fourwall [] [] (He.ga K "_law_fourwall") fd := Y.dm (st := s_law_fourwall) (df := []) (kw := []) 7 rfl
  have hm7 := Y.glo (x := "_law_fourwall") G 30 rfl
  obtain ⟨fd8, D8⟩ : ∃ fd, Dm K "_law_wound" "_law_wound" s_law_wound [] [] (He.ga K "_law_wound") fd := Y.dm (st := s_law_wound) (df := []) (kw := []) 8 rfl
  have hm8 := Y.glo (x := "_law_wound") G 31 rfl
  obtain ⟨fd9, D9⟩ : ∃ fd, Dm K "_law_tyre" "_law_tyre" s_law_tyre [] [] (He.ga K "_law_tyre") fd := Y.dm (st := s_law_tyre) (df := []) (kw := []) 9 rfl
  have hm9 := Y.glo (x := "_law_tyre") G 32 rfl
  obtain ⟨fd10, D10⟩ : ∃ fd, Dm K "_law_some_tops" "_law_some_tops" s_law_some_tops [] [] (He.ga K "_law_some_tops") fd := Y.dm (st := s_law_some_tops) (df := []) (kw := []) 10 rfl
  have hm10 := Y.glo (x := "_law_some_tops") G 33 rfl
  obtain ⟨fd11, D11⟩ : ∃ fd, Dm K "_law_closed" "_law_closed" s_law_closed [] [] (He.ga K "_law_closed") fd := Y.dm (st := s_law_closed) (df := []) (kw := []) 11 rfl
  have hm11 := Y.glo (x := "_law_closed") G 34 rfl
  obtain ⟨fd12, D12⟩ : ∃ fd, Dm K "is_face" "is_face" s_is_face [] [] (He.ga K "is_face") fd := Y.dm (st := s_is_face) (df := []) (kw := []) 12 rfl
  have hm12 := Y.glo (x := "is_face") G 35 rfl
  obtain ⟨fd13, D13⟩ : ∃ fd, Dm K "own_faces" "own_faces" s_own_faces [] [] (He.ga K "own_faces") fd := Y.dm (st := s_own_faces) (df := []) (kw := []) 13 rfl
  have hm13 := Y.glo (x := "own_faces") G 36 rfl
  obtain ⟨fd14, D14⟩ : ∃ fd, Dm K "__init__" "Web.__init__" s_Web_init [.ref (He.dflAt ("Web", some "__init__") 0 K)] [] (He.ma K (He.ga K "Web") "__init__") fd := Y.mm (st := s_Web_init) (df := [.adr (He.dflAt ("Web", some "__init__") 0)]) (kw := []) 14 rfl
  obtain ⟨fd15, D15⟩ : ∃ fd, Dm K "__eq__" "Web.__eq__" s_Web_eq [] [] (He.ma K (He.ga K "Web") "__eq__") fd := Y.mm (st := s_Web_eq) (df := []) (kw := []) 15 rfl
  obtain ⟨fd16, D16⟩ : ∃ fd, Dm K "_law_tops" "_law_tops" s_law_tops [] [] (He.ga K "_law_tops") fd := Y.dm (st := s_law_tops) (df := []) (kw := []) 16 rfl
  have hm16 := Y.glo (x := "_law_tops") G 37 rfl
  obtain ⟨fd17, D17⟩ : ∃ fd, Dm K "within" "within" s_within [] [] (He.ga K "within") fd := Y.dm (st := s_within) (df := []) (kw := []) 17 rfl
  have hm17 := Y.glo (x := "within") G 38 rfl
  obtain ⟨fd18, D18⟩ : ∃ fd, Dm K "around" "Web.around" s_Web_around [] [] (He.ma K (He.ga K "Web") "around") fd := Y.mm (st := s_Web_around) (df := []) (kw := []) 18 rfl
  obtain ⟨fd19, D19⟩ : ∃ fd, Dm K "tops" "Web.tops" s_Web_tops [] [] (He.ma K (He.ga K "Web") "tops") fd := Y.mm (st := s_Web_tops) (df := []) (kw := []) 19 rfl
  obtain ⟨fd20, D20⟩ : ∃ fd, Dm K "__str__" "Web.__str__" s_Web_str [] [] (He.ma K (He.ga K "Web") "__str__") fd := Y.mm (st := s_Web_str) (df := []) (kw := []) 20 rfl
  obtain ⟨fd21, D21⟩ : ∃ fd, Dm K "_law_alike" "_law_alike" s_law_alike [] [] (He.ga K "_law_alike") fd := Y.dm (st := s_law_alike) (df := []) (kw := []) 21 rfl
  have hm21 := Y.glo (x := "_law_alike") G 39 rfl
  obtain ⟨fd22, D22⟩ : ∃ fd, Dm K "__repr__" "Web.__repr__" s_Web_repr [] [] (He.ma K (He.ga K "Web") "__repr__") fd := Y.mm (st := s_Web_repr) (df := []) (kw := []) 22 rfl
  obtain ⟨fd23, D23⟩ : ∃ fd, Dm K "__len__" "Web.__len__" s_Web_len [] [] (He.ma K (He.ga K "Web") "__len__") fd := Y.mm (st := s_Web_len) (df := []) (kw := []) 23 rfl
  obtain ⟨fd24, D24⟩ : ∃ fd, Dm K "__init__" "Web.__init__" s_Web_initO [.ref (He.dflAt ("Web", some "__init__") 0 K)] [] (He.ma K (He.ga K "Web") "__init__") fd := Y.mm (st := s_Web_initO) (df := [.adr (He.dflAt ("Web", some "__init__") 0)]) (kw := []) 24 rfl
  obtain ⟨fd25, D25⟩ : ∃ fd, Dm K "law" "law" s_law [] [] (He.ga K "law") fd := Y.dm (st := s_law) (df := []) (kw := []) 25 rfl
  have hm25 := Y.glo (x := "law") G 40 rfl
  obtain ⟨cL, PL, hTab, tn⟩ := tabB_ok (ex_at Y 0 rfl)
  refine ⟨fd25, cL, PL, hTab, tn, fun s v => FunD.bindsA (ps := ["_law_script"]) D25.F (fun _ _ _ _ _ _ us hl => match us, hl with | [_], _ => rfl) s [v] rfl, fun base _ _ TB => ?_⟩
  have O_law_box_L0 := ok_law_box_L0 (P := P) (w := w) (base := base) B D0 hm0
  have O_law_mixed_L0 := ok_law_mixed_L0 (P := P) (w := w) (base := base) B D1 hm1
  have O_law_take_L0 := ok_law_take_L0 (P := P) (w := w) (base := base) B D2 O_law_mixed_L0 hm2
  have O_law_points_L0 := ok_law_points_L0 (P := P) (w := w) (base := base) B D3 O_law_take_L0 hm3
  have O_law_drawn_face_L0 := ok_law_drawn_face_L0 (P := P) (w := w) (base := base) B D4 O_law_take_L0 hm4
  have O_law_drawn_tops_L0 := ok_law_drawn_tops_L0 (P := P) (w := w) (base := base) B D5 O_law_take_L0 O_law_points_L0 O_law_drawn_face_L0 hm5
  have O_law_subs_L0 := ok_law_subs_L0 (P := P) (w := w) (base := base) B D6 hm6
  have O_law_fourwall_L0 := ok_law_fourwall_L0 (P := P) (w := w) (base := base) B D7 O_law_subs_L0 hm7
  have O_law_wound_L0 := ok_law_wound_L0 (P := P) (w := w) (base := base) B D8 hm8
  have O_law_tyre_L0 := ok_law_tyre_L0 (P := P) (w := w) (base := base) B D9 hm9
  have O_law_some_tops_L0 := ok_law_some_tops_L0 (P := P) (w := w) (base := base) B D10 O_law_take_L0 O_law_drawn_tops_L0 O_law_points_L0 O_law_fourwall_L0 O_law_wound_L0 O_law_tyre_L0 hm10
  have O_law_closed_L0 := ok_law_closed_L0 (P := P) (w := w) (base := base) B D11 O_law_subs_L0 hm11
  have O_is_face_L0 := ok_is_face_L0 (P := P) (w := w) (base := base) B D12 hm12
  have O_own_faces_L0 := ok_own_faces_L0 (P := P) (w := w) (base := base) B D13 hm13
  have O_Web_init_C := ok_Web_init_C (P := P) (w := w) (base := base) B D14 O_is_face_L0 O_own_faces_L0 T_Web M_Web
  have O_Web_eq_M0 := ok_Web_eq_M0 (P := P) (w := w) (base := base) B D15 T_Web (He.meth_ok (Y.f (f := .meth "Web" "__eq__") 41 rfl))
  have O_law_tops_L0 := ok_law_tops_L0 (P := P) (w := w) (base := base) B D16 hm16
  have O_within_L0 := ok_within_L0 (P := P) (w := w) (base := base) B D17 hm17
  have O_Web_around_M0 := ok_Web_around_M0 (P := P) (w := w) (base := base) B D18 O_within_L0 T_Web (He.meth_ok (Y.f (f := .meth "Web" "around") 42 rfl))
  have O_Web_tops_M0 := ok_Web_tops_M0 (P := P) (w := w) (base := base) B D19 O_Web_around_M0 T_Web (He.meth_ok (Y.f (f := .meth "Web" "tops") 43 rfl))
  have O_Web_str_M0 := ok_Web_str_M0 (P := P) (w := w) (base := base) B D20 O_Web_tops_M0 T_Web (He.meth_ok (Y.f (f := .meth "Web" "__str__") 44 rfl))
  have O_law_alike_L0 := ok_law_alike_L0 (P := P) (w := w) (base := base) B D21 hm21
  have O_Web_repr_G := ok_Web_repr_G (P := P) (w := w) (base := base) B D22 O_Web_tops_M0 T_Web (He.meth_ok (Y.f (f := .meth "Web" "__repr__") 45 rfl))
  have O_Web_len_M0 := ok_Web_len_M0 (P := P) (w := w) (base := base) B D23 T_Web (He.meth_ok (Y.f (f := .meth "Web" "__len__") 46 rfl))
  have O_Web_initO_C := ok_Web_initO_C (P := P) (w := w) (base := base) B D24 O_is_face_L0 O_own_faces_L0 (empB_ok (ex_at Y 3 rfl)) T_Web M_Web
  exact fn_law B D25 O_law_box_L0 O_law_some_tops_L0 O_law_closed_L0 O_law_take_L0 O_law_drawn_face_L0 O_Web_init_C O_Web_eq_M0 O_law_tops_L0 O_Web_str_M0 O_law_alike_L0 O_Web_repr_G O_Web_len_M0 O_Web_initO_C
end L
open PySem PySem.W PySem.Calls PyProof.Rows in
set_option maxRecDepth 100000 in
set_option maxHeartbeats 0 in
theorem PySem.Challenge.cw_cupweb_k11_webs_alike_and_as_text_holds : PySem.Challenge.rw_cupweb_k11_webs_alike_and_as_text.Holds := by
  w_on; o_law
  refine HandSHeadRun.head_any (r := OpenLaw.row PySem.Challenge.rw_cupweb_k11_webs_alike_and_as_text) (q := L.hq) (H := L.hk) (ob := L.hob) (M := 30000) (loose := L.loose) (d := HandSHeadRun.topDef (OpenLaw.row PySem.Challenge.rw_cupweb_k11_webs_alike_and_as_text).prog 29) (kwd := []) J.obsL_eq
    (by kernel_rfl) (fun s => by kernel_rfl) L.hrun (by kernel_rfl) (by kernel_rfl) (by kernel_rfl) (by rfl) (by first | assumption | decide +kernel) (by decide +kernel) ⟨rfl, rfl, rfl, rfl, rfl, by decide +kernel⟩ ?hw ?hc
  case hw => w_witness2
  case hc => exact J.walk_G (l := PySem.Challenge.rw_cupweb_k11_webs_alike_and_as_text) (n := 63) (k := 7) (x := "_law_script") (Fm := L.F_law) rfl (by decide) (by kernel_rfl) ⟨rfl, by decide, by decide⟩ (by kernel_rfl) (by kernel_rfl) (fun w mg fa h K Y G hmg => L.all_mk Y G hmg) L.law_true
