import PyProof.Rows.All
import Wide.All
import OpenK.AllK
import Wide.FinOn
import HandS.ForMost
import HandS.ForExc
import HandS.CallSlots
import HandS.Defaults
import HandS.Wide
import HandS.IsInst
import HandS.Lambda
import HandS.ExcCtx
import KE.KNest
import HandS.Style
import HandS.Zip
import HandS.TupAny
import HandS.EndTab
import HandS.DictComp
import HandS.SetBool
import HandS.TupSets
import HandS.Conv
import HandS.Strs
import KE.SortData
import HandS.MapObj
import HandS.Small
import HandS.TupLen
import HandS.Sort
import HandS.Deep
import PyProof.ListRange
import HandS.More
import KE.KDictZip
import HandS.ExcInit
import HandS.ClsMeth
import HandS.HotCalls
import HandS.ExcIs
import HandS.ExcField
import HandS.Text
import PyProof.FactsAll.object_2
import HandS.SetFor
import PyProof.FactsAll.set_1
import PyProof.FactsAll.set_2
import KE.KEqDict
import HandS.Head0
import HandS.Head1
import HandS.Head2
import HandS.HeadHook1
import HandS.HeadHook2
import HandS.HeadHook3
import HandS.HeadHook4
import KE.KDictWalk
import KE.GoesMore
import KE.GoesZip
import KE.GoesEnum
import HandS.SortKw
import KE.DataMinMax
import HandS.TryOnly
import HandS.List
import HandS.Zip0
import HandS.FStr
import HandS.RaiseMore
import KE.KUnpackStar
import OpenK.KOps
import KE.KCallOwn
import PyProof.ReprRoads
import HandS.Finally
import PyProof.StrBlock2
import HandS.ReplaceLit
import PySem.Challenge.RW_cupweb_k64_texts_read_or_refused
set_option Elab.async false
set_option linter.all false
set_option maxRecDepth 100000
set_option autoImplicit false
set_option exponentiation.threshold 2000
namespace J
open PySem L2
/-! values -/
inductive VV where
  | non | bl (b : Bool) | int (i : Int) | str (x : Str)
  | tup (xs : List VV) | lst (xs : List VV) | scr (xs : List VV)
  | dT (ks : List (List Key)) (vs : List VV)
  | dK (ks : List Key) (vs : List VV)
  | ins (c : Str) (ns : List Str) (vs : List VV)
  | obj (n : Nat)
  | glb (x : Str)
  | ty (n : String)
  | raw (a : Addr)
/-- a mutable root -/
inductive VO where
  | fzn (v : VV)
  | fl (xs : List VV)
  | lo (xs : List VV)
  | dT (ks : List (List Key)) (vs : List VV)
  | dK (ks : List Key) (vs : List VV)
  | ins (c : Str) (ns : List Str) (vs : List VV)
abbrev VH := List VO
abbrev VSt := List (Option VV)
inductive Res (α : Type) where
  | no
  | ok (a : α) (h : VH)
  | exc (x : Str) (ns : List Str) (vs : List VV) (h : VH)
def Res.bind {α β : Type} (r : Res α) (k : α → VH → Res β) : Res β :=
  match r with
  | .no => .no
  | .ok a h => k a h
  | .exc x ns vs h => .exc x ns vs h
structure Ct where
  K : PySem.W.Frag
  mg : Str → Option Value
structure Gh where
  io : List Addr
  fz : Addr → Prop
  kp : Addr → Prop
/-- a tuple: a frozen one -/
def TupAt (_c : Ct) (_ : Addr → Prop) (H : Hp) (p : Addr) (us : List V) : Prop := H p = some (.tup us)
theorem TupAt.sq {c : Ct} {z : Addr → Prop} {H : Hp} {p : Addr} {us : List V} (h : TupAt c z H p us) : SqT c.K H p us := .inl (.inl h)
theorem TupAt.stp {c : Ct} {z z' : Addr → Prop} {H H' : Hp} {p : Addr} {us : List V} (ht : ∀ p us, H p = some (.tup us) → H' p = some (.tup us)) (h : TupAt c z H p us) : TupAt c z' H' p us := ht _ _ h
/-- a list that is only read: a frozen one, or one of the module's -/
def LstAt (c : Ct) (z : Addr → Prop) (H : Hp) (p : Addr) (us : List V) : Prop :=
  (z p ∧ Rd H p (.lst us)) ∨ ∃ (o : Obj) (its : Array Value) (n : Nat), c.K.lookup p = some o ∧ o.cls = .type "list" ∧ o.dict = none ∧ o.data = .seq its n ∧ its.size ≤ sizeLine ∧ Vals us its.toList
theorem LstAt.sq {c : Ct} {z : Addr → Prop} {H : Hp} {p : Addr} {us : List V} (h : LstAt c z H p us) : SqL c.K H p us := by
  rcases h with h | h
  · exact .inl h.2
  · exact .inr h
theorem rd_same {H H' : Hp} {p : Addr} {o : HO} (e : H' p = H p) (h : Rd H p o) : Rd H' p o := by
  rcases h with h | ⟨q, h⟩
  · exact .inl (e.trans h)
  · exact .inr ⟨q, e.trans h⟩
/-- what may be locked -/
def Lk (o : HO) : Prop := (∃ kvs, o = .dK kvs) ∨ ∃ kvs, o = .dT kvs
/-- what is frozen stands; a dict may be locked -/
def Ke (o o' : Option HO) : Prop := o' = o ∨ ∃ od u, Lk u ∧ o = some u ∧ o' = some (.frz od u)
theorem Ke.refl {o : Option HO} : Ke o o := .inl rfl
theorem Lk.frz {od : Obj} {u : HO} (h : Lk (.frz od u)) : False := by
  rcases h with ⟨_, e⟩ | ⟨_, e⟩ <;> cases e
theorem Ke.trans {a b c : Option HO} (h : Ke a b) (k : Ke b c) : Ke a c := by
  rcases h with h | ⟨od, u, l, h1, h2⟩
  · rw [← h]; exact k
  · rcases k with k | ⟨od2, u2, l2, k1, k2⟩
    · exact .inr ⟨od, u, l, h1, k.trans h2⟩
    · rw [h2] at k1; cases k1; exact l2.frz.elim
theorem Ke.at {o : HO} {a b : Option HO} (h : Ke a b) (e : a = some o) (n : ∀ kvs, o ≠ .dK kvs) (n2 : ∀ kvs, o ≠ .dT kvs := by intro _ z; cases z) : b = some o := by
  rcases h with h | ⟨od, u, l, h1, h2⟩
  · exact h.trans e
  · rw [e] at h1
    rcases l with ⟨kvs, l⟩ | ⟨kvs, l⟩
    · exact absurd ((Option.some.inj h1).trans l) (n kvs)
    · exact absurd ((Option.some.inj h1).trans l) (n2 kvs)
theorem Ke.ex {a b : Option HO} (h : Ke a b) (e : ∃ o, a = some o) : ∃ o, b = some o := by
  obtain ⟨o, e⟩ := e
  rcases h with h | ⟨od, u, l, h1, h2⟩
  · exact ⟨o, h.trans e⟩
  · exact ⟨_, h2⟩
theorem Ke.rdL {H H' : Hp} {p : Addr} {o : HO} (h : Ke (H p) (H' p)) (r : Rd H p o) : Rd H' p o := by
  rcases h with h | ⟨od, u, l, h1, h2⟩
  · exact rd_same h r
  · rcases r with r | ⟨q, r⟩
    · rw [r] at h1; cases h1; exact .inr ⟨od, h2⟩
    · rw [r] at h1; cases h1; exact l.frz.elim
theorem Ke.rd {H H' : Hp} {p : Addr} {o : HO} (h : Ke (H p) (H' p)) (r : Rd H p o) (_ : ∀ kvs, o ≠ .dK kvs) : Rd H' p o := h.rdL r
theorem Ke.dk {H H' : Hp} {p : Addr} {kvs : List (Key × V)} (h : Ke (H p) (H' p)) (r : Rd H p (.dK kvs)) : Rd H' p (.dK kvs) := h.rdL r
theorem LstAt.stp {c : Ct} {z z' : Addr → Prop} {H H' : Hp} {p : Addr} {us : List V} (hz : ∀ p, z p → z' p) (hH : ∀ p, z p → Ke (H p) (H' p)) (h : LstAt c z H p us) : LstAt c z' H' p us := by
  rcases h with h | h
  · exact .inl ⟨hz p h.1, (hH p h.1).rd h.2 (fun _ z => nomatch z)⟩
  · exact .inr h
mutual
def RV (c : Ct) (z : Addr → Prop) (H : Hp) : VV → V → Prop
  | .non, u => u = .non
  | .bl b, u => u = .bl b
  | .int i, u => u = .int i
  | .str x, u => u = .str x
  | .tup xs, u => ∃ p us, u = .ref p ∧ TupAt c z H p us ∧ RVs c z H xs us
  | .lst xs, u => ∃ p us, u = .ref p ∧ z p ∧ H p = some (.lst us) ∧ RVs c z H xs us
  | .scr xs, u => ∃ p us, u = .ref p ∧ LstAt c z H p us ∧ RVs c z H xs us
  | .dT ks vs, u => ∃ p us, u = .ref p ∧ z p ∧ Rd H p (.dT (ks.zip us)) ∧ ks.length = us.length ∧ RVs c z H vs us
  | .dK ks vs, u => ∃ p us, u = .ref p ∧ z p ∧ Rd H p (.dK (ks.zip us)) ∧ ks.length = us.length ∧ RVs c z H vs us
  | .ins x ns vs, u => ∃ p C dx us, u = .ref p ∧ z p ∧ c.mg x = some (.ref C) ∧ H p = some (.ins C dx (ns.zip us)) ∧ ns.length = us.length ∧ RVs c z H vs us
  | .obj _, _ => False
  | .glb x, u => ∃ a, c.mg x = some (.ref a) ∧ u = .ref a
  | .ty n, u => u = .ty n
  | .raw a, u => u = .ref a
def RVs (c : Ct) (z : Addr → Prop) (H : Hp) : List VV → List V → Prop
  | [], us => us = []
  | x :: xs, us => ∃ u r, us = u :: r ∧ RV c z H x u ∧ RVs c z H xs r
end
/-- a value at the top: a root, or data -/
def RT (c : Ct) (g : Gh) (H : Hp) : VV → V → Prop
  | .obj n, u => ∃ a, g.io[n]? = some a ∧ u = .ref a
  | v, u => RV c g.fz H v u
def RTs (c : Ct) (g : Gh) (H : Hp) : List VV → List V → Prop
  | [], us => us = []
  | x :: xs, us => ∃ u r, us = u :: r ∧ RT c g H x u ∧ RTs c g H xs r
def VV.isObj : VV → Bool
  | .obj _ => true
  | _ => false
def RO (c : Ct) (g : Gh) (H : Hp) : VO → Addr → Prop
  | .fzn v, a => g.fz a ∧ RV c g.fz H v (.ref a)
  | .fl xs, a => ¬ g.fz a ∧ ∃ us, H a = some (.lst us) ∧ RVs c g.fz H xs us
  | .lo xs, a => ¬ g.fz a ∧ ∃ us, H a = some (.lst us) ∧ RTs c g H xs us
  | .dT ks vs, a => ¬ g.fz a ∧ ∃ us, H a = some (.dT (ks.zip us)) ∧ ks.length = us.length ∧ RVs c g.fz H vs us
  | .dK ks vs, a => ¬ g.fz a ∧ ∃ us, H a = some (.dK (ks.zip us)) ∧ ks.length = us.length ∧ RVs c g.fz H vs us
  | .ins x ns vs, a => ¬ g.fz a ∧ ∃ C dx us, c.mg x = some (.ref C) ∧ H a = some (.ins C dx (ns.zip us)) ∧ ns.length = us.length ∧ RTs c g H vs us
/-- the table of lambdas of the def that makes some -/
def lamFn : Str := "law"
def lamQ : Str := lamFn ++ ".<locals>." ++ "<lambda>"
def LTab (c : Ct) (H : Hp) : Prop := ∀ cc P, PySem.W.tabIn c.K lamFn = some (cc, P) → LamX.TabS H P lamQ
def NoTab (D : Addr) (o : Option HO) : Prop := (∀ ps, o ≠ some (.tbl ps)) ∧ ∀ q, o ≠ some (LamX.CodeO D q)
theorem NoTab.none {D : Addr} {o : Option HO} (e : o = Option.none) : NoTab D o := by
  subst e
  exact ⟨fun _ z => (by cases z), fun _ z => (by cases z)⟩
theorem noTab_of {D : Addr} {o : HO} (h : ∀ ps, o ≠ .tbl ps) (h2 : ∀ f, o ≠ .ext f) : NoTab D (some o) :=
  ⟨fun ps z => h ps (Option.some.inj z), fun q z => by
    have z := Option.some.inj z
    unfold LamX.CodeO at z
    exact h2 _ z⟩
theorem LTab.upd {c : Ct} {H : Hp} {D : Addr} {O : HO} (t : LTab c H) (n : NoTab D (H D)) : LTab c (upd H D O) := fun cc P e => by
  obtain ⟨ps, h1, h2, h3⟩ := t cc P e
  refine ⟨ps, by rw [upd_ne (fun z => n.1 ps (by rw [← z]; exact h1))]; exact h1, h2, fun pos cv hc => ?_⟩
  obtain ⟨k, e1, e2⟩ := h3 pos cv hc
  exact ⟨k, e1, by rw [upd_ne (fun z => n.2 lamQ (by rw [← z]; exact e2))]; exact e2⟩
theorem RO.noTab {c : Ct} {g : Gh} {H : Hp} {o : VO} {a : Addr} (h : RO c g H o a) (nz : ¬ g.fz a) : NoTab a (H a) := by
  cases o with
  | fzn v => exact absurd h.1 nz
  | fl xs => obtain ⟨h1, us, h3, h4⟩ := h; rw [h3]; exact noTab_of (fun _ z => by cases z) (fun _ z => by cases z)
  | lo xs => obtain ⟨h1, us, h3, h4⟩ := h; rw [h3]; exact noTab_of (fun _ z => by cases z) (fun _ z => by cases z)
  | dT ks vs => obtain ⟨h1, us, h3, h4⟩ := h; rw [h3]; exact noTab_of (fun _ z => by cases z) (fun _ z => by cases z)
  | dK ks vs => obtain ⟨h1, us, h3, h4⟩ := h; rw [h3]; exact noTab_of (fun _ z => by cases z) (fun _ z => by cases z)
  | ins x ns vs => obtain ⟨h1, C, dx, us, h3, h4, h5⟩ := h; rw [h4]; exact noTab_of (fun _ z => by cases z) (fun _ z => by cases z)
structure RH (c : Ct) (g : Gh) (h : VH) (H : Hp) : Prop where
  len : g.io.length = h.length
  nd : g.io.Nodup
  at' : ∀ (n : Nat) (o : VO) (a : Addr), h[n]? = some o → g.io[n]? = some a → RO c g H o a
  fz : ∀ q, g.fz q → ∃ o, H q = some o
  kp : ∀ q, g.kp q → ∃ o, H q = some o
  kd : ∀ q, g.kp q → ¬ g.fz q ∧ q ∉ g.io
  tb : LTab c H
  nt : ∀ q, g.fz q ∨ g.kp q → ∀ ps, H q ≠ some (.tbl ps)
structure Stp (g : Gh) (H : Hp) (g' : Gh) (H' : Hp) : Prop where
  io : g.io <+: g'.io
  fz : ∀ p, g.fz p → g'.fz p
  kp : ∀ p, g.kp p → g'.kp p
  fH : ∀ p, g.fz p → Ke (H p) (H' p)
  kH : ∀ p, g.kp p → H' p = H p
  tp : ∀ p us, H p = some (.tup us) → H' p = some (.tup us)
theorem Stp.refl {g : Gh} {H : Hp} : Stp g H g H := ⟨List.prefix_rfl, fun _ h => h, fun _ h => h, fun _ _ => .refl, fun _ _ => rfl, fun _ _ h => h⟩
theorem Stp.trans {g g1 g2 : Gh} {H H1 H2 : Hp} (a : Stp g H g1 H1) (b : Stp g1 H1 g2 H2) : Stp g H g2 H2 :=
  ⟨a.io.trans b.io, fun p h => b.fz p (a.fz p h), fun p h => b.kp p (a.kp p h), fun p h => (a.fH p h).trans (b.fH p (a.fz p h)), fun p h => (b.kH p (a.kp p h)).trans (a.kH p h), fun p us h => b.tp p us (a.tp p us h)⟩
mutual
theorem RV.stp {c : Ct} {z z' : Addr → Prop} {H H' : Hp} (hz : ∀ p, z p → z' p) (hH : ∀ p, z p → Ke (H p) (H' p)) (ht : ∀ p us, H p = some (.tup us) → H' p = some (.tup us)) : ∀ (v : VV) (u : V), RV c z H v u → RV c z' H' v u
  | .non, u, h => by simpa only [RV] using h
  | .bl b, u, h => by simpa only [RV] using h
  | .int i, u, h => by simpa only [RV] using h
  | .str x, u, h => by simpa only [RV] using h
  | .tup xs, u, h => by
    rw [RV] at h ⊢
    obtain ⟨p, us, e, r, q⟩ := h
    exact ⟨p, us, e, r.stp ht, RVs.stp hz hH ht xs us q⟩
  | .lst xs, u, h => by
    rw [RV] at h ⊢
    obtain ⟨p, us, e, hp, r, q⟩ := h
    exact ⟨p, us, e, hz p hp, (hH p hp).at r (fun _ z => nomatch z), RVs.stp hz hH ht xs us q⟩
  | .scr xs, u, h => by
    rw [RV] at h ⊢
    obtain ⟨p, us, e, r, q⟩ := h
    exact ⟨p, us, e, r.stp hz hH, RVs.stp hz hH ht xs us q⟩
  | .dT ks vs, u, h => by
    rw [RV] at h ⊢
    obtain ⟨p, us, e, hp, r, l, q⟩ := h
    exact ⟨p, us, e, hz p hp, (hH p hp).rdL r, l, RVs.stp hz hH ht vs us q⟩
  | .dK ks vs, u, h => by
    rw [RV] at h ⊢
    obtain ⟨p, us, e, hp, r, l, q⟩ := h
    exact ⟨p, us, e, hz p hp, (hH p hp).dk r, l, RVs.stp hz hH ht vs us q⟩
  | .ins x ns vs, u, h => by
    rw [RV] at h ⊢
    obtain ⟨p, C, dx, us, e, hp, m, r, l, q⟩ := h
    exact ⟨p, C, dx, us, e, hz p hp, m, (hH p hp).at r (fun _ z => nomatch z), l, RVs.stp hz hH ht vs us q⟩
  | .obj _, _, h => by rw [RV] at h; exact h.elim
  | .glb x, u, h => by simpa only [RV] using h
  | .ty n, u, h => by simpa only [RV] using h
  | .raw a, u, h => by simpa only [RV] using h
theorem RVs.stp {c : Ct} {z z' : Addr → Prop} {H H' : Hp} (hz : ∀ p, z p → z' p) (hH : ∀ p, z p → Ke (H p) (H' p)) (ht : ∀ p us, H p = some (.tup us) → H' p = some (.tup us)) : ∀ (vs : List VV) (us : List V), RVs c z H vs us → RVs c z' H' vs us
  | [], us, h => by simpa only [RVs] using h
  | x :: xs, us, h => by
    rw [RVs] at h ⊢
    obtain ⟨u, r, e, a, b⟩ := h
    exact ⟨u, r, e, RV.stp hz hH ht x u a, RVs.stp hz hH ht xs r b⟩
end
theorem Stp.rv {c : Ct} {g g' : Gh} {H H' : Hp} (s : Stp g H g' H') {v : VV} {u : V} (h : RV c g.fz H v u) : RV c g'.fz H' v u := RV.stp s.fz s.fH s.tp _ _ h
theorem Stp.rvs {c : Ct} {g g' : Gh} {H H' : Hp} (s : Stp g H g' H') {v : List VV} {u : List V} (h : RVs c g.fz H v u) : RVs c g'.fz H' v u := RVs.stp s.fz s.fH s.tp _ _ h
theorem RT.of_rv {c : Ct} {g : Gh} {H : Hp} {v : VV} {u : V} (h : RV c g.fz H v u) : RT c g H v u := by
  cases v with
  | obj n => rw [RV] at h; exact h.elim
  | _ => exact h
theorem RT.rv {c : Ct} {g : Gh} {H : Hp} {v : VV} {u : V} (h : RT c g H v u) (n : v.isObj = false) : RV c g.fz H v u := by
  cases v with
  | obj n => cases n
  | _ => exact h
theorem RT.stp {c : Ct} {g g' : Gh} {H H' : Hp} (s : Stp g H g' H') {v : VV} {u : V} (h : RT c g H v u) : RT c g' H' v u := by
  cases v with
  | obj n =>
    obtain ⟨a, e, hu⟩ := h
    refine ⟨a, ?_, hu⟩
    obtain ⟨l, hl⟩ := s.io
    rw [← hl, List.getElem?_append_left (List.getElem?_eq_some_iff.mp e).1]
    exact e
  | _ => exact RT.of_rv (RV.stp s.fz s.fH s.tp _ _ (RT.rv h rfl))
theorem RTs.stp {c : Ct} {g g' : Gh} {H H' : Hp} (s : Stp g H g' H') : ∀ {vs : List VV} {us : List V}, RTs c g H vs us → RTs c g' H' vs us
  | [], us, h => h
  | x :: xs, us, h => by
    obtain ⟨u, r, e, a, b⟩ := h
    exact ⟨u, r, e, a.stp s, RTs.stp s b⟩
theorem RTs.of_rvs {c : Ct} {g : Gh} {H : Hp} : ∀ {vs : List VV} {us : List V}, RVs c g.fz H vs us → RTs c g H vs us
  | [], us, h => by rw [RVs] at h; exact h
  | x :: xs, us, h => by
    rw [RVs] at h
    obtain ⟨u, r, e, a, b⟩ := h
    exact ⟨u, r, e, RT.of_rv a, RTs.of_rvs b⟩
theorem RTs.rvs {c : Ct} {g : Gh} {H : Hp} : ∀ {vs : List VV} {us : List V}, RTs c g H vs us → vs.any VV.isObj = false → RVs c g.fz H vs us
  | [], us, h, _ => by rw [RVs]; exact h
  | x :: xs, us, h, n => by
    obtain ⟨u, r, e, a, b⟩ := h
    rw [List.any_cons, Bool.or_eq_false_iff] at n
    rw [RVs]
    exact ⟨u, r, e, a.rv n.1, RTs.rvs b n.2⟩
theorem RVs.len {c : Ct} {z : Addr → Prop} {H : Hp} : ∀ {vs : List VV} {us : List V}, RVs c z H vs us → vs.length = us.length
  | [], us, h => by rw [RVs] at h; rw [h]; rfl
  | x :: xs, us, h => by
    rw [RVs] at h
    obtain ⟨u, r, e, a, b⟩ := h
    rw [e, List.length_cons, List.length_cons, RVs.len b]
theorem RTs.len {c : Ct} {g : Gh} {H : Hp} : ∀ {vs : List VV} {us : List V}, RTs c g H vs us → vs.length = us.length
  | [], us, h => by rw [show us = [] from h]; rfl
  | x :: xs, us, h => by
    obtain ⟨u, r, e, a, b⟩ := h
    rw [e, List.length_cons, List.length_cons, RTs.len b]
theorem RVs.get {c : Ct} {z : Addr → Prop} {H : Hp} : ∀ {vs : List VV} {us : List V} {i : Nat} {v : VV}, RVs c z H vs us → vs[i]? = some v → ∃ u, us[i]? = some u ∧ RV c z H v u
  | [], us, i, v, h, e => by simp at e
  | x :: xs, us, i, v, h, e => by
    rw [RVs] at h
    obtain ⟨u, r, rfl, a, b⟩ := h
    cases i with
    | zero => simp at e; subst e; exact ⟨u, rfl, a⟩
    | succ i => exact RVs.get (i := i) b (by simpa using e)
theorem RVs.app {c : Ct} {z : Addr → Prop} {H : Hp} : ∀ {vs ws : List VV} {us ys : List V}, RVs c z H vs us → RVs c z H ws ys → RVs c z H (vs ++ ws) (us ++ ys)
  | [], ws, us, ys, h, k => by rw [RVs] at h; subst h; exact k
  | x :: xs, ws, us, ys, h, k => by
    rw [RVs] at h
    obtain ⟨u, r, rfl, a, b⟩ := h
    show RVs c z H (x :: (xs ++ ws)) (u :: (r ++ ys))
    rw [RVs]
    exact ⟨u, _, rfl, a, RVs.app b k⟩
theorem RVs.set {c : Ct} {z : Addr → Prop} {H : Hp} {v : VV} {u : V} (q : RV c z H v u) : ∀ {vs : List VV} {us : List V} {i : Nat}, RVs c z H vs us → RVs c z H (vs.set i v) (us.set i u)
  | [], us, i, h => by rw [RVs] at h; subst h; simp only [List.set_nil]; rw [RVs]
  | x :: xs, us, i, h => by
    rw [RVs] at h
    obtain ⟨y, r, rfl, a, b⟩ := h
    cases i with
    | zero => simp only [List.set_cons_zero]; rw [RVs]; exact ⟨u, r, rfl, q, b⟩
    | succ i => simp only [List.set_cons_succ]; rw [RVs]; exact ⟨y, _, rfl, a, RVs.set q b⟩
theorem RVs.one {c : Ct} {z : Addr → Prop} {H : Hp} {v : VV} {u : V} (q : RV c z H v u) : RVs c z H [v] [u] := by
  rw [RVs]; exact ⟨u, [], rfl, q, by rw [RVs]⟩
theorem RVs.nil {c : Ct} {z : Addr → Prop} {H : Hp} : RVs c z H [] [] := by rw [RVs]
theorem RVs.cons {c : Ct} {z : Addr → Prop} {H : Hp} {v : VV} {u : V} {vs us} (q : RV c z H v u) (r : RVs c z H vs us) : RVs c z H (v :: vs) (u :: us) := by
  rw [RVs]; exact ⟨u, us, rfl, q, r⟩
theorem RVs.take {c : Ct} {z : Addr → Prop} {H : Hp} : ∀ {vs : List VV} {us : List V} (n : Nat), RVs c z H vs us → RVs c z H (vs.take n) (us.take n)
  | _, _, 0, _ => by simp only [List.take_zero]; exact RVs.nil
  | [], us, n + 1, h => by rw [RVs] at h; subst h; simp only [List.take_nil]; exact RVs.nil
  | x :: xs, us, n + 1, h => by
    rw [RVs] at h
    obtain ⟨u, r, rfl, a, b⟩ := h
    simp only [List.take_succ_cons]
    exact RVs.cons a (RVs.take n b)
theorem RVs.drop {c : Ct} {z : Addr → Prop} {H : Hp} : ∀ {vs : List VV} {us : List V} (n : Nat), RVs c z H vs us → RVs c z H (vs.drop n) (us.drop n)
  | _, _, 0, h => by simpa only [List.drop_zero] using h
  | [], us, n + 1, h => by rw [RVs] at h; subst h; simp only [List.drop_nil]; exact RVs.nil
  | x :: xs, us, n + 1, h => by
    rw [RVs] at h
    obtain ⟨u, r, rfl, a, b⟩ := h
    simp only [List.drop_succ_cons]
    exact RVs.drop n b
theorem RT.back {c : Ct} {g g' : Gh} {H : Hp} (e1 : g'.io = g.io) (e2 : g'.fz = g.fz) {v : VV} {u : V} (h : RT c g H v u) : RT c g' H v u := by
  cases v with
  | obj n => obtain ⟨a, b, d⟩ := h; exact ⟨a, by rw [e1]; exact b, d⟩
  | _ => exact RT.of_rv (by rw [e2]; exact RT.rv h rfl)
theorem RTs.back {c : Ct} {g : Gh} {H : Hp} {k : Addr → Prop} : ∀ {vs : List VV} {us : List V}, RTs c g H vs us → RTs c { g with kp := k } H vs us
  | [], us, h => h
  | x :: xs, us, h => by
    obtain ⟨u, r, e, a, b⟩ := h
    exact ⟨u, r, e, a.back rfl rfl, RTs.back b⟩
/-- slots -/
structure RS (c : Ct) (g : Gh) (H : Hp) (ρ : VSt) (σ : St) : Prop where
  len : ρ.length = σ.length
  get : ∀ (i : Nat) (v : VV), ρ[i]? = some (some v) → ∃ u, σ[i]? = some (some u) ∧ RT c g H v u
theorem RS.stp {c : Ct} {g g' : Gh} {H H' : Hp} {ρ : VSt} {σ : St} (s : Stp g H g' H') (h : RS c g H ρ σ) : RS c g' H' ρ σ := ⟨h.len, fun i v e => by
  obtain ⟨u, a, b⟩ := h.get i v e
  exact ⟨u, a, b.stp s⟩⟩
theorem RO.stp {c : Ct} {g g' : Gh} {H H' : Hp} {o : VO} {a : Addr} (s : Stp g H g' H') (nz : ¬ g.fz a → ¬ g'.fz a) (e : H' a = H a) (h : RO c g H o a) : RO c g' H' o a := by
  cases o with
  | fzn v => exact ⟨s.fz a h.1, s.rv h.2⟩
  | fl xs =>
    obtain ⟨h1, us, h3, h4⟩ := h
    exact ⟨nz h1, us, e.trans h3, s.rvs h4⟩
  | lo xs =>
    obtain ⟨h1, us, h3, h4⟩ := h
    exact ⟨nz h1, us, e.trans h3, h4.stp s⟩
  | dT ks vs =>
    obtain ⟨h1, us, h3, h4, h5⟩ := h
    exact ⟨nz h1, us, e.trans h3, h4, s.rvs h5⟩
  | dK ks vs =>
    obtain ⟨h1, us, h3, h4, h5⟩ := h
    exact ⟨nz h1, us, e.trans h3, h4, s.rvs h5⟩
  | ins x ns vs =>
    obtain ⟨h1, C, dx, us, h3, h4, h5, h6⟩ := h
    exact ⟨nz h1, C, dx, us, h3, e.trans h4, h5, h6.stp s⟩
theorem RO.some {c : Ct} {g : Gh} {H : Hp} {o : VO} {a : Addr} (fz : ∀ q, g.fz q → ∃ o, H q = some o) (h : RO c g H o a) : ∃ o, H a = some o := by
  cases o with
  | fzn v => exact fz a h.1
  | fl xs => obtain ⟨h1, us, h3, h4⟩ := h; exact ⟨_, h3⟩
  | lo xs => obtain ⟨h1, us, h3, h4⟩ := h; exact ⟨_, h3⟩
  | dT ks vs => obtain ⟨h1, us, h3, h4⟩ := h; exact ⟨_, h3⟩
  | dK ks vs => obtain ⟨h1, us, h3, h4⟩ := h; exact ⟨_, h3⟩
  | ins x ns vs => obtain ⟨h1, C, dx, us, h3, h4, h5⟩ := h; exact ⟨_, h4⟩
theorem RH.root {c : Ct} {g : Gh} {h : VH} {H : Hp} (R : RH c g h H) {a : Addr} (ha : a ∈ g.io) : ∃ o, H a = some o := by
  obtain ⟨n, hn, e⟩ := List.getElem_of_mem ha
  have hl : n < h.length := by rw [← R.len]; exact hn
  exact (R.at' n h[n] a (List.getElem?_eq_getElem hl) (by rw [List.getElem?_eq_getElem hn, e])).some R.fz
theorem RH.rootNt {c : Ct} {g : Gh} {h : VH} {H : Hp} (R : RH c g h H) {a : Addr} (ha : a ∈ g.io) (ps : Array Value) : H a ≠ some (.tbl ps) := by
  obtain ⟨n, hn, e⟩ := List.getElem_of_mem ha
  have hl : n < h.length := by rw [← R.len]; exact hn
  by_cases z : g.fz a
  · exact R.nt a (.inl z) ps
  · exact (RO.noTab (R.at' n h[n] a (List.getElem?_eq_getElem hl) (by rw [List.getElem?_eq_getElem hn, e])) z).1 ps
theorem nodup_inj {l : List Addr} (h : l.Nodup) {i j : Nat} {a : Addr} (h1 : l[i]? = some a) (h2 : l[j]? = some a) : i = j :=
  (List.getElem?_inj (List.getElem?_eq_some_iff.mp h1).1 h).mp (h1.trans h2.symm)
/-- new data: p, frozen -/
def Gh.frz (g : Gh) (p : Addr) : Gh := { g with fz := fun q => g.fz q ∨ q = p }
theorem Stp.new {c : Ct} {g : Gh} {h : VH} {H : Hp} (R : RH c g h H) {p : Addr} {o : HO} (np : H p = none) : Stp g H (g.frz p) (upd H p o) := by
  have ne : ∀ q, (∃ o, H q = some o) → q ≠ p := fun q ⟨o, e⟩ z => by rw [z, np] at e; cases e
  exact ⟨List.prefix_rfl, fun _ h => .inl h, fun _ h => h, fun q h => .inl (upd_ne (ne q (R.fz q h))), fun q h => upd_ne (ne q (R.kp q h)), fun q us h => (upd_ne (ne q ⟨_, h⟩)).trans h⟩
theorem RH.new {c : Ct} {g : Gh} {h : VH} {H : Hp} (R : RH c g h H) {p : Addr} {o : HO} (np : H p = none) (nt : ∀ ps, o ≠ .tbl ps := by intro _ z; cases z) : RH c (g.frz p) h (upd H p o) := by
  have ne : ∀ q, (∃ o, H q = some o) → q ≠ p := fun q ⟨o, e⟩ z => by rw [z, np] at e; cases e
  refine ⟨R.len, R.nd, fun n o a h1 h2 => ?_, fun q h => ?_, fun q h => ?_, fun q h => ⟨fun z => z.elim (R.kd q h).1 (ne q (R.kp q h)), (R.kd q h).2⟩, R.tb.upd (.none np), fun q h ps z => ?_⟩
  rotate_left 3
  · by_cases e : q = p
    · subst e; rw [upd_same] at z; exact nt ps (Option.some.inj z)
    · rw [upd_ne e] at z
      rcases h with h | h
      · exact R.nt q (.inl (h.elim id (fun y => absurd y e))) ps z
      · exact R.nt q (.inr h) ps z
  · have na : a ≠ p := ne a (R.root (List.mem_of_getElem? h2))
    exact RO.stp (Stp.new R np) (fun h z => z.elim h na) (upd_ne na) (R.at' n o a h1 h2)
  · rcases h with h | h
    · rw [upd_ne (ne q (R.fz q h))]; exact R.fz q h
    · rw [h]; exact ⟨_, upd_same⟩
  · rw [upd_ne (ne q (R.kp q h))]; exact R.kp q h
/-- heap beside that is not ours -/
theorem Stp.junk {c : Ct} {g : Gh} {h : VH} {H : Hp} (R : RH c g h H) {p : Addr} {o : HO} (np : H p = none) : Stp g H g (upd H p o) := by
  have ne : ∀ q, (∃ o, H q = some o) → q ≠ p := fun q ⟨o, e⟩ z => by rw [z, np] at e; cases e
  exact ⟨List.prefix_rfl, fun _ h => h, fun _ h => h, fun q h => .inl (upd_ne (ne q (R.fz q h))), fun q h => upd_ne (ne q (R.kp q h)), fun q us h => (upd_ne (ne q ⟨_, h⟩)).trans h⟩
theorem RH.junk {c : Ct} {g : Gh} {h : VH} {H : Hp} (R : RH c g h H) {p : Addr} {o : HO} (np : H p = none) : RH c g h (upd H p o) := by
  have ne : ∀ q, (∃ o, H q = some o) → q ≠ p := fun q ⟨o, e⟩ z => by rw [z, np] at e; cases e
  refine ⟨R.len, R.nd, fun n o a h1 h2 => ?_, fun q h => ?_, fun q h => ?_, R.kd, R.tb.upd (.none np), fun q h ps z => R.nt q h ps (by rw [upd_ne (ne q (h.elim (R.fz q) (R.kp q)))] at z; exact z)⟩
  · have na : a ≠ p := ne a (R.root (List.mem_of_getElem? h2))
    exact RO.stp (Stp.junk R np) (fun h => h) (upd_ne na) (R.at' n o a h1 h2)
  · rw [upd_ne (ne q (R.fz q h))]; exact R.fz q h
  · rw [upd_ne (ne q (R.kp q h))]; exact R.kp q h
/-- a new root -/
def Gh.add (g : Gh) (p : Addr) : Gh := { g with io := g.io ++ [p] }
theorem Stp.add {g : Gh} {H : Hp} {p : Addr} : Stp g H (g.add p) H := ⟨List.prefix_append _ _, fun _ h => h, fun _ h => h, fun _ _ => .refl, fun _ _ => rfl, fun _ _ h => h⟩
theorem RH.add {c : Ct} {g : Gh} {h : VH} {H : Hp} (R : RH c g h H) {p : Addr} {o : VO} (hp : p ∉ g.io) (hk : ¬ g.kp p) (ro : RO c (g.add p) H o p) : RH c (g.add p) (h ++ [o]) H := by
  refine ⟨by show (g.io ++ [p]).length = _; simp [R.len], ?_, fun n o' a h1 h2 => ?_, R.fz, R.kp, fun q h => ⟨(R.kd q h).1, fun z => ?_⟩, R.tb, R.nt⟩
  · show (g.io ++ [p]).Nodup
    rw [List.nodup_append]
    exact ⟨R.nd, by simp, fun a ha b hb => by simp at hb; subst hb; intro e; subst e; exact hp ha⟩
  · have h2' : (g.io ++ [p])[n]? = some a := h2
    by_cases hn : n < h.length
    · rw [List.getElem?_append_left hn] at h1
      rw [List.getElem?_append_left (by rw [R.len]; exact hn)] at h2'
      exact RO.stp Stp.add (fun h => h) rfl (R.at' n o' a h1 h2')
    · have : n = h.length := by
        have := (List.getElem?_eq_some_iff.mp h1).1
        simp at this; omega
      subst this
      rw [List.getElem?_append_right (Nat.le_refl _), Nat.sub_self] at h1
      rw [List.getElem?_append_right (by rw [R.len]; exact Nat.le_refl _), R.len, Nat.sub_self] at h2'
      simp at h1 h2'
      subst h1 h2'
      exact ro
  · rcases List.mem_append.mp z with z | z
    · exact (R.kd q h).2 z
    · simp at z; subst z; exact hk h
/-- a root is written -/
theorem Stp.wr {c : Ct} {g : Gh} {H : Hp} {a : Addr} {O : HO} (nz : ¬ g.fz a) (nk : ¬ g.kp a) (nt : ∀ us, H a ≠ some (.tup us)) : Stp g H g (upd H a O) :=
  ⟨List.prefix_rfl, fun _ h => h, fun _ h => h, fun q h => .inl (upd_ne (fun z => nz (z ▸ h))), fun q h => upd_ne (fun z => nk (z ▸ h)), fun q us h => (upd_ne (fun (z : q = a) => nt us (by rw [← z]; exact h))).trans h⟩
theorem RH.wr {c : Ct} {g : Gh} {h : VH} {H : Hp} (R : RH c g h H) {n : Nat} {a : Addr} {o : VO} {O : HO} (ha : g.io[n]? = some a) (nz : ¬ g.fz a) (nt : ∀ us, H a ≠ some (.tup us)) (ro : RO c g (upd H a O) o a) : RH c g (h.set n o) (upd H a O) := by
  have nk : ¬ g.kp a := fun z => (R.kd a z).2 (List.mem_of_getElem? ha)
  have hio : ∃ o0, h[n]? = some o0 := by
    have hl : n < h.length := by rw [← R.len]; exact (List.getElem?_eq_some_iff.mp ha).1
    exact ⟨_, List.getElem?_eq_getElem hl⟩
  obtain ⟨o0, ho0⟩ := hio
  refine ⟨by rw [List.length_set]; exact R.len, R.nd, fun m o' b h1 h2 => ?_, fun q h => ?_, fun q h => ?_, R.kd, R.tb.upd ((R.at' n o0 a ho0 ha).noTab nz), fun q h ps z => R.nt q h ps (by rw [upd_ne (show q ≠ a from fun y => h.elim (fun h => nz (y ▸ h)) (fun h => nk (y ▸ h)))] at z; exact z)⟩
  · by_cases e : m = n
    · subst e
      rw [ha] at h2; cases h2
      have hl : m < h.length := by have := (List.getElem?_eq_some_iff.mp h1).1; simpa using this
      rw [List.getElem?_set_self hl] at h1
      cases h1
      exact ro
    · rw [List.getElem?_set_ne (Ne.symm e)] at h1
      have nb : b ≠ a := fun z => by
        subst z
        exact e (nodup_inj R.nd h2 ha)
      exact RO.stp (Stp.wr (c := c) nz nk nt) (fun h => h) (upd_ne nb) (R.at' m o' b h1 h2)
  · rw [upd_ne (show q ≠ a from fun z => nz (z ▸ h))]; exact R.fz q h
  · rw [upd_ne (show q ≠ a from fun z => nk (z ▸ h))]; exact R.kp q h
/-- a root is frozen -/
theorem Stp.kill {g : Gh} {H : Hp} {p : Addr} : Stp g H (g.frz p) H := ⟨List.prefix_rfl, fun _ h => .inl h, fun _ h => h, fun _ _ => .refl, fun _ _ => rfl, fun _ _ h => h⟩
theorem RH.kill {c : Ct} {g : Gh} {h : VH} {H : Hp} (R : RH c g h H) {n : Nat} {a : Addr} {v : VV} (ha : g.io[n]? = some a) (rv : RV c (g.frz a).fz H v (.ref a)) : RH c (g.frz a) (h.set n (.fzn v)) H := by
  refine ⟨by rw [List.length_set]; exact R.len, R.nd, fun m o' b h1 h2 => ?_, fun q h => ?_, R.kp, fun q h => ⟨fun z => z.elim (R.kd q h).1 (fun e => (R.kd q h).2 (e ▸ List.mem_of_getElem? ha)), (R.kd q h).2⟩, R.tb, fun q h ps z => ?_⟩
  rotate_left 2
  · rcases h with (h | h) | h
    · exact R.nt q (.inl h) ps z
    · rw [h] at z; exact R.rootNt (List.mem_of_getElem? ha) ps z
    · exact R.nt q (.inr h) ps z
  · have h2' : g.io[m]? = some b := h2
    by_cases e : m = n
    · subst e
      rw [ha] at h2'; cases h2'
      have hl : m < h.length := by have := (List.getElem?_eq_some_iff.mp h1).1; simpa using this
      rw [List.getElem?_set_self hl] at h1
      cases h1
      exact ⟨.inr rfl, rv⟩
    · rw [List.getElem?_set_ne (Ne.symm e)] at h1
      have nb : b ≠ a := fun z => by
        subst z
        exact e (nodup_inj R.nd h2' ha)
      exact RO.stp Stp.kill (fun h z => z.elim h nb) rfl (R.at' m o' b h1 h2')
  · rcases h with h | h
    · exact R.fz q h
    · rw [h]; exact R.root (List.mem_of_getElem? ha)
/-- an address that is ours for a while: others keep it -/
def Gh.keep (g : Gh) (D : Addr) : Gh := { g with kp := fun q => g.kp q ∨ q = D }
def Gh.back (g : Gh) (k : Addr → Prop) : Gh := { g with kp := k }
theorem Stp.keep {g : Gh} {H : Hp} {D : Addr} : Stp g H (g.keep D) H := ⟨List.prefix_rfl, fun _ h => h, fun _ h => .inl h, fun _ _ => .refl, fun _ _ => rfl, fun _ _ h => h⟩
theorem RH.keep {c : Ct} {g : Gh} {h : VH} {H : Hp} (R : RH c g h H) {D : Addr} {o : HO} (e : H D = some o) (nf : ¬ g.fz D) (ni : D ∉ g.io) (nt : ∀ ps, o ≠ .tbl ps := by intro _ z; cases z) : RH c (g.keep D) h H :=
  ⟨R.len, R.nd, fun n o a h1 h2 => RO.stp Stp.keep (fun h => h) rfl (R.at' n o a h1 h2), R.fz, fun q h => h.elim (R.kp q) (fun z => by rw [z]; exact ⟨o, e⟩), fun q h => h.elim (R.kd q) (fun z => by rw [z]; exact ⟨nf, ni⟩), R.tb, fun q h ps z => by
    rcases h with h | h | h
    · exact R.nt q (.inl h) ps z
    · exact R.nt q (.inr h) ps z
    · rw [h, e] at z; exact nt ps (Option.some.inj z)⟩
theorem RH.back {c : Ct} {g : Gh} {h : VH} {H : Hp} (R : RH c g h H) {k : Addr → Prop} (hk : ∀ p, k p → g.kp p) : RH c (g.back k) h H := by
  refine ⟨R.len, R.nd, fun n o a h1 h2 => ?_, R.fz, fun q h => R.kp q (hk q h), fun q h => R.kd q (hk q h), R.tb, fun q h => R.nt q (h.imp id (hk q))⟩
  have := R.at' n o a h1 h2
  cases o with
  | fzn v => exact this
  | fl xs => exact this
  | lo xs =>
    obtain ⟨h1, us, h3, h4⟩ := this
    exact ⟨h1, us, h3, RTs.back h4⟩
  | dT ks vs => exact this
  | dK ks vs => exact this
  | ins x ns vs =>
    obtain ⟨h1, C, dx, us, h3, h4, h5, h6⟩ := this
    refine ⟨h1, C, dx, us, h3, h4, h5, ?_⟩
    exact RTs.back h6
/-! the reading of a semantics -/
def Pst {α β : Type} (c : Ct) (W : WX) (σ : St) (R : Gh → Hp → α → β → Prop) (g : Gh) (H : Hp) (Q : β → Hp → Prop) : Res α → Prop
  | .no => False
  | .ok v h' => ∀ g' H' u, Stp g H g' H' → RH c g' h' H' → R g' H' v u → Q u H'
  | .exc x ns vs h' => ∀ g' H' C d us, Stp g H g' H' → RH c g' h' H' → c.mg x = some (.ref C) → (H' d = some (.xd (ns.zip us)) ∧ ¬ g'.fz d ∧ d ∉ g'.io) → ns.length = us.length → RVs c g'.fz H' vs us → W (.ref C) (some d) σ H'
theorem Pst.step {α β : Type} {c : Ct} {W : WX} {σ : St} {R : Gh → Hp → α → β → Prop} {g g1 : Gh} {H H1 : Hp} {Q : β → Hp → Prop} {r : Res α} (s : Stp g H g1 H1) (h : Pst c W σ R g H Q r) : Pst c W σ R g1 H1 Q r := by
  cases r with
  | no => exact h
  | ok v h' => exact fun g' H' u st => h g' H' u (s.trans st)
  | exc x ns vs h' => exact fun g' H' C d us st => h g' H' C d us (s.trans st)
theorem Pst.bind {α β γ δ : Type} {c : Ct} {W : WX} {σ : St} {R : Gh → Hp → α → β → Prop} {R' : Gh → Hp → γ → δ → Prop} {g : Gh} {H : Hp} {Q : δ → Hp → Prop} {r : Res α} {k : α → VH → Res γ} (h : Pst c W σ R' g H Q (r.bind k)) :
    Pst c W σ R g H (fun u H1 => ∃ g1 v h1, Stp g H g1 H1 ∧ RH c g1 h1 H1 ∧ R g1 H1 v u ∧ Pst c W σ R' g1 H1 Q (k v h1)) r := by
  cases r with
  | no => exact h
  | ok v h' => exact fun g' H' u st rh rv => ⟨g', v, h', st, rh, rv, Pst.step st h⟩
  | exc x ns vs h' => exact h
theorem Pst.imp {α β : Type} {c : Ct} {W : WX} {σ : St} {R : Gh → Hp → α → β → Prop} {g : Gh} {H : Hp} {Q Q' : β → Hp → Prop} {r : Res α} (h : Pst c W σ R g H Q r) (hq : ∀ u H, Q u H → Q' u H) : Pst c W σ R g H Q' r := by
  cases r with
  | no => exact h
  | ok v h' => exact fun g' H' u a b d => hq _ _ (h g' H' u a b d)
  | exc x ns vs h' => exact h
def tG {α β : Type} (c : Ct) (W : WX) (R : Gh → Hp → α → β → Prop) (f : VSt → VH → Res α) : St → Hp → (β → Hp → Prop) → Prop :=
  fun σ H Q => ∃ g ρ h, RH c g h H ∧ RS c g H ρ σ ∧ Pst c W σ R g H Q (f ρ h)
abbrev EF := VSt → VH → Res VV
abbrev TF := VSt → VH → Res Bool
abbrev AF := VSt → VH → Res (List VV)
def RB (_ : Gh) (_ : Hp) (a b : Bool) : Prop := b = a
abbrev tE (c : Ct) (W : WX) (f : EF) : TE := tG c W (RT c) f
abbrev tT (c : Ct) (W : WX) (f : TF) : TT := tG c W RB f
abbrev tA (c : Ct) (W : WX) (f : AF) : TA := tG c W (RTs c) f
abbrev ct (X : Cx) : Ct := ⟨X.K, X.mg⟩
theorem PE.mono {X : Cx} {e : Expr} {t t' : TE} (h : PE X e t) (m : ∀ σ H Q, t' σ H Q → t σ H Q) : PE X e t' := ⟨fun pins s σ H Q I q => h.run pins s σ H Q I (m σ H Q q)⟩
theorem PT.mono {X : Cx} {e : Expr} {t t' : TT} (h : PT X e t) (m : ∀ σ H Q, t' σ H Q → t σ H Q) : PT X e t' := ⟨fun pins s σ H Q I q => h.run pins s σ H Q I (m σ H Q q)⟩
theorem PW.mono {X : Cx} {e : Expr} {t t' : TT} (h : PW X e t) (m : ∀ σ H Q, t' σ H Q → t σ H Q) : PW X e t' := ⟨fun wh pins s σ H Q I q => h.run wh pins s σ H Q I (m σ H Q q)⟩
theorem PA.mono {X : Cx} {e : List Expr} {t t' : TA} (h : PA X e t) (m : ∀ σ H Q, t' σ H Q → t σ H Q) : PA X e t' := ⟨fun pos pins s σ H Q I q => h.run pos pins s σ H Q I (m σ H Q q)⟩
theorem PS.mono {X : Cx} {e : Stmt} {t t' : TS} (h : PS X e t) (m : ∀ D σ H, t' D σ H → t D σ H) : PS X e t' := ⟨fun pins s σ H D I q => h.run pins s σ H D I (m D σ H q)⟩
theorem PSs.mono {X : Cx} {e : List Stmt} {t t' : TS} (h : PSs X e t) (m : ∀ D σ H, t' D σ H → t D σ H) : PSs X e t' := ⟨fun pins s σ H D I q => h.run pins s σ H D I (m D σ H q)⟩
theorem PI.mono {X : Cx} {tg e : Expr} {t t' : TI} (h : PI X tg e t) (m : ∀ σ H R, t' σ H R → t σ H R) : PI X tg e t' := ⟨fun pins s σ H R I q => h.run pins s σ H R I (m σ H R q)⟩
/-- what is left behind a first part -/
theorem tG.bind {α β γ δ : Type} {c : Ct} {W : WX} {R : Gh → Hp → α → β → Prop} {R' : Gh → Hp → γ → δ → Prop} {f : VSt → VH → Res α} {k : α → VSt → VH → Res γ} {σ : St} {H : Hp} {Q : δ → Hp → Prop}
    (h : tG c W R' (fun ρ h => (f ρ h).bind fun v h1 => k v ρ h1) σ H Q) :
    tG c W R f σ H (fun u H1 => ∃ g1 ρ v h1, RH c g1 h1 H1 ∧ RS c g1 H1 ρ σ ∧ R g1 H1 v u ∧ Pst c W σ R' g1 H1 Q (k v ρ h1)) := by
  obtain ⟨g, ρ, h0, rh, rs, p⟩ := h
  refine ⟨g, ρ, h0, rh, rs, (Pst.bind (R := R) p).imp fun u H1 ⟨g1, v, h1, st, r1, rv, p1⟩ => ⟨g1, ρ, v, h1, r1, rs.stp st, rv, p1⟩⟩
end J
namespace J
open PySem L2
/-! semantic functions -/
abbrev SZ : Nat := 16777216
theorem SZ_le {n : Nat} (h : n ≤ SZ) : n ≤ sizeLine := by rw [sizeLine_eq]; exact h
theorem SZ_lt {n : Nat} (h : n < SZ) : n < sizeLine := by rw [sizeLine_eq]; exact h
def eVar (i : Nat) : EF := fun ρ h => match ρ[i]? with
  | some (some v) => .ok v h
  | _ => .no
def eC (v : VV) : EF := fun _ h => .ok v h
/-- an operation on values that makes no root and changes none -/
abbrev Op2 := VH → VV → VV → Option VV
abbrev Op1 := VH → VV → Option VV
abbrev OpN := VH → List VV → Option VV
def lift (o : Option VV) (h : VH) : Res VV := match o with
  | some v => .ok v h
  | none => .no
def eBin (op : Op2) (a b : EF) : EF := fun ρ h => (a ρ h).bind fun v h1 => (b ρ h1).bind fun w h2 => lift (op h2 v w) h2
def eUn (op : Op1) (a : EF) : EF := fun ρ h => (a ρ h).bind fun v h1 => lift (op h1 v) h1
def eCall (op : OpN) (a : AF) : EF := fun ρ h => (a ρ h).bind fun v h1 => lift (op h1 v) h1
def aNil : AF := fun _ h => .ok [] h
def aCons (a : EF) (b : AF) : AF := fun ρ h => (a ρ h).bind fun v h1 => (b ρ h1).bind fun w h2 => .ok (v :: w) h2
/-- what a rule on values must take: the operation's answer, new or old data -/
def Rd2 (c : Ct) (op : Op2) : R2 := fun x y H Q => ∃ g h v w r, RH c g h H ∧ RT c g H v x ∧ RT c g H w y ∧ op h v w = some r ∧ ∀ g' H' u, Stp g H g' H' → RH c g' h H' → RT c g' H' r u → Q u H'
def Rd1 (c : Ct) (op : Op1) : V → Hp → VK → Prop := fun x H Q => ∃ g h v r, RH c g h H ∧ RT c g H v x ∧ op h v = some r ∧ ∀ g' H' u, Stp g H g' H' → RH c g' h H' → RT c g' H' r u → Q u H'
def RdN (c : Ct) (op : OpN) : List V → Hp → VK → Prop := fun xs H Q => ∃ g h vs r, RH c g h H ∧ RTs c g H vs xs ∧ op h vs = some r ∧ ∀ g' H' u, Stp g H g' H' → RH c g' h H' → RT c g' H' r u → Q u H'
theorem OpR.imp {X : Cx} {f : Value → Value → Sem Value} {r r' : R2} (h : OpR X f r) (m : ∀ x y H Q, r' x y H Q → r x y H Q) : OpR X f r' :=
  fun pins s σ H x y v u Q I a b q => h pins s σ H x y v u Q I a b (m x y H Q q)
theorem IxR.imp {X : Cx} {r r' : R2} (h : IxR X r) (m : ∀ x y H Q, r' x y H Q → r x y H Q) : IxR X r' := by
  unfold IxR at h ⊢
  intros
  apply h <;> first | assumption | (apply m; assumption)
theorem UnR.imp {X : Cx} {f : Value → Sem Value} {r r' : V → Hp → VK → Prop} (h : UnR X f r) (m : ∀ x H Q, r' x H Q → r x H Q) : UnR X f r' :=
  fun pins s σ H x v Q I a q => h pins s σ H x v Q I a (m x H Q q)
theorem CallR.imp {X : Cx} {f : Value} {r r' : List V → Hp → VK → Prop} (h : CallR X f r) (m : ∀ x H Q, r' x H Q → r x H Q) : CallR X f r' :=
  fun pins s σ H x v Q I a q => h pins s σ H x v Q I a (m x H Q q)
section
variable {X : Cx} {W : WX}
theorem j_var (i : Nat) {x : Str} {pos : Pos} (h : PE X (.Name x pos) (tVar i)) : PE X (.Name x pos) (tE (ct X) W (eVar i)) :=
  PE.mono h fun σ H Q ⟨g, ρ, hh, rh, rs, p⟩ => by
    unfold eVar at p
    split at p
    · rename_i v e
      obtain ⟨u, a, b⟩ := rs.get i v e
      exact ⟨u, a, p g H u .refl rh b⟩
    · exact p.elim
theorem j_c {e : Expr} {v : VV} {u : V} (h : PE X e (tC u)) (r : ∀ g H, RT (ct X) g H v u) : PE X e (tE (ct X) W (eC v)) :=
  PE.mono h fun σ H Q ⟨g, ρ, hh, rh, rs, p⟩ => p g H u .refl rh (r g H)
theorem rt_int {c : Ct} {g : Gh} {H : Hp} {i : Int} : RT c g H (.int i) (.int i) := by show RV _ _ _ _ _; rw [RV]
theorem rt_bl {c : Ct} {g : Gh} {H : Hp} {i : Bool} : RT c g H (.bl i) (.bl i) := by show RV _ _ _ _ _; rw [RV]
theorem rt_str {c : Ct} {g : Gh} {H : Hp} {i : Str} : RT c g H (.str i) (.str i) := by show RV _ _ _ _ _; rw [RV]
theorem rt_non {c : Ct} {g : Gh} {H : Hp} : RT c g H .non .non := by show RV _ _ _ _ _; rw [RV]
theorem rt_ty {c : Ct} {g : Gh} {H : Hp} {n : String} : RT c g H (.ty n) (.ty n) := by show RV _ _ _ _ _; rw [RV]
theorem j_int {i j pos} : PE X (.Constant (.int i) j pos) (tE (ct X) W (eC (.int i))) := j_c pe_int fun _ _ => rt_int
theorem j_bl {i j pos} : PE X (.Constant (.bool i) j pos) (tE (ct X) W (eC (.bl i))) := j_c pe_bl fun _ _ => rt_bl
theorem j_str {i j pos} : PE X (.Constant (.str i) j pos) (tE (ct X) W (eC (.str i))) := j_c pe_str fun _ _ => rt_str
theorem j_non {j pos} : PE X (.Constant .none j pos) (tE (ct X) W (eC .non)) := j_c pe_non fun _ _ => rt_non
/-- from a bind to a continuation -/
theorem tOp_of {r : R2} {op : Op2} {fa fb : EF} (m : ∀ x y H Q, Rd2 (ct X) op x y H Q → r x y H Q) {σ : St} {H : Hp} {Q : VK} (h : tE (ct X) W (eBin op fa fb) σ H Q) :
    tOp r (tE (ct X) W fa) (tE (ct X) W fb) σ H Q := by
  have h1 := tG.bind (R := RT (ct X)) (f := fa) (k := fun v ρ h1 => (fb ρ h1).bind fun w h2 => lift (op h2 v w) h2) h
  obtain ⟨g, ρ, h0, rh, rs, p⟩ := h1
  refine ⟨g, ρ, h0, rh, rs, p.imp fun u H1 ⟨g1, ρ1, v, h1, rh1, rs1, rv1, p1⟩ => ?_⟩
  refine ⟨g1, ρ1, h1, rh1, rs1, (Pst.bind (R := RT (ct X)) p1).imp fun u2 H2 ⟨g2, w, h2, st, rh2, rv2, p2⟩ => ?_⟩
  refine m _ _ _ _ ?_
  unfold lift at p2
  split at p2
  · rename_i r e
    exact ⟨g2, h2, v, w, r, rh2, rv1.stp st, rv2, e, p2⟩
  · exact p2.elim
theorem j_bin {op : Op2} {o : Operator} {a b : Expr} {fa fb : EF} {pos : Pos} (ho : OpR X (binaryOp o) (Rd2 (ct X) op)) (ha : PE X a (tE (ct X) W fa)) (hb : PE X b (tE (ct X) W fb)) : PE X (.BinOp a o b pos) (tE (ct X) W (eBin op fa fb)) :=
  PE.mono (pe_op ho ha hb) fun σ H Q h => tOp_of (fun _ _ _ _ q => q) h
theorem j_ix {op : Op2} {a b : Expr} {fa fb : EF} {pos : Pos} (ho : IxR X (Rd2 (ct X) op)) (ha : PE X a (tE (ct X) W fa)) (hb : PE X b (tE (ct X) W fb)) (hs : PlainIx b) : PE X (.Subscript a b pos) (tE (ct X) W (eBin op fa fb)) :=
  PE.mono (pe_ix ho ha hb hs) fun σ H Q h => tOp_of (fun _ _ _ _ q => q) h
theorem j_cmp {op : Op2} {o : CmpOp} {a b : Expr} {fa fb : EF} {pos : Pos} (ho : OpR X (compareOp o) (Rd2 (ct X) op)) (ha : PE X a (tE (ct X) W fa)) (hb : PE X b (tE (ct X) W fb)) (hm : behindInMarks o b = false) : PE X (.Compare a [o] [b] pos) (tE (ct X) W (eBin op fa fb)) :=
  PE.mono (pe_cmpR ho ha hb hm) fun σ H Q h => tOp_of (fun _ _ _ _ q => q) h
theorem j_un {op : Op1} {o : UnaryOp} {a : Expr} {fa : EF} {pos : Pos} (ho : UnR X (unaryOp o) (Rd1 (ct X) op)) (ha : PE X a (tE (ct X) W fa)) : PE X (.UnaryOp o a pos) (tE (ct X) W (eUn op fa)) :=
  PE.mono (pe_un ho ha) fun σ H Q h => by
    obtain ⟨g, ρ, h0, rh, rs, p⟩ := tG.bind (R := RT (ct X)) (f := fa) (k := fun v ρ h1 => lift (op h1 v) h1) h
    refine ⟨g, ρ, h0, rh, rs, p.imp fun u H1 ⟨g1, ρ1, v, h1, rh1, rs1, rv1, p1⟩ => ?_⟩
    unfold lift at p1
    split at p1
    · rename_i r e
      exact ⟨g1, h1, v, r, rh1, rv1, e, p1⟩
    · exact p1.elim
/-! arguments -/
theorem ja_nil : PA X [] (tA (ct X) W aNil) := PA.mono pa_nil fun σ H Q ⟨g, ρ, h0, rh, rs, p⟩ => p g H [] .refl rh rfl
theorem ja_cons {e : Expr} {es : List Expr} {fa : EF} {fb : AF} (ha : PE X e (tE (ct X) W fa)) (hr : PA X es (tA (ct X) W fb)) (hs : starEach (e :: es) X.env = (false, eval e X.env) :: starEach es X.env := by rfl) : PA X (e :: es) (tA (ct X) W (aCons fa fb)) :=
  PA.mono (pa_cons ha hr hs) fun σ H Q h => by
    obtain ⟨g, ρ, h0, rh, rs, p⟩ := tG.bind (R := RT (ct X)) (f := fa) (k := fun v ρ h1 => (fb ρ h1).bind fun w h2 => .ok (v :: w) h2) h
    refine ⟨g, ρ, h0, rh, rs, p.imp fun u H1 ⟨g1, ρ1, v, h1, rh1, rs1, rv1, p1⟩ => ?_⟩
    refine ⟨g1, ρ1, h1, rh1, rs1, (Pst.bind (R := RTs (ct X)) p1).imp fun u2 H2 ⟨g2, w, h2, st, rh2, rv2, p2⟩ => ?_⟩
    exact p2 g2 H2 (u :: u2) .refl rh2 ⟨u, u2, rfl, rv1.stp st, rv2⟩
theorem tCB_of {r : List V → Hp → VK → Prop} {op : OpN} {fa : AF} (m : ∀ x H Q, RdN (ct X) op x H Q → r x H Q) {σ : St} {H : Hp} {Q : VK} (h : tE (ct X) W (eCall op fa) σ H Q) : tCB r (tA (ct X) W fa) σ H Q := by
  obtain ⟨g, ρ, h0, rh, rs, p⟩ := tG.bind (R := RTs (ct X)) (f := fa) (k := fun v ρ h1 => lift (op h1 v) h1) h
  refine ⟨g, ρ, h0, rh, rs, p.imp fun u H1 ⟨g1, ρ1, v, h1, rh1, rs1, rv1, p1⟩ => ?_⟩
  unfold lift at p1
  split at p1
  · rename_i r e
    exact m _ _ _ ⟨g1, h1, v, r, rh1, rv1, e, p1⟩
  · exact p1.elim
theorem j_callB {x : Str} {p pos : Pos} {id : String} {op : OpN} {e : Expr} {es : List Expr} {fa : AF} (hc : CallR X (.builtin id) (RdN (ct X) op)) (hg : Gl X x) (hm : X.mg x = none) (hv : bootBuiltins x = some (.builtin id)) (ha : PA X (e :: es) (tA (ct X) W fa)) (hn : x ≠ "__name__" := by decide) (hdb : (x == ("__debug__" : Str)) = false := by decide)
    (he : starEach (e :: es) X.env = (false, eval e X.env) :: starEach es X.env := by rfl) (hpl : (backTo pos (starEach es X.env)).any (·.1) = false := by rfl) : PE X (.Call (.Name x p) (e :: es) [] pos) (tE (ct X) W (eCall op fa)) :=
  PE.mono (pe_callB hc hg hm hv ha hn hdb he hpl) fun σ H Q h => tCB_of (fun _ _ _ q => q) h
theorem j_callTy {x : Str} {p pos : Pos} {T : String} {op : OpN} {e : Expr} {es : List Expr} {fa : AF} (hc : CallR X (.type T) (RdN (ct X) op)) (hg : Gl X x) (hm : X.mg x = none) (hv : bootBuiltins x = some (.type T)) (ha : PA X (e :: es) (tA (ct X) W fa)) (hn : x ≠ "__name__" := by decide) (hdb : (x == ("__debug__" : Str)) = false := by decide)
    (he : starEach (e :: es) X.env = (false, eval e X.env) :: starEach es X.env := by rfl) (hpl : (backTo pos (starEach es X.env)).any (·.1) = false := by rfl) : PE X (.Call (.Name x p) (e :: es) [] pos) (tE (ct X) W (eCall op fa)) :=
  PE.mono (pe_callTy hc hg hm hv ha hn hdb he hpl) fun σ H Q h => tCB_of (fun _ _ _ q => q) h
/-! displays -/
def eTup (a : AF) : EF := fun ρ h => (a ρ h).bind fun vs h1 => if vs.any VV.isObj = true ∨ vs.length > SZ then .no else .ok (.tup vs) h1
def eLst (a : AF) : EF := fun ρ h => (a ρ h).bind fun vs h1 => if vs.any VV.isObj = true ∨ vs.length > SZ then .no else .ok (.lst vs) h1
/-- a display whose list is a root -/
def eLstO (a : AF) : EF := fun ρ h => (a ρ h).bind fun vs h1 => if vs.any VV.isObj = true ∨ vs.length > SZ then .no else .ok (.obj h1.length) (h1 ++ [.fl vs])
theorem j_tup {es : List Expr} {fa : AF} {x1} {pos : Pos} (ha : PA X es (tA (ct X) W fa)) : PE X (.Tuple es x1 pos) (tE (ct X) W (eTup fa)) :=
  PE.mono (pe_tup ha) fun σ H Q h => by
    obtain ⟨g, ρ, h0, rh, rs, p⟩ := tG.bind (R := RTs (ct X)) (f := fa) (k := fun (vs : List VV) ρ h1 => if vs.any VV.isObj = true ∨ vs.length > SZ then .no else .ok (VV.tup vs) h1) h
    refine ⟨g, ρ, h0, rh, rs, p.imp fun u H1 ⟨g1, ρ1, v, h1, rh1, rs1, rv1, p1⟩ => ?_⟩
    by_cases c : v.any VV.isObj = true ∨ v.length > SZ
    · rw [if_pos c] at p1; exact p1.elim
    · rw [if_neg c] at p1
      rw [not_or, Bool.not_eq_true] at c
      refine ⟨by rw [← rv1.len]; exact SZ_le (by omega), fun p hp => p1 (g1.frz p) (upd H1 p (.tup u)) (.ref p) (.new rh1 hp) (rh1.new hp) ?_⟩
      show RV _ _ _ _ _
      rw [RV]
      exact ⟨p, u, rfl, upd_same, (Stp.new rh1 hp).rvs (rv1.rvs c.1)⟩
theorem j_lst {es : List Expr} {fa : AF} {pos : Pos} (ha : PA X es (tA (ct X) W fa)) : PE X (.List es pos) (tE (ct X) W (eLst fa)) :=
  PE.mono (pe_lst ha) fun σ H Q h => by
    obtain ⟨g, ρ, h0, rh, rs, p⟩ := tG.bind (R := RTs (ct X)) (f := fa) (k := fun (vs : List VV) ρ h1 => if vs.any VV.isObj = true ∨ vs.length > SZ then .no else .ok (VV.lst vs) h1) h
    refine ⟨g, ρ, h0, rh, rs, p.imp fun u H1 ⟨g1, ρ1, v, h1, rh1, rs1, rv1, p1⟩ => ?_⟩
    by_cases c : v.any VV.isObj = true ∨ v.length > SZ
    · rw [if_pos c] at p1; exact p1.elim
    · rw [if_neg c] at p1
      rw [not_or, Bool.not_eq_true] at c
      refine ⟨by rw [← rv1.len]; exact SZ_le (by omega), fun p hp => p1 (g1.frz p) (upd H1 p (.lst u)) (.ref p) (.new rh1 hp) (rh1.new hp) ?_⟩
      show RV _ _ _ _ _
      rw [RV]
      exact ⟨p, u, rfl, .inr rfl, upd_same, (Stp.new rh1 hp).rvs (rv1.rvs c.1)⟩
/-- a new list of data that nobody holds becomes a root -/
theorem root_new {c : Ct} {g : Gh} {h : VH} {H : Hp} {p : Addr} {vs : List VV} {us : List V} (rh : RH c g h H) (hp : H p = none) (rv : RVs c g.fz H vs us) :
    Stp g H (g.add p) (upd H p (.lst us)) ∧ RH c (g.add p) (h ++ [.fl vs]) (upd H p (.lst us)) ∧ RT c (g.add p) (upd H p (.lst us)) (.obj h.length) (.ref p) := by
  have st : Stp g H g (upd H p (.lst us)) := .junk rh hp
  have rh1 : RH c g h (upd H p (.lst us)) := rh.junk hp
  have np : p ∉ g.io := fun z => by
    obtain ⟨o, e⟩ := rh.root z
    rw [hp] at e; cases e
  refine ⟨st.trans .add, rh1.add np (fun z => ?_) ⟨fun z => ?_, us, upd_same, st.rvs rv⟩, p, ?_, rfl⟩
  · obtain ⟨o, e⟩ := rh.kp p z
    rw [hp] at e; cases e
  · obtain ⟨o, e⟩ := rh.fz p z
    rw [hp] at e; cases e
  · show (g.io ++ [p])[h.length]? = some p
    rw [← rh.len, List.getElem?_append_right (Nat.le_refl _), Nat.sub_self]; rfl
theorem j_lstO {es : List Expr} {fa : AF} {pos : Pos} (ha : PA X es (tA (ct X) W fa)) : PE X (.List es pos) (tE (ct X) W (eLstO fa)) :=
  PE.mono (pe_lst ha) fun σ H Q h => by
    obtain ⟨g, ρ, h0, rh, rs, p⟩ := tG.bind (R := RTs (ct X)) (f := fa) (k := fun (vs : List VV) ρ h1 => if vs.any VV.isObj = true ∨ vs.length > SZ then .no else .ok (VV.obj h1.length) (h1 ++ [.fl vs])) h
    refine ⟨g, ρ, h0, rh, rs, p.imp fun u H1 ⟨g1, ρ1, v, h1, rh1, rs1, rv1, p1⟩ => ?_⟩
    by_cases c : v.any VV.isObj = true ∨ v.length > SZ
    · rw [if_pos c] at p1; exact p1.elim
    · rw [if_neg c] at p1
      rw [not_or, Bool.not_eq_true] at c
      refine ⟨by rw [← rv1.len]; exact SZ_le (by omega), fun p hp => ?_⟩
      obtain ⟨a, b, d⟩ := root_new rh1 hp (rv1.rvs c.1)
      exact p1 _ _ _ a b d
/-! tests -/
def tVal (a : EF) : TF := fun ρ h => (a ρ h).bind fun v h1 => match v with
  | .bl b => .ok b h1
  | _ => .no
def tAnd (a b : TF) : TF := fun ρ h => (a ρ h).bind fun v h1 => if v = true then b ρ h1 else .ok false h1
def tOr (a b : TF) : TF := fun ρ h => (a ρ h).bind fun v h1 => if v = true then .ok true h1 else b ρ h1
def tNot (a : TF) : TF := fun ρ h => (a ρ h).bind fun v h1 => .ok (!v) h1
theorem tVal_of {a : EF} {σ : St} {H : Hp} {Q : Bool → Hp → Prop} (h : tT (ct X) W (tVal a) σ H Q) : tE (ct X) W a σ H (fun x H1 => ∃ k, x = .bl k ∧ Q k H1) := by
  obtain ⟨g, ρ, h0, rh, rs, p⟩ := tG.bind (R := RT (ct X)) (f := a) (k := fun v ρ h1 => match v with
    | .bl b => .ok b h1
    | _ => .no) h
  refine ⟨g, ρ, h0, rh, rs, p.imp fun u H1 ⟨g1, ρ1, v, h1, rh1, rs1, rv1, p1⟩ => ?_⟩
  cases v with
  | bl b =>
    have e : u = .bl b := by have := rv1.rv rfl; rw [RV] at this; exact this
    exact ⟨b, e, p1 g1 H1 b .refl rh1 rfl⟩
  | _ => exact p1.elim
theorem jt_val {e : Expr} {fa : EF} (h : PE X e (tE (ct X) W fa)) (he : ∀ whole, isTrue e X.env whole = (do let v ← whole; standAt e.pos; holding [v] (truthy v)) := by intro _; rfl) : PT X e (tT (ct X) W (tVal fa)) :=
  PT.mono (pt_val h he) fun σ H Q q => tVal_of q
theorem jt_cmp {op : Op2} {o : CmpOp} {a b : Expr} {fa fb : EF} {pos : Pos} (ho : OpR X (compareOp o) (Rd2 (ct X) op)) (ha : PE X a (tE (ct X) W fa)) (hb : PE X b (tE (ct X) W fb)) (hm : behindInMarks o b = false) : PT X (.Compare a [o] [b] pos) (tT (ct X) W (tVal (eBin op fa fb))) :=
  PT.mono (pt_cmpR ho ha hb hm) fun σ H Q q => tOp_of (fun _ _ _ _ q => q) (tVal_of q)
theorem jw_and1 {a : Expr} {fa : TF} {pos : Pos} (ha : PT X a (tT (ct X) W fa)) : PW X (.BoolOp .And [a] pos) (tT (ct X) W fa) := pw_and1 ha
theorem jw_or1 {a : Expr} {fa : TF} {pos : Pos} (ha : PT X a (tT (ct X) W fa)) : PW X (.BoolOp .Or [a] pos) (tT (ct X) W fa) := pw_or1 ha
theorem jw_and {a b : Expr} {rest : List Expr} {fa fb : TF} {pos : Pos} (ha : PT X a (tT (ct X) W fa)) (hb : PW X (.BoolOp .And (b :: rest) pos) (tT (ct X) W fb)) : PW X (.BoolOp .And (a :: b :: rest) pos) (tT (ct X) W (tAnd fa fb)) :=
  PW.mono (pw_and ha hb) fun σ H Q h => by
    obtain ⟨g, ρ, h0, rh, rs, p⟩ := tG.bind (R := RB) (f := fa) (k := fun v ρ h1 => if v = true then fb ρ h1 else .ok false h1) h
    refine ⟨g, ρ, h0, rh, rs, p.imp fun u H1 ⟨g1, ρ1, v, h1, rh1, rs1, rv1, p1⟩ => ?_⟩
    cases rv1
    cases u with
    | true => rw [if_pos rfl] at p1 ⊢; exact ⟨g1, ρ1, h1, rh1, rs1, p1⟩
    | false => rw [if_neg Bool.false_ne_true] at p1 ⊢; exact p1 g1 H1 false .refl rh1 rfl
theorem jw_or {a b : Expr} {rest : List Expr} {fa fb : TF} {pos : Pos} (ha : PT X a (tT (ct X) W fa)) (hb : PW X (.BoolOp .Or (b :: rest) pos) (tT (ct X) W fb)) : PW X (.BoolOp .Or (a :: b :: rest) pos) (tT (ct X) W (tOr fa fb)) :=
  PW.mono (pw_or ha hb) fun σ H Q h => by
    obtain ⟨g, ρ, h0, rh, rs, p⟩ := tG.bind (R := RB) (f := fa) (k := fun v ρ h1 => if v = true then .ok true h1 else fb ρ h1) h
    refine ⟨g, ρ, h0, rh, rs, p.imp fun u H1 ⟨g1, ρ1, v, h1, rh1, rs1, rv1, p1⟩ => ?_⟩
    cases rv1
    cases u with
    | true => rw [if_pos rfl] at p1 ⊢; exact p1 g1 H1 true .refl rh1 rfl
    | false => rw [if_neg Bool.false_ne_true] at p1 ⊢; exact ⟨g1, ρ1, h1, rh1, rs1, p1⟩
theorem jt_not {a : Expr} {fa : TF} {pos : Pos} (ha : PT X a (tT (ct X) W fa)) : PT X (.UnaryOp .Not a pos) (tT (ct X) W (tNot fa)) :=
  PT.mono (pt_not ha) fun σ H Q h => by
    obtain ⟨g, ρ, h0, rh, rs, p⟩ := tG.bind (R := RB) (f := fa) (k := fun v ρ h1 => .ok (!v) h1) h
    refine ⟨g, ρ, h0, rh, rs, p.imp fun u H1 ⟨g1, ρ1, v, h1, rh1, rs1, rv1, p1⟩ => ?_⟩
    cases rv1
    exact p1 g1 H1 _ .refl rh1 rfl
def eIf (c : TF) (a b : EF) : EF := fun ρ h => (c ρ h).bind fun v h1 => if v = true then a ρ h1 else b ρ h1
theorem j_if {c a b : Expr} {fc : TF} {fa fb : EF} {pos : Pos} (hc : PT X c (tT (ct X) W fc)) (ha : PE X a (tE (ct X) W fa)) (hb : PE X b (tE (ct X) W fb)) : PE X (.IfExp c a b pos) (tE (ct X) W (eIf fc fa fb)) :=
  PE.mono (pe_ifExp hc ha hb) fun σ H Q h => by
    obtain ⟨g, ρ, h0, rh, rs, p⟩ := tG.bind (R := RB) (f := fc) (k := fun v ρ h1 => if v = true then fa ρ h1 else fb ρ h1) h
    refine ⟨g, ρ, h0, rh, rs, p.imp fun u H1 ⟨g1, ρ1, v, h1, rh1, rs1, rv1, p1⟩ => ?_⟩
    cases rv1
    cases u with
    | true => rw [if_pos rfl] at p1 ⊢; exact ⟨g1, ρ1, h1, rh1, rs1, p1⟩
    | false => rw [if_neg Bool.false_ne_true] at p1 ⊢; exact ⟨g1, ρ1, h1, rh1, rs1, p1⟩
/-- and, or, not of truth values -/
def eAnd (a b : EF) : EF := fun ρ h => (a ρ h).bind fun v h1 => match v with
  | .bl true => b ρ h1
  | .bl false => .ok (.bl false) h1
  | _ => .no
def eOr (a b : EF) : EF := fun ρ h => (a ρ h).bind fun v h1 => match v with
  | .bl true => .ok (.bl true) h1
  | .bl false => b ρ h1
  | _ => .no
def eNot (a : EF) : EF := fun ρ h => (a ρ h).bind fun v h1 => match v with
  | .bl b => .ok (.bl (!b)) h1
  | _ => .no
theorem j_one {op} {a : Expr} {f : EF} {pos : Pos} (h : PE X a (tE (ct X) W f)) : PE X (.BoolOp op [a] pos) (tE (ct X) W f) := pe_one h
theorem j_and {a b : Expr} {rest : List Expr} {fa fb : EF} {pos : Pos} (ha : PE X a (tE (ct X) W fa)) (hb : PE X (.BoolOp .And (b :: rest) pos) (tE (ct X) W fb)) : PE X (.BoolOp .And (a :: b :: rest) pos) (tE (ct X) W (eAnd fa fb)) :=
  PE.mono (pe_and ha hb) fun σ H Q h => by
    obtain ⟨g, ρ, h0, rh, rs, p⟩ := tG.bind (R := RT (ct X)) (f := fa) (k := fun v ρ h1 => match v with
      | .bl true => fb ρ h1
      | .bl false => .ok (.bl false) h1
      | _ => .no) h
    refine ⟨g, ρ, h0, rh, rs, p.imp fun u H1 ⟨g1, ρ1, v, h1, rh1, rs1, rv1, p1⟩ => ?_⟩
    cases v with
    | bl b =>
      have e : u = .bl b := by have := rv1.rv rfl; rw [RV] at this; exact this
      refine ⟨b, e, ?_⟩
      cases b with
      | true => rw [if_pos rfl]; exact ⟨g1, ρ1, h1, rh1, rs1, p1⟩
      | false => rw [if_neg Bool.false_ne_true]; exact p1 g1 H1 _ .refl rh1 rt_bl
    | _ => exact p1.elim
/-- a op b op' c -/
def eChain (o o' : Op2) (a b c : EF) : EF := fun ρ h => (a ρ h).bind fun v h1 => (b ρ h1).bind fun w h2 => (lift (o h2 v w) h2).bind fun k h3 => match k with
  | .bl true => (c ρ h3).bind fun z h4 => lift (o' h4 w z) h4
  | .bl false => .ok (.bl false) h3
  | _ => .no
theorem tChain_of {o o' : Op2} {a b c : EF} {σ : St} {H : Hp} {Q : VK} (h : tE (ct X) W (eChain o o' a b c) σ H Q) :
    tChain (Rd2 (ct X) o) (Rd2 (ct X) o') (tE (ct X) W a) (tE (ct X) W b) (tE (ct X) W c) σ H Q := by
  obtain ⟨g, ρ, h0, rh, rs, p⟩ := tG.bind (R := RT (ct X)) (f := a) (k := fun v ρ h1 => (b ρ h1).bind fun w h2 => (lift (o h2 v w) h2).bind fun k h3 => match k with
    | .bl true => (c ρ h3).bind fun z h4 => lift (o' h4 w z) h4
    | .bl false => .ok (.bl false) h3
    | _ => .no) h
  refine ⟨g, ρ, h0, rh, rs, p.imp fun u H1 ⟨g1, ρ1, v, h1, rh1, rs1, rv1, p1⟩ => ?_⟩
  refine ⟨g1, ρ1, h1, rh1, rs1, (Pst.bind (R := RT (ct X)) p1).imp fun u2 H2 ⟨g2, w, h2, st, rh2, rv2, p2⟩ => ?_⟩
  unfold lift at p2
  cases e : o h2 v w with
  | none => rw [e] at p2; exact p2.elim
  | some k =>
    rw [e] at p2
    refine ⟨g2, h2, v, w, k, rh2, rv1.stp st, rv2, e, fun g3 H3 u3 st3 rh3 rv3 => ?_⟩
    cases k with
    | bl bb =>
      have e3 : u3 = .bl bb := by have := rv3.rv rfl; rw [RV] at this; exact this
      refine ⟨bb, e3, ?_⟩
      cases bb with
      | true =>
        rw [if_pos rfl]
        have p3 : Pst (ct X) W σ (RT (ct X)) g2 H2 Q ((c ρ1 h2).bind fun z h4 => lift (o' h4 w z) h4) := p2
        refine ⟨g3, ρ1, h2, rh3, (rs1.stp st).stp st3, (Pst.bind (R := RT (ct X)) (Pst.step st3 p3)).imp fun u4 H4 ⟨g4, z, h4, st4, rh4, rv4, p4⟩ => ?_⟩
        cases e4 : o' h4 w z with
        | none => rw [e4] at p4; exact p4.elim
        | some r =>
          rw [e4] at p4
          exact ⟨g4, h4, w, z, r, rh4, (rv2.stp st3).stp st4, rv4, e4, p4⟩
      | false => rw [if_neg Bool.false_ne_true]; exact p2 g3 H3 _ st3 rh3 rt_bl
    | _ => exact p2.elim
theorem j_chain {o o' : Op2} {op op' : CmpOp} {a b c : Expr} {fa fb fc : EF} {pos : Pos} (ho : OpR X (compareOp op) (Rd2 (ct X) o)) (ho' : OpR X (compareOp op') (Rd2 (ct X) o')) (ha : PE X a (tE (ct X) W fa)) (hb : PE X b (tE (ct X) W fb)) (hc : PE X c (tE (ct X) W fc))
    (hm : lastMarks [op, op'] [b, c] = false := by with_unfolding_all rfl) : PE X (.Compare a [op, op'] [b, c] pos) (tE (ct X) W (eChain o o' fa fb fc)) :=
  PE.mono (pe_chain ho ho' ha hb hc hm) fun σ H Q h => tChain_of h
end
end J
namespace J
open PySem L2
open PyProof.Rows (envOfC)
/-! what is walked -/
/-- what is frozen stands -/
structure Fst (g : Gh) (H : Hp) (g' : Gh) (H' : Hp) : Prop where
  fz : ∀ p, g.fz p → g'.fz p
  fH : ∀ p, g.fz p → Ke (H p) (H' p)
  tp : ∀ p us, H p = some (.tup us) → H' p = some (.tup us)
theorem Stp.f {g g' : Gh} {H H' : Hp} (s : Stp g H g' H') : Fst g H g' H' := ⟨s.fz, s.fH, s.tp⟩
theorem Fst.rv {c : Ct} {g g' : Gh} {H H' : Hp} (s : Fst g H g' H') {v : VV} {u : V} (h : RV c g.fz H v u) : RV c g'.fz H' v u := RV.stp s.fz s.fH s.tp _ _ h
theorem Fst.trans {g g1 g2 : Gh} {H H1 H2 : Hp} (a : Fst g H g1 H1) (b : Fst g1 H1 g2 H2) : Fst g H g2 H2 := ⟨fun p h => b.fz p (a.fz p h), fun p h => (a.fH p h).trans (b.fH p (a.fz p h)), fun p us h => b.tp p us (a.tp p us h)⟩
structure Deliv (c : Ct) (g0 : Gh) (H0 : Hp) (items : List VV) (J : It) : Prop where
  go : ∀ g H, Fst g0 H0 g H → ∀ (i : Nat), i < items.length → J.go i H
  stop : ∀ g H, Fst g0 H0 g H → ∀ (i : Nat), items.length ≤ i → J.stop i H
  yld : ∀ g H, Fst g0 H0 g H → ∀ (i : Nat) (x : VV) (h : VH), items[i]? = some x → RH c g h H → ∀ u H', J.yld i H u H' → ∃ g', Stp g H g' H' ∧ RH c g' h H' ∧ RT c g' H' x u
abbrev tI (c : Ct) (W : WX) (f : AF) : TI := tG c W (fun g H xs J => Deliv c g H xs J) f
theorem PI.or {X : Cx} {tg e : Expr} {t t' : TI} (a : PI X tg e t) (b : PI X tg e t') : PI X tg e (fun σ H R => t σ H R ∨ t' σ H R) := ⟨fun pins s σ H R I q => q.elim (a.run pins s σ H R I) (b.run pins s σ H R I)⟩
/-! targets -/
structure PatOk (K : PySem.W.Frag) (t : TG) (b : VV → VSt → Option VSt) (own : List Nat) : Prop where
  run : ∀ (c : Ct) (g : Gh) (h : VH) (H : Hp) (ρ : VSt) (σ : St) (v : VV) (u : V) (ρ' : VSt), c.K = K → RH c g h H → RS c g H ρ σ → RT c g H v u → b v ρ = some ρ' →
    ∀ Q : St → Hp → Prop, (∀ σ', RS c g H ρ' σ' → (∀ i, i ∉ own → σ'[i]? = σ[i]?) → σ'.length = σ.length → Q σ' H) → t u σ H Q
structure PatsOk (K : PySem.W.Frag) (t : TGs) (b : List VV → VSt → Option VSt) (own : List Nat) : Prop where
  run : ∀ (c : Ct) (g : Gh) (h : VH) (H : Hp) (ρ : VSt) (σ : St) (v : List VV) (u : List V) (ρ' : VSt), c.K = K → RH c g h H → RS c g H ρ σ → RTs c g H v u → b v ρ = some ρ' →
    ∀ Q : St → Hp → Prop, (∀ σ', RS c g H ρ' σ' → (∀ i, i ∉ own → σ'[i]? = σ[i]?) → σ'.length = σ.length → Q σ' H) → t u σ H Q
def bNm (i : Nat) : VV → VSt → Option VSt := fun v ρ => some (ρ.set i (some v))
def bNil : List VV → VSt → Option VSt := fun vs ρ => match vs with
  | [] => some ρ
  | _ => none
def bCons (a : VV → VSt → Option VSt) (r : List VV → VSt → Option VSt) : List VV → VSt → Option VSt := fun vs ρ => match vs with
  | v :: vs => (a v ρ).bind fun ρ' => r vs ρ'
  | [] => none
def bTup (n : Nat) (r : List VV → VSt → Option VSt) : VV → VSt → Option VSt := fun v ρ => match v with
  | .tup xs => if xs.length = n then r xs ρ else none
  | _ => none
theorem RS.set {c : Ct} {g : Gh} {H : Hp} {ρ : VSt} {σ : St} {v : VV} {u : V} (rs : RS c g H ρ σ) (rv : RT c g H v u) (i : Nat) : RS c g H (ρ.set i (some v)) (σ.set i (some u)) := by
  refine ⟨by rw [List.length_set, List.length_set]; exact rs.len, fun j w e => ?_⟩
  by_cases ij : i = j
  · subst ij
    have hl : i < ρ.length := by have := (List.getElem?_eq_some_iff.mp e).1; simpa using this
    rw [List.getElem?_set_self hl] at e
    cases e
    exact ⟨u, List.getElem?_set_self (by rw [← rs.len]; exact hl), rv⟩
  · rw [List.getElem?_set_ne ij] at e
    rw [List.getElem?_set_ne ij]
    exact rs.get j w e
theorem pat_nm {K : PySem.W.Frag} (i : Nat) : PatOk K (gName i) (bNm i) [i] := ⟨fun c g h H ρ σ v u ρ' ek rh rs rv e Q k => by
  cases e
  refine k _ (rs.set rv i) (fun j hj => ?_) (by rw [List.length_set])
  exact List.getElem?_set_ne (fun z => hj (by rw [z]; exact List.mem_cons_self))⟩
theorem pats_nil {K : PySem.W.Frag} : PatsOk K gNil bNil [] := ⟨fun c g h H ρ σ v u ρ' ek rh rs rv e Q k => by
  cases v with
  | nil => cases e; exact ⟨rv, k _ rs (fun _ _ => rfl) rfl⟩
  | cons => cases e⟩
theorem pats_cons {K : PySem.W.Frag} {t : TG} {u : TGs} {a r l1 l2} (h1 : PatOk K t a l1) (h2 : PatsOk K u r l2) : PatsOk K (gCons t u) (bCons a r) (l1 ++ l2) := ⟨fun c g h H ρ σ v u ρ' ek rh rs rv e Q k => by
  cases v with
  | nil => cases e
  | cons x xs =>
    obtain ⟨y, ys, rfl, ra, rb⟩ := rv
    unfold bCons at e
    obtain ⟨ρ1, e1, e2⟩ := Option.bind_eq_some_iff.mp e
    refine ⟨y, ys, rfl, h1.run c g h H ρ σ x y ρ1 ek rh rs ra e1 _ fun σ1 rs1 o1 len1 => ?_⟩
    refine h2.run c g h H ρ1 σ1 xs ys ρ' ek rh rs1 rb e2 _ fun σ2 rs2 o2 len2 => ?_
    exact k σ2 rs2 (fun i hi => (o2 i (fun z => hi (List.mem_append_right _ z))).trans (o1 i (fun z => hi (List.mem_append_left _ z)))) (len2.trans len1)⟩
theorem pat_tup {K : PySem.W.Frag} {n : Nat} {u : TGs} {r l} (h : PatsOk K u r l) : PatOk K (gTup K n u) (bTup n r) l := ⟨fun c g hh H ρ σ v uu ρ' ek rh rs rv e Q k => by
  cases v with
  | tup xs =>
    unfold bTup at e
    have rv' := rv.rv rfl
    rw [RV] at rv'
    obtain ⟨p, us, eu, sq, rr⟩ := rv'
    simp only at e
    by_cases hn : xs.length = n
    · rw [if_pos hn] at e
      have sq' := sq.sq
      rw [ek] at sq'
      exact ⟨p, us, eu, sq', by rw [← rr.len]; exact hn, h.run c g hh H ρ σ xs us ρ' ek rh rs (RTs.of_rvs rr) e Q k⟩
    · rw [if_neg hn] at e; cases e
  | _ => cases e⟩
/-! comprehensions -/
def wp (ρ : VSt) : List Nat → VSt
  | [] => ρ
  | v :: vs => (wp ρ vs).set v none
theorem wp_length (ρ : VSt) : ∀ vs : List Nat, (wp ρ vs).length = ρ.length
  | [] => rfl
  | v :: vs => by unfold wp; rw [List.length_set, wp_length ρ vs]
theorem wp_some {ρ : VSt} {i : Nat} {x : VV} : ∀ {vs : List Nat}, (wp ρ vs)[i]? = some (some x) → ρ[i]? = some (some x) ∧ i ∉ vs
  | [], h => ⟨h, by simp⟩
  | v :: vs, h => by
    unfold wp at h
    by_cases hi : v = i
    · subst hi
      by_cases hv : v < (wp ρ vs).length
      · rw [List.getElem?_set_self hv] at h; cases h
      · rw [List.getElem?_eq_none (by simpa using hv)] at h; cases h
    · rw [List.getElem?_set_ne hi] at h
      obtain ⟨h1, h2⟩ := wp_some h
      exact ⟨h1, by simp only [List.mem_cons, not_or]; exact ⟨fun e => hi e.symm, h2⟩⟩
theorem RS.wipe {c : Ct} {g : Gh} {H : Hp} {ρ : VSt} {σ : St} (rs : RS c g H ρ σ) (vs : List Nat) : RS c g H (wp ρ vs) (wipe σ vs) := by
  refine ⟨by rw [wp_length, wipe_length]; exact rs.len, fun i v e => ?_⟩
  obtain ⟨a, b⟩ := wp_some e
  rw [wipe_out b]
  exact rs.get i v a
theorem wipe_at (σ : St) : ∀ (vs : List Nat) (i : Nat), i ∈ vs → (wipe σ vs)[i]? = if i < σ.length then some none else none
  | [], i, h => by simp at h
  | v :: vs, i, h => by
    unfold wipe
    by_cases e : v = i
    · subst e
      by_cases hl : v < σ.length
      · rw [List.getElem?_set_self (by rw [wipe_length]; exact hl), if_pos hl]
      · rw [List.getElem?_eq_none (by rw [List.length_set, wipe_length]; omega), if_neg hl]
    · rw [List.getElem?_set_ne e]
      exact wipe_at σ vs i (by rcases List.mem_cons.mp h with h | h; exact absurd h.symm e; exact h)
theorem wipe_same {σ σ2 : St} {vs : List Nat} (hl : σ2.length = σ.length) (h : ∀ i, i ∉ vs → σ2[i]? = σ[i]?) : wipe σ2 vs = wipe σ vs := by
  apply List.ext_getElem?
  intro i
  by_cases hi : i ∈ vs
  · rw [wipe_at σ2 vs i hi, wipe_at σ vs i hi, hl]
  · rw [wipe_out hi, wipe_out hi, h i hi]
def lcGo (b : VV → VSt → Option VSt) (t : TF) (e : EF) (ρ : VSt) : List VV → VH → Res (List VV)
  | [], h => .ok [] h
  | x :: xs, h => match b x ρ with
    | none => .no
    | some ρ' => (t ρ' h).bind fun k h1 => if k = true then (e ρ' h1).bind fun v h2 => if v.isObj = true then .no else (lcGo b t e ρ xs h2).bind fun vs h3 => .ok (v :: vs) h3 else lcGo b t e ρ xs h1
/-- [e for .. in .. if ..] as data -/
def eLc (own : List Nat) (it : AF) (b : VV → VSt → Option VSt) (t : TF) (e : EF) : EF := fun ρ h => (it ρ h).bind fun xs h1 => if xs.length > SZ then .no else match lcGo b t e (wp ρ own) xs h1 with
  | .ok vs h2 => .ok (.lst vs) h2
  | _ => .no
def tTrue : TF := fun _ h => .ok true h
theorem Stp.back {g g' : Gh} {H H' : Hp} {D : Addr} (s : Stp (g.keep D) H g' H') : Stp g H (g'.back g.kp) H' := ⟨s.io, s.fz, fun _ h => h, s.fH, fun p h => s.kH p (.inl h), s.tp⟩
theorem RVs.gback {c : Ct} {g : Gh} {H : Hp} {k : Addr → Prop} {vs : List VV} {us : List V} (h : RVs c g.fz H vs us) : RVs c (g.back k).fz H vs us := h
/-- the loop of a comprehension, whatever is made of the new list -/
theorem lc_run {c : Ct} {W0 : WX} {Wx : WX} {own : List Nat} {b : VV → VSt → Option VSt} {ft : TF} {fe : EF} {tg : TG} {J : It} {xs : List VV} {ρ : VSt} {σ : St} {g : Gh} {h : VH} {H1 : Hp} {D : Addr} {Q : VK} {K : PySem.W.Frag}
    (hW : ∀ a d s h, W0 a d s h → False) (ek : c.K = K) (pat : PatOk K tg b own) (dl : Deliv c g H1 xs J) (hsz : xs.length ≤ SZ) (rh : RH c g h H1) (rs : RS c g H1 ρ σ) (hD : H1 D = none)
    (fin : match lcGo b ft fe (wp ρ own) xs h with
      | .ok vs h' => ∀ g' H' us, Stp g H1 g' H' → RH c g' h' H' → H' D = some (.lst us) → ¬ g'.fz D → D ∉ g'.io → ¬ g'.kp D → RVs c g'.fz H' vs us → Q (.ref D) H'
      | _ => False) :
    ∃ Wv : Nat → Nat → Hp → Prop, (∃ m, Wv 0 m (upd H1 D (.lst []))) ∧ ∀ i m H, Wv i m H →
      (J.stop i H ∧ Q (.ref D) H) ∨ (J.go i H ∧ ∃ Nx : Hp → Prop, (∀ H', Nx H' → ∃ m', m' < m ∧ Wv (i + 1) m' H') ∧ ∀ x H', J.yld i H x H' → tg x (wipe σ own) H' fun σ2 H2 => wipe σ2 own = wipe σ own ∧ tT c W0 ft σ2 H2 fun bb H3 =>
        if bb = true then tE c W0 fe σ2 H3 fun y H4 => ∃ acc, H4 D = some (.lst acc) ∧ acc.length < sizeLine ∧ Nx (upd H4 D (.lst (acc ++ [y]))) else Nx H3) := by
  -- the invariant
  let P : Nat → Hp → Prop := fun i H => ∃ (gi : Gh) (hi : VH) (acc : List VV) (us : List V), acc.length ≤ i ∧ Stp g H1 gi H ∧ RH c gi hi H ∧ H D = some (.lst us) ∧ ¬ gi.fz D ∧ D ∉ gi.io ∧ ¬ gi.kp D ∧ RVs c gi.fz H acc us ∧
    (match lcGo b ft fe (wp ρ own) (xs.drop i) hi with
      | .ok vs h' => ∀ g' H' us, Stp gi H g' H' → RH c g' h' H' → H' D = some (.lst us) → ¬ g'.fz D → D ∉ g'.io → ¬ g'.kp D → RVs c g'.fz H' (acc ++ vs) us → Q (.ref D) H'
      | _ => False)
  refine ⟨fun i m H => m = xs.length - i ∧ i ≤ xs.length ∧ P i H, ⟨xs.length, by simp, Nat.zero_le _, ?_⟩, ?_⟩
  · refine ⟨g, h, [], [], Nat.le_refl _, .junk rh hD, rh.junk hD, upd_same, fun z => ?_, fun z => ?_, fun z => ?_, RVs.nil, ?_⟩
    · obtain ⟨o, e⟩ := rh.fz D z; rw [hD] at e; cases e
    · obtain ⟨o, e⟩ := rh.root z; rw [hD] at e; cases e
    · obtain ⟨o, e⟩ := rh.kp D z; rw [hD] at e; cases e
    · rw [List.drop_zero]
      generalize lcGo b ft fe (wp ρ own) xs h = r at fin ⊢
      cases r with
      | ok vs h' =>
        intro g' H' us st
        rw [List.nil_append]
        exact fin g' H' us ((Stp.junk rh hD).trans st)
      | no => exact fin
      | exc _ _ _ _ => exact fin
  · rintro i m H ⟨rfl, hi, gi, hh, acc, us, hacc, st, rhi, hDl, nf, ni, nk, rvs, fin⟩
    by_cases hlt : i < xs.length
    · refine .inr ⟨dl.go gi H st.f i hlt, P (i + 1), fun H' p' => ⟨xs.length - (i + 1), by omega, rfl, hlt, p'⟩, fun x H' y => ?_⟩
      have ed : xs.drop i = xs[i] :: xs.drop (i + 1) := List.drop_eq_getElem_cons hlt
      have rhk : RH c (gi.keep D) hh H := rhi.keep hDl nf ni
      have stk : Stp g H1 (gi.keep D) H := st.trans .keep
      obtain ⟨g1, st1, rh1, rt1⟩ := dl.yld (gi.keep D) H stk.f i xs[i] hh (List.getElem?_eq_getElem hlt) rhk x H' y
      rw [ed] at fin
      unfold lcGo at fin
      cases e : b xs[i] (wp ρ own) with
      | none => rw [e] at fin; exact fin.elim
      | some ρ' =>
        rw [e] at fin
        simp only at fin
        have rs1 : RS c g1 H' (wp ρ own) (wipe σ own) := ((rs.wipe own).stp stk).stp st1
        refine pat.run c g1 hh H' _ _ _ _ ρ' ek rh1 rs1 rt1 e _ fun σ2 rs2 o2 l2 => ⟨?_, ?_⟩
        · refine wipe_same (l2.trans (wipe_length _ _)) fun j hj => (o2 j hj).trans (wipe_out hj)
        · refine ⟨g1, ρ', hh, rh1, rs2, ?_⟩
          cases et : ft ρ' hh with
          | no => rw [et] at fin; exact fin.elim
          | exc _ _ _ _ => rw [et] at fin; exact fin.elim
          | ok k h1 =>
            rw [et] at fin
            intro g2 H2 bb st2 rh2 eb
            cases (show bb = k from eb)
            -- D is kept
            have hD2 : H2 D = some (.lst us) := by rw [st2.kH D (st1.kp D (.inr rfl)), st1.kH D (.inr rfl)]; exact hDl
            have kD2 : g2.kp D := st2.kp D (st1.kp D (.inr rfl))
            have s12 : Stp (gi.keep D) H g2 H2 := st1.trans st2
            cases k with
            | false =>
              rw [if_neg Bool.false_ne_true]
              have fin' : match lcGo b ft fe (wp ρ own) (xs.drop (i + 1)) h1 with
                | .ok vs h' => ∀ g' H' us, Stp gi H g' H' → RH c g' h' H' → H' D = some (.lst us) → ¬ g'.fz D → D ∉ g'.io → ¬ g'.kp D → RVs c g'.fz H' (acc ++ vs) us → Q (.ref D) H'
                | _ => False := by
                simp only [Res.bind, if_neg Bool.false_ne_true] at fin; exact fin
              refine ⟨g2.back gi.kp, h1, acc, us, Nat.le_succ_of_le hacc, st.trans s12.back, rh2.back (fun p z => s12.kp p (.inl z)), hD2, (rh2.kd D kD2).1, (rh2.kd D kD2).2, nk, RVs.gback (s12.rvs (show RVs c (gi.keep D).fz H acc us from rvs)), ?_⟩
              generalize lcGo b ft fe (wp ρ own) (xs.drop (i + 1)) h1 = r at fin' ⊢
              cases r with
              | ok vs h' => exact fun g' H' us' st' => fin' g' H' us' (s12.back.trans st')
              | no => exact fin'
              | exc _ _ _ _ => exact fin'
            | true =>
              rw [if_pos rfl]
              refine ⟨g2, ρ', h1, rh2, rs2.stp st2, ?_⟩
              simp only [Res.bind, if_pos rfl] at fin
              cases ee : fe ρ' h1 with
              | no => rw [ee] at fin; exact fin.elim
              | exc _ _ _ _ => rw [ee] at fin; exact fin.elim
              | ok v h2 =>
                rw [ee] at fin
                simp only at fin
                intro g3 H3 yv st3 rh3 rv3
                have s13 : Stp (gi.keep D) H g3 H3 := s12.trans st3
                have kD3 : g3.kp D := st3.kp D kD2
                have hD3 : H3 D = some (.lst us) := by rw [st3.kH D kD2]; exact hD2
                have rvs3 : RVs c g3.fz H3 acc us := s13.rvs (show RVs c (gi.keep D).fz H acc us from rvs)
                have nf3 := (rh3.kd D kD3).1
                have ni3 := (rh3.kd D kD3).2
                refine ⟨us, hD3, by rw [← rvs.len]; exact SZ_lt (by omega), ?_⟩
                cases ov : v.isObj with
                | true => rw [ov] at fin; simp at fin
                | false =>
                  simp only [ov, if_neg Bool.false_ne_true] at fin
                  -- write D
                  have sw : Stp (g3.back gi.kp) H3 (g3.back gi.kp) (upd H3 D (.lst (us ++ [yv]))) := Stp.wr (c := c) (g := g3.back gi.kp) nf3 nk (fun ys z => by rw [hD3] at z; cases z)
                  have rhb : RH c (g3.back gi.kp) h2 H3 := rh3.back (fun p z => s13.kp p (.inl z))
                  have rhw : RH c (g3.back gi.kp) h2 (upd H3 D (.lst (us ++ [yv]))) := by
                    refine ⟨rhb.len, rhb.nd, fun n o a q1 q2 => ?_, fun q z => ?_, fun q z => ?_, rhb.kd, rhb.tb.upd (by rw [hD3]; exact noTab_of (fun _ z => by cases z) (fun _ z => by cases z)), fun q z ps y => rhb.nt q z ps (by rw [upd_ne (show q ≠ D from fun e => z.elim (fun z => nf3 (e ▸ z)) (fun z => nk (e ▸ z)))] at y; exact y)⟩
                    · have na : a ≠ D := fun z => ni3 (z ▸ List.mem_of_getElem? q2)
                      exact RO.stp sw (fun h => h) (upd_ne na) (rhb.at' n o a q1 q2)
                    · rw [upd_ne (show q ≠ D from fun e => nf3 (e ▸ z))]; exact rhb.fz q z
                    · rw [upd_ne (show q ≠ D from fun e => nk (e ▸ z))]; exact rhb.kp q z
                  refine ⟨g3.back gi.kp, h2, acc ++ [v], us ++ [yv], by rw [List.length_append]; simp; omega, (st.trans s13.back).trans sw, rhw, upd_same, nf3, ni3, nk, ?_, ?_⟩
                  · exact sw.rvs (RVs.app (RVs.gback rvs3) (RVs.one (rv3.rv ov)))
                  · generalize lcGo b ft fe (wp ρ own) (xs.drop (i + 1)) h2 = r at fin ⊢
                    cases r with
                    | ok vs h' =>
                      intro g' H' us' st' rh' d1 d2 d3 d4 rv'
                      rw [List.append_assoc] at rv'
                      exact fin g' H' us' ((s13.back.trans sw).trans st') rh' d1 d2 d3 d4 rv'
                    | no => exact fin
                    | exc _ _ _ _ => exact fin
    · have e : i = xs.length := by omega
      subst e
      refine .inl ⟨dl.stop gi H st.f _ (Nat.le_refl _), ?_⟩
      rw [List.drop_length] at fin
      unfold lcGo at fin
      refine fin gi H us .refl rhi hDl nf ni nk ?_
      rw [List.append_nil]; exact rvs
section
variable {X : Cx} {W : WX}
abbrev W0 : WX := fun _ _ _ _ => False
theorem jts_nil : PTs X [] (tT (ct X) W tTrue) := ⟨fun pins s σ H Q I h => by
  obtain ⟨g, ρ, h0, rh, rs, p⟩ := h
  exact pts_nil.run pins s σ H Q I (show tYes σ H Q from p g H true .refl rh rfl)⟩
theorem jts_one {c : Expr} {f : TF} (h : PT X c (tT (ct X) W f)) : PTs X [c] (tT (ct X) W f) := pts_one h
theorem tLc_of {own : List Nat} {it : AF} {b : VV → VSt → Option VSt} {ft : TF} {fe : EF} {tg : TG} {mk : List VV → VH → Res VV} (pat : PatOk X.K tg b own)
    (hmk : ∀ (g : Gh) (h : VH) (H : Hp) (D : Addr) (vs : List VV) (us : List V) (σ : St) (Q : VK), RH (ct X) g h H → H D = some (.lst us) → ¬ g.fz D → D ∉ g.io → ¬ g.kp D → RVs (ct X) g.fz H vs us → Pst (ct X) W σ (RT (ct X)) g H Q (mk vs h) → Q (.ref D) H)
    {σ : St} {H : Hp} {Q : VK} (h : tE (ct X) W (fun ρ h => (it ρ h).bind fun xs h1 => if xs.length > SZ then .no else (match lcGo b ft fe (wp ρ own) xs h1 with
      | .ok vs h2 => mk vs h2
      | _ => .no)) σ H Q) :
    tLc (tI (ct X) W it) tg (tT (ct X) W0 ft) (tE (ct X) W0 fe) own σ H Q := by
  obtain ⟨g, ρ, h0, rh, rs, p⟩ := tG.bind (R := fun g H xs J => Deliv (ct X) g H xs J) (f := it) (k := fun (xs : List VV) ρ h1 => if xs.length > SZ then .no else (match lcGo b ft fe (wp ρ own) xs h1 with
      | .ok vs h2 => mk vs h2
      | _ => .no)) h
  refine ⟨g, ρ, h0, rh, rs, p.imp fun J H1 ⟨g1, ρ1, xs, h1, rh1, rs1, dl, p1⟩ D hD => ?_⟩
  by_cases hz : xs.length > SZ
  · rw [if_pos hz] at p1; exact p1.elim
  · rw [if_neg hz] at p1
    refine lc_run (Wx := W) (fun _ _ _ _ z => z) rfl pat dl (by omega) rh1 rs1 hD ?_
    generalize lcGo b ft fe (wp ρ1 own) xs h1 = r at p1 ⊢
    cases r with
    | ok vs h' => exact fun g' H' us st rh' d1 d2 d3 d4 rv' => hmk g' h' H' D vs us σ Q rh' d1 d2 d3 d4 rv' (Pst.step st p1)
    | no => exact p1
    | exc _ _ _ _ => exact p1
theorem mk_lst (g : Gh) (h : VH) (H : Hp) (D : Addr) (vs : List VV) (us : List V) (σ : St) (Q : VK) (rh : RH (ct X) g h H) (e : H D = some (.lst us)) (nf : ¬ g.fz D) (ni : D ∉ g.io) (nk : ¬ g.kp D) (rv : RVs (ct X) g.fz H vs us)
    (p : Pst (ct X) W σ (RT (ct X)) g H Q (.ok (.lst vs) h)) : Q (.ref D) H := by
  have st : Stp g H (g.frz D) H := .kill
  refine p (g.frz D) H (.ref D) st ⟨rh.len, rh.nd, fun n o a h1 h2 => ?_, fun q z => ?_, rh.kp, fun q z => ⟨fun y => y.elim (rh.kd q z).1 (fun e => nk (e ▸ z)), (rh.kd q z).2⟩, rh.tb, fun q z ps y => z.elim (fun z => z.elim (fun z => rh.nt q (.inl z) ps y) (fun z => by rw [z, e] at y; cases y)) (fun z => rh.nt q (.inr z) ps y)⟩ ?_
  · exact RO.stp st (fun x z => z.elim x (fun e => ni (e ▸ List.mem_of_getElem? h2))) rfl (rh.at' n o a h1 h2)
  · rcases z with z | z
    · exact rh.fz q z
    · rw [z]; exact ⟨_, e⟩
  · show RV _ _ _ _ _
    rw [RV]
    exact ⟨D, us, rfl, .inr rfl, e, st.rvs rv⟩
theorem j_lc {elt tg iter : Expr} {ifs : List Expr} {scope : Scope} {own : List (Str × Nat)} {pos : Pos} {it : AF} {g : TG} {b : VV → VSt → Option VSt} {ft : TF} {fe : EF} (hc : X.calm = true) (hN : X.N.Nodup) (hi : PI X tg iter (tI (ct X) W it)) (ok : BlkOk X.N X.env.scope scope own)
    (hg : ∀ (s : Shared) (H : Hp) (C : Addr) (cl : List (Str × Addr)) (fp : List Addr), PG (X.blk s H scope (compEnvC scope cl C X.env) fp) tg g) (pat : PatOk X.K g b (own.map (·.2)))
    (ht : ∀ (s : Shared) (H : Hp) (C : Addr) (cl : List (Str × Addr)) (fp : List Addr), PTs (X.blk s H scope (compEnvC scope cl C X.env) fp) ifs (tT (ct X) W0 ft))
    (he : ∀ (s : Shared) (H : Hp) (C : Addr) (cl : List (Str × Addr)) (fp : List Addr), PE (X.blk s H scope (compEnvC scope cl C X.env) fp) elt (tE (ct X) W0 fe)) (hs : ∀ x, foldedSetIterable iter X.env x = pure x := by intro _; rfl) :
    PE X (.ListComp elt [⟨tg, iter, ifs, 0⟩] scope pos) (tE (ct X) W (eLc (own.map (·.2)) it b ft fe)) :=
  PE.mono (pe_lc hc hN hi ok hg ht he hs) fun σ H Q h => by
    exact tLc_of (mk := fun vs h => .ok (.lst vs) h) pat mk_lst h
/-! statements -/
inductive SR where
  | no
  | nx (ρ : VSt) (h : VH)
  | ret (v : VV) (h : VH)
  | brk (ρ : VSt) (h : VH)
  | cnt (ρ : VSt) (h : VH)
  | exc (x : Str) (ns : List Str) (vs : List VV) (ρ : VSt) (h : VH)
abbrev SF := VSt → VH → SR
def PS1 (c : Ct) (W : WX) (g : Gh) (H : Hp) (D : Ends) : SR → Prop
  | .no => False
  | .nx ρ h => ∀ g' H' σ', Stp g H g' H' → RH c g' h H' → RS c g' H' ρ σ' → D.nx σ' H'
  | .ret v h => ∀ g' H' u, Stp g H g' H' → RH c g' h H' → RT c g' H' v u → D.rt u H'
  | .brk ρ h => ∀ g' H' σ', Stp g H g' H' → RH c g' h H' → RS c g' H' ρ σ' → D.bk σ' H'
  | .cnt ρ h => ∀ g' H' σ', Stp g H g' H' → RH c g' h H' → RS c g' H' ρ σ' → D.ct σ' H'
  | .exc x ns vs ρ h => ∀ g' H' σ' C d us, Stp g H g' H' → RH c g' h H' → RS c g' H' ρ σ' → c.mg x = some (.ref C) → (H' d = some (.xd (ns.zip us)) ∧ ¬ g'.fz d ∧ d ∉ g'.io) → ns.length = us.length → RVs c g'.fz H' vs us → W (.ref C) (some d) σ' H'
theorem PS1.step {c : Ct} {W : WX} {g g1 : Gh} {H H1 : Hp} {D : Ends} {r : SR} (s : Stp g H g1 H1) (h : PS1 c W g H D r) : PS1 c W g1 H1 D r := by
  cases r with
  | no => exact h
  | nx => exact fun g' H' σ' st => h g' H' σ' (s.trans st)
  | ret => exact fun g' H' σ' st => h g' H' σ' (s.trans st)
  | brk => exact fun g' H' σ' st => h g' H' σ' (s.trans st)
  | cnt => exact fun g' H' σ' st => h g' H' σ' (s.trans st)
  | exc => exact fun g' H' σ' C d us st => h g' H' σ' C d us (s.trans st)
def tS (c : Ct) (W : WX) (F : SF) : TS := fun D σ H => ∃ g ρ h, RH c g h H ∧ RS c g H ρ σ ∧ PS1 c W g H D (F ρ h)
/-- from an expression's result to a statement's -/
def Res.st {α : Type} (r : Res α) (ρ : VSt) (k : α → VH → SR) : SR := match r with
  | .no => .no
  | .ok a h => k a h
  | .exc x ns vs h => .exc x ns vs ρ h
theorem Pst.st {α β : Type} {R : Gh → Hp → α → β → Prop} {c : Ct} {W : WX} {σ : St} {g : Gh} {H : Hp} {D : Ends} {r : Res α} {ρ : VSt} {k : α → VH → SR} (rs : RS c g H ρ σ) (h : PS1 c W g H D (r.st ρ k)) :
    Pst c W σ R g H (fun u H1 => ∃ g1 v h1, Stp g H g1 H1 ∧ RH c g1 h1 H1 ∧ RS c g1 H1 ρ σ ∧ R g1 H1 v u ∧ PS1 c W g1 H1 D (k v h1)) r := by
  cases r with
  | no => exact h
  | ok v h' => exact fun g' H' u st rh rv => ⟨g', v, h', st, rh, rs.stp st, rv, PS1.step st h⟩
  | exc x ns vs h' => exact fun g' H' C d us st rh m e l rv => h g' H' σ C d us st rh (rs.stp st) m e l rv
def sSkip : SF := fun ρ h => .nx ρ h
def sSeq (a b : SF) : SF := fun ρ h => match a ρ h with
  | .nx ρ' h' => b ρ' h'
  | r => r
def sAsg (e : EF) (b : VV → VSt → Option VSt) : SF := fun ρ h => (e ρ h).st ρ fun v h1 => match b v ρ with
  | some ρ' => .nx ρ' h1
  | none => .no
def sSet (i : Nat) (e : EF) : SF := fun ρ h => (e ρ h).st ρ fun v h1 => .nx (ρ.set i (some v)) h1
def sIf (c : TF) (a b : SF) : SF := fun ρ h => (c ρ h).st ρ fun k h1 => if k = true then a ρ h1 else b ρ h1
def sRet (e : EF) : SF := fun ρ h => (e ρ h).st ρ fun v h1 => .ret v h1
def sExpr (e : EF) : SF := fun ρ h => (e ρ h).st ρ fun v h1 => .nx ρ h1
def forGo (b : VV → VSt → Option VSt) (body : SF) : List VV → VSt → VH → SR
  | [], ρ, h => .nx ρ h
  | x :: xs, ρ, h => match b x ρ with
    | none => .no
    | some ρ' => match body ρ' h with
      | .nx ρ2 h2 => forGo b body xs ρ2 h2
      | .cnt ρ2 h2 => forGo b body xs ρ2 h2
      | .brk ρ2 h2 => .nx ρ2 h2
      | r => r
def sFor (it : AF) (b : VV → VSt → Option VSt) (body : SF) : SF := fun ρ h => (it ρ h).st ρ fun xs h1 => forGo b body xs ρ h1
theorem js_nil : PSs X [] (tS (ct X) W sSkip) := PSs.mono pss_nil fun D σ H ⟨g, ρ, h, rh, rs, p⟩ => p g H σ .refl rh rs
theorem js_cons {st : Stmt} {rest : List Stmt} {fa fb : SF} (h1 : PS X st (tS (ct X) W fa)) (h2 : PSs X rest (tS (ct X) W fb)) : PSs X (st :: rest) (tS (ct X) W (sSeq fa fb)) :=
  PSs.mono (pss_cons h1 h2) fun D σ H ⟨g, ρ, h, rh, rs, p⟩ => by
    refine ⟨g, ρ, h, rh, rs, ?_⟩
    unfold sSeq at p
    cases e : fa ρ h with
    | nx ρ' h' =>
      rw [e] at p
      exact fun g' H' σ' st rh' rs' => ⟨g', ρ', h', rh', rs', PS1.step st p⟩
    | no => rw [e] at p; exact p
    | ret => rw [e] at p; exact p
    | brk => rw [e] at p; exact p
    | cnt => rw [e] at p; exact p
    | exc => rw [e] at p; exact p
theorem js_one {st : Stmt} {fa : SF} (h1 : PS X st (tS (ct X) W fa)) : PSs X [st] (tS (ct X) W fa) := pss_one h1
theorem js_set {i : Nat} {x : Str} {e : Expr} {f : EF} {pos pos' : Pos} (hN : X.N.Nodup) (hi : X.N[i]? = some x) (hx : Loc X.env.scope x) (he : PE X e (tE (ct X) W f)) (hs : swapsWith e (some (.Name x pos')) pos.line X.env = pure false := by rfl)
    (hf : X.fn x = true ∨ X.env.scope.names.lookup x = some .local := by first | exact .inl rfl | exact .inr rfl | assumption) :
    PS X (.Assign [.Name x pos'] e pos) (tS (ct X) W (sSet i f)) :=
  PS.mono (ps_set (i := i) hN hi hx he hs hf) fun D σ H ⟨g, ρ, h, rh, rs, p⟩ => by
    refine ⟨g, ρ, h, rh, rs, (Pst.st (R := RT (ct X)) rs p).imp fun u H1 ⟨g1, v, h1, st, rh1, rs1, rv1, p1⟩ => ?_⟩
    exact p1 g1 H1 _ .refl rh1 (rs1.set rv1 i)
theorem js_if {c : Expr} {a b : List Stmt} {fc : TF} {fa fb : SF} {pos : Pos} (hc : PT X c (tT (ct X) W fc)) (ha : PSs X a (tS (ct X) W fa)) (hb : PSs X b (tS (ct X) W fb)) : PS X (.If c a b pos) (tS (ct X) W (sIf fc fa fb)) :=
  PS.mono (ps_if hc ha hb) fun D σ H ⟨g, ρ, h, rh, rs, p⟩ => by
    refine ⟨g, ρ, h, rh, rs, (Pst.st (R := RB) rs p).imp fun u H1 ⟨g1, v, h1, st, rh1, rs1, rv1, p1⟩ => ?_⟩
    cases rv1
    cases u with
    | true => rw [if_pos rfl] at p1 ⊢; exact ⟨g1, ρ, h1, rh1, rs1, p1⟩
    | false => rw [if_neg Bool.false_ne_true] at p1 ⊢; exact ⟨g1, ρ, h1, rh1, rs1, p1⟩
theorem js_ret {e : Expr} {f : EF} {pos : Pos} (he : PE X e (tE (ct X) W f)) : PS X (.Return (some e) pos) (tS (ct X) W (sRet f)) :=
  PS.mono (ps_ret he) fun D σ H ⟨g, ρ, h, rh, rs, p⟩ => by
    refine ⟨g, ρ, h, rh, rs, (Pst.st (R := RT (ct X)) rs p).imp fun u H1 ⟨g1, v, h1, st, rh1, rs1, rv1, p1⟩ => ?_⟩
    exact p1 g1 H1 u .refl rh1 rv1
theorem js_expr {e : Expr} {f : EF} {pos : Pos} (he : PE X e (tE (ct X) W f)) (hs : swapsWith e none pos.line X.env = pure false := by rfl) : PS X (.Expr e pos) (tS (ct X) W (sExpr f)) :=
  PS.mono (ps_expr he hs) fun D σ H ⟨g, ρ, h, rh, rs, p⟩ => by
    refine ⟨g, ρ, h, rh, rs, (Pst.st (R := RT (ct X)) rs p).imp fun u H1 ⟨g1, v, h1, st, rh1, rs1, rv1, p1⟩ => ?_⟩
    exact p1 g1 H1 σ .refl rh1 rs1
theorem js_for {tg iter : Expr} {body : List Stmt} {it : AF} {g : TG} {b : VV → VSt → Option VSt} {own : List Nat} {fb : SF} {pos : Pos} (hp : PassesOwn (model X.prog X.w) X.A X.env X.xe) (hc : X.calm = true) (hi : PI X tg iter (tI (ct X) W it)) (hg : PG X tg g) (pat : PatOk X.K g b own) (hb : PSs X body (tS (ct X) W fb))
    (hs : ∀ x, foldedSetIterable iter X.env x = pure x := by intro _; rfl) : PS X (.For tg iter body [] pos) (tS (ct X) W (sFor it b fb)) :=
  PS.mono (ps_for hp hc hi hg hb hs) fun D σ H ⟨g, ρ, h, rh, rs, p⟩ => by
    refine ⟨g, ρ, h, rh, rs, (Pst.st (R := fun g H xs J => Deliv (ct X) g H xs J) rs p).imp fun J H1 ⟨g1, xs, h1, st, rh1, rs1, dl, p1⟩ => ?_⟩
    let P : Nat → St → Hp → Prop := fun i σ' H' => ∃ (gi : Gh) (ρi : VSt) (hi : VH), Stp g1 H1 gi H' ∧ RH (ct X) gi hi H' ∧ RS (ct X) gi H' ρi σ' ∧ PS1 (ct X) W gi H' D (forGo b fb (xs.drop i) ρi hi)
    refine ⟨fun i m σ' H' => m = xs.length - i ∧ i ≤ xs.length ∧ P i σ' H', ⟨xs.length, by simp, Nat.zero_le _, g1, ρ, h1, .refl, rh1, rs1, by rw [List.drop_zero]; exact p1⟩, ?_⟩
    rintro i m σ' H' ⟨rfl, hi, gi, ρi, hh, sti, rhi, rsi, pi⟩
    by_cases hlt : i < xs.length
    · have ed : xs.drop i = xs[i] :: xs.drop (i + 1) := List.drop_eq_getElem_cons hlt
      refine .inr ⟨dl.go gi H' sti.f i hlt, P (i + 1), fun σ2 H2 p2 => ⟨xs.length - (i + 1), by omega, rfl, hlt, p2⟩, fun x H2 y => ?_⟩
      obtain ⟨g2, st2, rh2, rt2⟩ := dl.yld gi H' sti.f i xs[i] hh (List.getElem?_eq_getElem hlt) rhi x H2 y
      rw [ed] at pi
      unfold forGo at pi
      cases e : b xs[i] ρi with
      | none => rw [e] at pi; exact pi.elim
      | some ρ' =>
        rw [e] at pi
        simp only at pi
        refine pat.run (ct X) g2 hh H2 ρi σ' xs[i] x ρ' rfl rh2 (rsi.stp st2) rt2 e _ fun σ3 rs3 _ _ => ⟨g2, ρ', hh, rh2, rs3, ?_⟩
        cases eb : fb ρ' hh with
        | no => rw [eb] at pi; exact pi
        | nx ρ2 h2 => rw [eb] at pi; exact fun g' H' σ' st rh' rs' => ⟨g', ρ2, h2, (sti.trans st2).trans st, rh', rs', PS1.step (st2.trans st) pi⟩
        | cnt ρ2 h2 => rw [eb] at pi; exact fun g' H' σ' st rh' rs' => ⟨g', ρ2, h2, (sti.trans st2).trans st, rh', rs', PS1.step (st2.trans st) pi⟩
        | brk ρ2 h2 => rw [eb] at pi; exact PS1.step (r := .nx ρ2 h2) st2 pi
        | ret v h2 => rw [eb] at pi; exact PS1.step (r := .ret v h2) st2 pi
        | exc x ns vs ρ2 h2 => rw [eb] at pi; exact PS1.step (r := .exc x ns vs ρ2 h2) st2 pi
    · have e : i = xs.length := by omega
      subst e
      rw [List.drop_length] at pi
      unfold forGo at pi
      exact .inl ⟨dl.stop gi H' sti.f _ (Nat.le_refl _), pi gi H' σ' .refl rhi rsi⟩
end
end J
namespace J
open PySem L2
open PyProof.Rows (envOfC)
/-! lists by value -/
def lstOf (h : VH) : VV → Option (List VV)
  | .lst xs => some xs
  | .scr xs => some xs
  | .obj n => match h[n]? with
    | some (.fl xs) => some xs
    | some (.fzn (.lst xs)) => some xs
    | _ => none
  | _ => none
/-- .. exact (not the script) -/
def lstOf' (h : VH) : VV → Option (List VV)
  | .lst xs => some xs
  | .obj n => match h[n]? with
    | some (.fl xs) => some xs
    | some (.fzn (.lst xs)) => some xs
    | _ => none
  | _ => none
theorem lstOf'_get {c : Ct} {g : Gh} {h : VH} {H : Hp} {v : VV} {u : V} {xs : List VV} (rh : RH c g h H) (rv : RT c g H v u) (e : lstOf' h v = some xs) : ∃ p us, u = .ref p ∧ H p = some (.lst us) ∧ RVs c g.fz H xs us := by
  cases v with
  | lst ys =>
    cases e
    have q := rv.rv rfl
    rw [RV] at q
    obtain ⟨p, us, a, b, d, r⟩ := q
    exact ⟨p, us, a, d, r⟩
  | obj n =>
    obtain ⟨a, ea, eu⟩ := rv
    unfold lstOf' at e
    simp only at e
    split at e
    · rename_i ys en
      cases e
      obtain ⟨_, us, d, r⟩ := rh.at' n _ a en ea
      exact ⟨a, us, eu, d, r⟩
    · rename_i ys en
      cases e
      obtain ⟨_, q⟩ := rh.at' n _ a en ea
      rw [RV] at q
      obtain ⟨p, us, z, b, d, r⟩ := q
      cases z
      exact ⟨a, us, eu, d, r⟩
    · cases e
  | _ => cases e
theorem lstOf_get {c : Ct} {g : Gh} {h : VH} {H : Hp} {v : VV} {u : V} {xs : List VV} (rh : RH c g h H) (rv : RT c g H v u) (e : lstOf h v = some xs) : ∃ p us, u = .ref p ∧ SqL c.K H p us ∧ RVs c g.fz H xs us := by
  cases v with
  | scr ys =>
    cases e
    have q := rv.rv rfl
    rw [RV] at q
    obtain ⟨p, us, a, d, r⟩ := q
    exact ⟨p, us, a, d.sq, r⟩
  | lst ys =>
    obtain ⟨p, us, a, b, r⟩ := lstOf'_get (xs := xs) rh rv e
    exact ⟨p, us, a, SqL.of b, r⟩
  | obj n =>
    obtain ⟨p, us, a, b, r⟩ := lstOf'_get (xs := xs) rh rv e
    exact ⟨p, us, a, SqL.of b, r⟩
  | _ => cases e
theorem tup_get {c : Ct} {g : Gh} {H : Hp} {u : V} {xs : List VV} (rv : RT c g H (.tup xs) u) : ∃ p us, u = .ref p ∧ TupAt c g.fz H p us ∧ RVs c g.fz H xs us := by
  have q := rv.rv rfl
  rw [RV] at q
  exact q
theorem int_get {c : Ct} {g : Gh} {H : Hp} {u : V} {i : Int} (rv : RT c g H (.int i) u) : u = .int i := by have q := rv.rv rfl; rw [RV] at q; exact q
theorem bl_get {c : Ct} {g : Gh} {H : Hp} {u : V} {i : Bool} (rv : RT c g H (.bl i) u) : u = .bl i := by have q := rv.rv rfl; rw [RV] at q; exact q
theorem str_get {c : Ct} {g : Gh} {H : Hp} {u : V} {i : Str} (rv : RT c g H (.str i) u) : u = .str i := by have q := rv.rv rfl; rw [RV] at q; exact q
theorem non_get {c : Ct} {g : Gh} {H : Hp} {u : V} (rv : RT c g H .non u) : u = .non := by have q := rv.rv rfl; rw [RV] at q; exact q
theorem ty_get {c : Ct} {g : Gh} {H : Hp} {u : V} {n : String} (rv : RT c g H (.ty n) u) : u = .ty n := by have q := rv.rv rfl; rw [RV] at q; exact q
def lstF : VV → Option (List VV)
  | .lst xs => some xs
  | .scr xs => some xs
  | _ => none
theorem lstF_get {c : Ct} {g : Gh} {H : Hp} {v : VV} {u : V} {xs : List VV} (rv : RT c g H v u) (e : lstF v = some xs) : ∃ p us, u = .ref p ∧ LstAt c g.fz H p us ∧ RVs c g.fz H xs us := by
  cases v with
  | scr ys =>
    cases e
    have q := rv.rv rfl
    rw [RV] at q
    exact q
  | lst ys =>
    cases e
    have q := rv.rv rfl
    rw [RV] at q
    obtain ⟨p, us, a, b, d, r⟩ := q
    exact ⟨p, us, a, .inl ⟨b, .inl d⟩, r⟩
  | _ => cases e
/-- .. whose items may be roots -/
def lstR (h : VH) : VV → Option (List VV)
  | .obj n => match h[n]? with
    | some (.lo xs) => some xs
    | _ => lstOf h (.obj n)
  | v => lstOf h v
theorem lstR_get {c : Ct} {g : Gh} {h : VH} {H : Hp} {v : VV} {u : V} {xs : List VV} (rh : RH c g h H) (rv : RT c g H v u) (e : lstR h v = some xs) : ∃ p us, u = .ref p ∧ SqL c.K H p us ∧ RTs c g H xs us := by
  have old : lstOf h v = some xs → ∃ p us, u = .ref p ∧ SqL c.K H p us ∧ RTs c g H xs us := fun e => by
    obtain ⟨p, us, a, b, r⟩ := lstOf_get rh rv e
    exact ⟨p, us, a, b, RTs.of_rvs r⟩
  cases v with
  | obj n =>
    unfold lstR at e
    simp only at e
    split at e
    · rename_i ys en
      cases e
      obtain ⟨a, ea, eu⟩ := rv
      obtain ⟨_, us, d, r⟩ := rh.at' n _ a en ea
      exact ⟨a, us, eu, SqL.of d, r⟩
    · exact old e
  | _ => exact old e
/-! iterables -/
theorem deliv_list {c : Ct} {g : Gh} {h : VH} {H : Hp} {p : Addr} {us : List V} {xs : List VV} (rd : LstAt c g.fz H p us) (rv : RVs c g.fz H xs us) : Deliv c g H xs (Itl c.K p) where
  go := fun g1 H1 st i hi => by
    obtain ⟨u, e, _⟩ := rv.get (List.getElem?_eq_getElem hi)
    exact ⟨us, u, (rd.stp st.fz st.fH).sq, e⟩
  stop := fun g1 H1 st i hi => ⟨us, (rd.stp st.fz st.fH).sq, by rw [← rv.len]; exact hi⟩
  yld := fun g1 H1 st i x h1 e rh u H' y => by
    obtain ⟨eH, hy⟩ := y
    subst eH
    obtain ⟨u', e', r⟩ := rv.get e
    have q := hy us ((rd.stp st.fz st.fH).sq)
    rw [e'] at q
    cases q
    exact ⟨g1, .refl, rh, RT.of_rv (st.rv r)⟩
theorem deliv_tup {c : Ct} {g : Gh} {h : VH} {H : Hp} {p : Addr} {us : List V} {xs : List VV} (rd : TupAt c g.fz H p us) (rv : RVs c g.fz H xs us) : Deliv c g H xs (Itt c.K p) where
  go := fun g1 H1 st i hi => by
    obtain ⟨u, e, _⟩ := rv.get (List.getElem?_eq_getElem hi)
    exact ⟨us, u, (TupAt.stp (z' := g.fz) st.tp rd).sq, e⟩
  stop := fun g1 H1 st i hi => ⟨us, (TupAt.stp (z' := g.fz) st.tp rd).sq, by rw [← rv.len]; exact hi⟩
  yld := fun g1 H1 st i x h1 e rh u H' y => by
    obtain ⟨eH, hy⟩ := y
    subst eH
    obtain ⟨u', e', r⟩ := rv.get e
    have q := hy us (TupAt.stp (z' := g.fz) st.tp rd).sq
    rw [e'] at q
    cases q
    exact ⟨g1, .refl, rh, RT.of_rv (st.rv r)⟩
def signs (s : Str) : List VV := s.cps.toList.map fun c => .str ⟨#[c]⟩
theorem deliv_str {c : Ct} {g : Gh} {H : Hp} {s : Str} : Deliv c g H (signs s) (Its s) where
  go := fun g1 H1 st i hi => by unfold signs at hi; simp at hi; exact hi
  stop := fun g1 H1 st i hi => by unfold signs at hi; simp at hi; exact hi
  yld := fun g1 H1 st i x h1 e rh u H' y => by
    obtain ⟨eH, k, hk, hu⟩ := y
    subst eH
    refine ⟨g1, .refl, rh, ?_⟩
    unfold signs at e
    rw [List.getElem?_map, Array.getElem?_toList, hk] at e
    cases e
    rw [hu]
    exact rt_str
def rngV (lo : Int) (n : Nat) : List VV := (List.range n).map fun (i : Nat) => .int (lo + (i : Int))
theorem deliv_rng {c : Ct} {g : Gh} {H : Hp} {lo : Int} {n : Nat} : Deliv c g H (rngV lo n) (Itr lo n) where
  go := fun g1 H1 st i hi => by unfold rngV at hi; simp at hi; exact hi
  stop := fun g1 H1 st i hi => by unfold rngV at hi; simp at hi; exact hi
  yld := fun g1 H1 st i x h1 e rh u H' y => by
    obtain ⟨eH, hu⟩ := y
    subst eH
    refine ⟨g1, .refl, rh, ?_⟩
    unfold rngV at e
    rw [List.getElem?_map] at e
    cases q : (List.range n)[i]? with
    | none => rw [q] at e; cases e
    | some j =>
      rw [q] at e
      cases e
      obtain ⟨hh, e2⟩ := List.getElem?_eq_some_iff.mp q
      rw [List.getElem_range] at e2
      subst e2
      rw [hu]
      exact rt_int
/-- items of a list, a tuple, a text -/
def iSeq (f : EF) : AF := fun ρ h => (f ρ h).bind fun v h1 => match v with
  | .lst xs => .ok xs h1
  | .scr xs => .ok xs h1
  | .tup xs => .ok xs h1
  | .str s => .ok (signs s) h1
  | _ => .no
def iRange1 (f : EF) : AF := fun ρ h => (f ρ h).bind fun v h1 => match v with
  | .int n => if -(2 ^ 62) ≤ n ∧ n < 2 ^ 62 then .ok (rngV 0 n.toNat) h1 else .no
  | _ => .no
def prs : List VV → List VV → List VV
  | x :: xs, y :: ys => .tup [x, y] :: prs xs ys
  | _, _ => []
def iZip (a : AF) : AF := fun ρ h => (a ρ h).bind fun v h1 => match v with
  | [.lst xs, .lst ys] => .ok (prs xs ys) h1
  | [.tup xs, .tup ys] => .ok (prs xs ys) h1
  | _ => .no
def enum : Nat → List VV → List VV
  | _, [] => []
  | n, x :: xs => .tup [.int n, x] :: enum (n + 1) xs
def iEnum (a : AF) : AF := fun ρ h => (a ρ h).bind fun v h1 => match v with
  | [.lst xs] => .ok (enum 0 xs) h1
  | [.scr xs] => .ok (enum 0 xs) h1
  | _ => .no
theorem prs_get : ∀ (xs ys : List VV) (i : Nat), (prs xs ys)[i]? = (match xs[i]?, ys[i]? with
    | some x, some y => some (.tup [x, y])
    | _, _ => none)
  | [], ys, i => by simp [prs]
  | x :: xs, [], i => by simp [prs]
  | x :: xs, y :: ys, 0 => by simp [prs]
  | x :: xs, y :: ys, i + 1 => by simp [prs, prs_get xs ys i]
theorem prs_len : ∀ (xs ys : List VV), (prs xs ys).length = min xs.length ys.length
  | [], ys => by simp [prs]
  | x :: xs, [] => by simp [prs]
  | x :: xs, y :: ys => by simp [prs, prs_len xs ys]
theorem pair_new {c : Ct} {g : Gh} {h : VH} {H : Hp} {T : Addr} {xs : List VV} {us : List V} (rh : RH c g h H) (hT : H T = none) (rv : RVs c g.fz H xs us) :
    Stp g H (g.frz T) (upd H T (.tup us)) ∧ RH c (g.frz T) h (upd H T (.tup us)) ∧ RT c (g.frz T) (upd H T (.tup us)) (.tup xs) (.ref T) := by
  refine ⟨.new rh hT, rh.new hT, ?_⟩
  show RV _ _ _ _ _
  rw [RV]
  exact ⟨T, us, rfl, upd_same, (Stp.new rh hT).rvs rv⟩
theorem deliv_zip {c : Ct} {g : Gh} {H : Hp} {p q : Addr} {us ws : List V} {xs ys : List VV} (rd : LstAt c g.fz H p us) (rd' : LstAt c g.fz H q ws) (rv : RVs c g.fz H xs us) (rv' : RVs c g.fz H ys ws) : Deliv c g H (prs xs ys) (Itz c.K p q) where
  go := fun g1 H1 st i hi => by
    rw [prs_len] at hi
    obtain ⟨u, e, _⟩ := rv.get (List.getElem?_eq_getElem (show i < xs.length by omega))
    obtain ⟨w, e', _⟩ := rv'.get (List.getElem?_eq_getElem (show i < ys.length by omega))
    exact ⟨us, ws, u, w, (rd.stp st.fz st.fH).sq, (rd'.stp st.fz st.fH).sq, e, e'⟩
  stop := fun g1 H1 st i hi => by
    rw [prs_len, rv.len, rv'.len] at hi
    exact ⟨us, ws, (rd.stp st.fz st.fH).sq, (rd'.stp st.fz st.fH).sq, by omega⟩
  yld := fun g1 H1 st i x h1 e rh u H' y => by
    obtain ⟨T, a, b, eu, hT, eH, ha, hb⟩ := y
    subst eH eu
    rw [prs_get] at e
    cases ex : xs[i]? with
    | none => rw [ex] at e; cases e
    | some x1 =>
      cases ey : ys[i]? with
      | none => rw [ex, ey] at e; cases e
      | some y1 =>
        rw [ex, ey] at e
        cases e
        obtain ⟨u1, e1, r1⟩ := rv.get ex
        obtain ⟨w1, e2, r2⟩ := rv'.get ey
        have qa := ha us ((rd.stp st.fz st.fH).sq)
        have qb := hb ws ((rd'.stp st.fz st.fH).sq)
        rw [e1] at qa; cases qa
        rw [e2] at qb; cases qb
        obtain ⟨s1, s2, s3⟩ := pair_new (xs := [x1, y1]) rh hT (RVs.cons (st.rv r1) (RVs.one (st.rv r2)))
        exact ⟨_, s1, s2, s3⟩
theorem deliv_zipT {c : Ct} {g : Gh} {H : Hp} {p q : Addr} {us ws : List V} {xs ys : List VV} (rd : TupAt c g.fz H p us) (rd' : TupAt c g.fz H q ws) (rv : RVs c g.fz H xs us) (rv' : RVs c g.fz H ys ws) : Deliv c g H (prs xs ys) (RZ.ItzT c.K p q) where
  go := fun g1 H1 st i hi => by
    rw [prs_len] at hi
    obtain ⟨u, e, _⟩ := rv.get (List.getElem?_eq_getElem (show i < xs.length by omega))
    obtain ⟨w, e', _⟩ := rv'.get (List.getElem?_eq_getElem (show i < ys.length by omega))
    exact ⟨us, ws, u, w, (TupAt.stp (z' := g.fz) st.tp rd).sq, (TupAt.stp (z' := g.fz) st.tp rd').sq, e, e'⟩
  stop := fun g1 H1 st i hi => by
    rw [prs_len, rv.len, rv'.len] at hi
    exact ⟨us, ws, (TupAt.stp (z' := g.fz) st.tp rd).sq, (TupAt.stp (z' := g.fz) st.tp rd').sq, by omega⟩
  yld := fun g1 H1 st i x h1 e rh u H' y => by
    obtain ⟨T, a, b, eu, hT, eH, ha, hb⟩ := y
    subst eH eu
    rw [prs_get] at e
    cases ex : xs[i]? with
    | none => rw [ex] at e; cases e
    | some x1 =>
      cases ey : ys[i]? with
      | none => rw [ex, ey] at e; cases e
      | some y1 =>
        rw [ex, ey] at e
        cases e
        obtain ⟨u1, e1, r1⟩ := rv.get ex
        obtain ⟨w1, e2, r2⟩ := rv'.get ey
        have qa := ha us (TupAt.stp (z' := g.fz) st.tp rd).sq
        have qb := hb ws (TupAt.stp (z' := g.fz) st.tp rd').sq
        rw [e1] at qa; cases qa
        rw [e2] at qb; cases qb
        obtain ⟨s1, s2, s3⟩ := pair_new (xs := [x1, y1]) rh hT (RVs.cons (st.rv r1) (RVs.one (st.rv r2)))
        exact ⟨_, s1, s2, s3⟩
section
variable {X : Cx} {W : WX}
theorem ji_seq {tg l : Expr} {f : EF} (hl : PE X l (tE (ct X) W f)) : PI X tg l (tI (ct X) W (iSeq f)) :=
  PI.mono ((PI.or (pi_list hl) (PI.or (pi_tup hl) (pi_str hl)))) fun σ H R h => by
    obtain ⟨g, ρ, h0, rh, rs, p⟩ := h
    unfold iSeq at p
    cases e : f ρ h0 with
    | no => rw [e] at p; exact p.elim
    | exc x ns vs h' => exact .inl ⟨g, ρ, h0, rh, rs, by rw [e] at p ⊢; exact p⟩
    | ok v h1 =>
      rw [e] at p
      cases v with
      | lst xs =>
        refine .inl ⟨g, ρ, h0, rh, rs, ?_⟩
        rw [e]
        intro g' H' u st rh' rv
        obtain ⟨a, us, eu, ra, rvs⟩ := lstF_get (xs := xs) rv rfl
        exact ⟨a, eu, ⟨us, ra.sq⟩, p g' H' _ st rh' (deliv_list (h := h1) ra rvs)⟩
      | scr xs =>
        refine .inl ⟨g, ρ, h0, rh, rs, ?_⟩
        rw [e]
        intro g' H' u st rh' rv
        obtain ⟨a, us, eu, ra, rvs⟩ := lstF_get (xs := xs) rv rfl
        exact ⟨a, eu, ⟨us, ra.sq⟩, p g' H' _ st rh' (deliv_list (h := h1) ra rvs)⟩
      | tup xs =>
        refine .inr (.inl ⟨g, ρ, h0, rh, rs, ?_⟩)
        rw [e]
        intro g' H' u st rh' rv
        obtain ⟨a, us, eu, ra, rvs⟩ := tup_get rv
        exact ⟨a, eu, ⟨us, ra.sq⟩, p g' H' _ st rh' (deliv_tup (h := h1) ra rvs)⟩
      | str s =>
        refine .inr (.inr ⟨g, ρ, h0, rh, rs, ?_⟩)
        rw [e]
        intro g' H' u st rh' rv
        exact ⟨s, str_get rv, p g' H' _ st rh' deliv_str⟩
      | _ => exact p.elim
theorem ji_range1 {tg a : Expr} {f : EF} {p pos : Pos} (hg : Gl X "range") (hm : X.mg "range" = none) (ha : PE X a (tE (ct X) W f)) (hs : starEach [a] X.env = [(false, eval a X.env)] := by rfl) : PI X tg (.Call (.Name "range" p) [a] [] pos) (tI (ct X) W (iRange1 f)) :=
  PI.mono (pi_range1 hg hm (pa_cons ha pa_nil hs) hs) fun σ H R h => by
    obtain ⟨g, ρ, h0, rh, rs, p⟩ := h
    unfold iRange1 at p
    refine ⟨g, ρ, h0, rh, rs, ?_⟩
    cases e : f ρ h0 with
    | no => rw [e] at p; exact p.elim
    | exc x ns vs h' => rw [e] at p; exact p
    | ok v h1 =>
      rw [e] at p
      cases v with
      | int n =>
        simp only [Res.bind] at p
        by_cases hn : -(2 ^ 62) ≤ n ∧ n < 2 ^ 62
        · rw [if_pos hn] at p
          intro g' H' u st rh' rv
          exact ⟨n, by rw [int_get rv], hn.1, hn.2, p g' H' _ st rh' deliv_rng⟩
        · rw [if_neg hn] at p; exact p.elim
      | _ => exact p.elim
theorem ji_zip {a b : Expr} {f : AF} {p pos tpos : Pos} {elts : List Expr} {kk : Nat} (hg : Gl X "zip") (hm : X.mg "zip" = none) (ha : PA X [a, b] (tA (ct X) W f)) (hs : starEach [a, b] X.env = (false, eval a X.env) :: starEach [b] X.env := by rfl) (hpl : (backTo pos (starEach [b] X.env)).any (·.1) = false := by rfl) :
    PI X (.Tuple elts kk tpos) (.Call (.Name "zip" p) [a, b] [] pos) (tI (ct X) W (iZip f)) :=
  PI.mono (RZ.pi_zipA hg hm ha hs hpl) fun σ H R h => by
    obtain ⟨g, ρ, h0, rh, rs, p⟩ := h
    unfold iZip at p
    refine ⟨g, ρ, h0, rh, rs, ?_⟩
    cases e : f ρ h0 with
    | no => rw [e] at p; exact p.elim
    | exc x ns vs h' => rw [e] at p; exact p
    | ok v h1 =>
      rw [e] at p
      simp only [Res.bind] at p
      split at p
      · intro g' H' u st rh' rv
        obtain ⟨u1, r1, rfl, a1, u2, r2, rfl, a2, rfl⟩ := rv
        obtain ⟨a, us, eu, ra, rvs⟩ := lstF_get a1 rfl
        obtain ⟨b, ws, ew, rb, rws⟩ := lstF_get a2 rfl
        exact ⟨a, b, us, ws, by rw [eu, ew], .inl ⟨ra.sq, rb.sq, p g' H' _ st rh' (deliv_zip ra rb rvs rws)⟩⟩
      · intro g' H' u st rh' rv
        obtain ⟨u1, r1, rfl, a1, u2, r2, rfl, a2, rfl⟩ := rv
        obtain ⟨a, us, eu, ra, rvs⟩ := tup_get a1
        obtain ⟨b, ws, ew, rb, rws⟩ := tup_get a2
        exact ⟨a, b, us, ws, by rw [eu, ew], .inr ⟨ra.sq, rb.sq, p g' H' _ st rh' (deliv_zipT ra rb rvs rws)⟩⟩
      · exact p.elim
/-! defs and calls -/
abbrev FF := List VV → VH → Res VV
def spF (c : Ct) (n : Nat) (F : FF) : Sp := fun vs H Q E => ∃ g ws h, RH c g h H ∧ RTs c g H ws vs ∧ ws.length = n ∧ Pst c (fun a d _ H' => E a d H') [] (RT c) g H Q (F ws h)
/-- the roots that a def made and let go are forgotten -/
def lowV (n : Nat) : VV → Bool
  | .obj m => decide (m < n)
  | _ => true
def lowO (n : Nat) : VO → Bool
  | .ins _ _ vs => vs.all (lowV n)
  | .lo vs => vs.all (lowV n)
  | _ => true
def trim (n : Nat) (v : VV) (h : VH) : VH := if h.length = n then h else if lowV n v = true ∧ (h.take n).all (lowO n) = true then h.take n else h
def fnF (k : Nat) (B : SF) : FF := fun vs h => match B (vs.map some ++ List.replicate (k - vs.length) none) h with
  | .nx _ h' => .ok .non (trim h.length .non h')
  | .ret v h' => .ok v (trim h.length v h')
  | .exc x ns vs _ h' => .exc x ns vs h'
  | _ => .no
theorem RTs.start {c : Ct} {g : Gh} {H : Hp} {ws : List VV} {vs : List V} (r : RTs c g H ws vs) (k : Nat) : RS c g H (ws.map some ++ List.replicate (k - ws.length) none) (vs.map some ++ List.replicate (k - vs.length) none) := by
  have hl := r.len
  refine ⟨by simp [hl], fun i v e => ?_⟩
  by_cases hi : i < ws.length
  · rw [List.getElem?_append_left (by simpa using hi), List.getElem?_map] at e
    cases q : ws[i]? with
    | none => rw [q] at e; cases e
    | some w =>
      rw [q] at e
      cases e
      have : ∀ {ws : List VV} {vs : List V} {i : Nat} {v : VV}, RTs c g H ws vs → ws[i]? = some v → ∃ u, vs[i]? = some u ∧ RT c g H v u := by
        intro ws
        induction ws with
        | nil => intro vs i v _ e; simp at e
        | cons x xs ih =>
          intro vs i v r e
          obtain ⟨u, r', rfl, a, b⟩ := r
          cases i with
          | zero => simp at e; subst e; exact ⟨u, rfl, a⟩
          | succ i => exact ih (i := i) b (by simpa using e)
      obtain ⟨u, e2, ru⟩ := this r q
      refine ⟨u, ?_, ru⟩
      rw [List.getElem?_append_left (by rw [List.length_map, ← hl]; exact hi), List.getElem?_map, e2]; rfl
  · rw [List.getElem?_append_right (by simpa using hi), List.getElem?_replicate] at e
    split at e <;> cases e
theorem RT.low {c : Ct} {g g' : Gh} {H : Hp} {n : Nat} (hio : g'.io = g.io.take n) (hfz : g'.fz = g.fz) {v : VV} {u : V} (l : lowV n v = true) (r : RT c g H v u) : RT c g' H v u := by
  cases v with
  | obj m =>
    obtain ⟨a, e, eu⟩ := r
    refine ⟨a, ?_, eu⟩
    rw [hio, List.getElem?_take_of_lt (of_decide_eq_true l)]
    exact e
  | _ => exact RT.of_rv (by rw [hfz]; exact RT.rv r rfl)
theorem RTs.low {c : Ct} {g g' : Gh} {H : Hp} {n : Nat} (hio : g'.io = g.io.take n) (hfz : g'.fz = g.fz) : ∀ {vs : List VV} {us : List V}, vs.all (lowV n) = true → RTs c g H vs us → RTs c g' H vs us
  | [], us, _, r => r
  | x :: xs, us, l, r => by
    rw [List.all_cons, Bool.and_eq_true] at l
    obtain ⟨u, q, e, a, b⟩ := r
    exact ⟨u, q, e, a.low hio hfz l.1, RTs.low hio hfz l.2 b⟩
theorem trim_ok {c : Ct} {g g' : Gh} {h h' : VH} {H H' : Hp} {v : VV} {u : V} (rh : RH c g h H) (st : Stp g H g' H') (rh' : RH c g' h' H') (rv : RT c g' H' v u) :
    ∃ g2, Stp g H g2 H' ∧ RH c g2 (trim h.length v h') H' ∧ RT c g2 H' v u := by
  unfold trim
  by_cases e : h'.length = h.length
  · rw [if_pos e]; exact ⟨g', st, rh', rv⟩
  · rw [if_neg e]
    by_cases cc : lowV h.length v = true ∧ (h'.take h.length).all (lowO h.length) = true
    · rw [if_pos cc]
      have eio : g'.io.take h.length = g.io := by
        obtain ⟨l, hl⟩ := st.io
        rw [← hl, ← rh.len, List.take_left]
      refine ⟨{ io := g.io, fz := g'.fz, kp := g'.kp }, ⟨List.prefix_rfl, st.fz, st.kp, st.fH, st.kH, st.tp⟩, ?_, RT.low (g' := { io := g.io, fz := g'.fz, kp := g'.kp }) (n := h.length) eio.symm rfl cc.1 rv⟩
      have hle : h.length ≤ h'.length := by
        obtain ⟨l, hl⟩ := st.io
        have := congrArg List.length hl
        rw [List.length_append, rh.len, rh'.len] at this
        omega
      refine ⟨by show g.io.length = _; rw [List.length_take, rh.len]; omega, rh.nd, fun n o a h1 h2 => ?_, rh'.fz, rh'.kp, fun q z => ⟨(rh'.kd q z).1, fun y => (rh'.kd q z).2 ?_⟩, rh'.tb, rh'.nt⟩
      · have hn : n < h.length := by
          have := (List.getElem?_eq_some_iff.mp h1).1
          rw [List.length_take] at this; omega
        have h1' : h'[n]? = some o := by rw [List.getElem?_take_of_lt hn] at h1; exact h1
        have h2' : g'.io[n]? = some a := by
          have : g.io[n]? = some a := h2
          rw [← eio, List.getElem?_take_of_lt hn] at this
          exact this
        have ro := rh'.at' n o a h1' h2'
        have lo : lowO h.length o = true := List.all_eq_true.mp cc.2 o (List.mem_of_getElem? h1)
        cases o with
        | fzn v => exact ro
        | fl xs => exact ro
        | lo xs =>
          obtain ⟨q1, us, q3, q4⟩ := ro
          exact ⟨q1, us, q3, RTs.low (g' := { io := g.io, fz := g'.fz, kp := g'.kp }) (n := h.length) eio.symm rfl lo q4⟩
        | dT ks vs => exact ro
        | dK ks vs => exact ro
        | ins x ns vs =>
          obtain ⟨q1, C, dx, us, q3, q4, q5, q6⟩ := ro
          exact ⟨q1, C, dx, us, q3, q4, q5, RTs.low (g' := { io := g.io, fz := g'.fz, kp := g'.kp }) (n := h.length) eio.symm rfl lo q6⟩
      · have : q ∈ g.io := y
        rw [← eio] at this
        exact List.mem_of_mem_take this
    · rw [if_neg cc]; exact ⟨g', st, rh', rv⟩
end
section
variable {P : Program} {w : World} {K : PySem.W.Frag} {mg : Str → Option Value} {base : Heap}
/-- THE RULE for a def -/
theorem fn_ok {x qual : Str} {params : Arguments} {body : List Stmt} {scope : Scope} {dvs : List V} {kws : List (Str × V)} {f : Addr} {fd : FuncData} {N ps : List Str} {k n : Nat} {B : SF} (F : FunD K x qual params body scope dvs kws f fd) (S : FnScope N ps scope) (hn : n = N.length) (hp : ps.length ≤ n)
    (hbody : ∀ (cdv : Value) (A : Around) (outer : List Env) (s : Shared) (H : Hp) (E : XK), Room k (A.deeper (envOfC qual scope s.heap.objs.size f cdv)) →
      PSs (cxOf (L2N.CX P w) P w K mg base N qual scope f cdv A outer s H E) body (tS ⟨K, mg⟩ (fun a d _ H' => E a d H') B)) :
    FnOk P w K mg base (L2N.CX P w) (k + 1) f fd ps (spF ⟨K, mg⟩ ps.length (fnF n B)) := by
  refine F.ok S (fun vs H Q E h => ?_) (fun cdv A outer s H vs Q E hr h => ?_)
  · obtain ⟨g, ws, hh, rh, rt, l, _⟩ := h
    rw [← rt.len]; exact l
  · refine ⟨_, hbody cdv A outer s H E hr, ?_⟩
    obtain ⟨g, ws, hh, rh, rt, l, p⟩ := h
    have rs := rt.start n
    refine ⟨g, ws.map some ++ List.replicate (n - ws.length) none, hh, rh, ?_, ?_⟩
    · rw [hn] at rs ⊢; exact rs
    · unfold fnF at p
      generalize B (ws.map some ++ List.replicate (n - ws.length) none) hh = r at p ⊢
      cases r with
      | no => exact p
      | brk => exact p.elim
      | cnt => exact p.elim
      | nx ρ h' =>
        intro g' H' σ' st rh' rs'
        obtain ⟨g2, s2, rh2, rv2⟩ := trim_ok rh st rh' (rt_non (c := ⟨K, mg⟩))
        exact p g2 H' .non s2 rh2 rv2
      | ret v h' =>
        intro g' H' u st rh' rv
        obtain ⟨g2, s2, rh2, rv2⟩ := trim_ok rh st rh' rv
        exact p g2 H' u s2 rh2 rv2
      | exc x ns vs ρ h' => exact fun g' H' σ' C d us st rh' rs' m e l rv => p g' H' C d us st rh' m e l rv
end
section
variable {X : Cx} {W : WX}
def eFn (n : Nat) (F : FF) (dws : List VV) (a : AF) : EF := fun ρ h => (a ρ h).bind fun vs h1 => if (vs ++ dws).length = n then F (vs ++ dws) h1 else .no
theorem RTs.append {c : Ct} {g : Gh} {H : Hp} : ∀ {vs ws : List VV} {us ys : List V}, RTs c g H vs us → RTs c g H ws ys → RTs c g H (vs ++ ws) (us ++ ys)
  | [], ws, us, ys, r, q => by rw [show us = [] from r]; exact q
  | x :: xs, ws, us, ys, r, q => by
    obtain ⟨u, r', rfl, a, b⟩ := r
    exact ⟨u, _, rfl, a, RTs.append b q⟩
theorem pst_call {σ : St} {g : Gh} {H : Hp} {Q : VK} {r : Res VV} (h : Pst (ct X) W σ (RT (ct X)) g H Q r) : Pst (ct X) (fun a d _ H' => WE W σ a d H') [] (RT (ct X)) g H Q r := by
  cases r with
  | no => exact h
  | ok => exact h
  | exc => exact h
/-- from arguments to a def's promise -/
theorem tCall_of {n : Nat} {F : FF} {fa : AF} {dws : List VV} {dvs : List V} (hd : ∀ g H, RTs (ct X) g H dws dvs) {σ : St} {H : Hp} {Q : VK} (h : tE (ct X) W (eFn n F dws fa) σ H Q) :
    tCallSD (spF (ct X) n F) dvs (WE W) (tA (ct X) W fa) σ H Q := by
  obtain ⟨g, ρ, h0, rh, rs, p⟩ := h
  refine ⟨g, ρ, h0, rh, rs, ?_⟩
  unfold eFn at p
  cases e : fa ρ h0 with
  | no => rw [e] at p; exact p
  | exc => rw [e] at p; exact p
  | ok vs h1 =>
    rw [e] at p
    simp only [Res.bind] at p
    by_cases hl : (vs ++ dws).length = n
    · rw [if_pos hl] at p
      intro g' H' us st rh' rts
      exact ⟨g', vs ++ dws, h1, rh', RTs.append rts (hd g' H'), hl, pst_call (Pst.step st p)⟩
    · rw [if_neg hl] at p; exact p.elim
theorem j_call {k n : Nat} {f : Addr} {fd : FuncData} {ps : List Str} {Fm : FF} {dvs : List V} {dws : List VV} {ds : List Value} {x : Str} {p pos : Pos} {e : Expr} {es : List Expr} {fa : AF}
    (F : FnOk X.prog X.w X.K X.mg X.base (L2N.CX X.prog X.w) k f fd ps (spF (ct X) n Fm)) (hr : Room k X.A) (hg : Gl X x) (hm : X.mg x = some (.ref f)) (hk : PySem.W.keepIn X.K (.ref f) = true) (hb : Binds X.K fd ps ds) (hd : Vals dvs ds) (rd : ∀ g H, RTs (ct X) g H dws dvs) (tk : L2N.Takes X W)
    (ha : PA X (e :: es) (tA (ct X) W fa)) (hdb : (x == ("__debug__" : Str)) = false := by decide) (he : starEach (e :: es) X.env = (false, eval e X.env) :: starEach es X.env := by rfl) (hpl : (backTo pos (starEach es X.env)).any (·.1) = false := by rfl) :
    PE X (.Call (.Name x p) (e :: es) [] pos) (tE (ct X) W (eFn n Fm dws fa)) :=
  PE.mono (pe_callSD (E := WE W) F hr hg hm hk hb hd (fun σ => L2N.passAt tk σ) ha hdb he hpl) fun σ H Q h => tCall_of rd h
/-! more statements -/
theorem js_setLc {i : Nat} {y : Str} {py : Pos} {elt tg iter : Expr} {ifs : List Expr} {scope : Scope} {own : List (Str × Nat)} {pos spos : Pos} {it : AF} {g : TG} {b : VV → VSt → Option VSt} {ft : TF} {fe : EF} (hc : X.calm = true) (hN : X.N.Nodup) (hy : X.N[i]? = some y) (hyl : X.env.scope.names.lookup y = some .local)
    (hsw : swapsWith (.ListComp elt [⟨tg, iter, ifs, 0⟩] scope pos) (some (.Name y py)) spos.line X.env = pure true) (hi : PI X tg iter (tI (ct X) W it)) (ok : BlkOk X.N X.env.scope scope own)
    (hg : ∀ (s : Shared) (H : Hp) (C : Addr) (cl : List (Str × Addr)) (fp : List Addr), PG (X.blk s H scope (compEnvC scope cl C X.env) fp) tg g) (pat : PatOk X.K g b (own.map (·.2)))
    (ht : ∀ (s : Shared) (H : Hp) (C : Addr) (cl : List (Str × Addr)) (fp : List Addr), PTs (X.blk s H scope (compEnvC scope cl C X.env) fp) ifs (tT (ct X) W0 ft))
    (he : ∀ (s : Shared) (H : Hp) (C : Addr) (cl : List (Str × Addr)) (fp : List Addr), PE (X.blk s H scope (compEnvC scope cl C X.env) fp) elt (tE (ct X) W0 fe)) (hs : ∀ x, foldedSetIterable iter X.env x = pure x := by intro _; rfl) :
    PS X (.Assign [.Name y py] (.ListComp elt [⟨tg, iter, ifs, 0⟩] scope pos) spos) (tS (ct X) W (sSet i (eLc (own.map (·.2)) it b ft fe))) :=
  PS.mono (ps_setLc hc hN hy hyl hsw hi ok hg ht he hs) fun D σ H ⟨g, ρ, h, rh, rs, p⟩ => by
    refine tLc_of (mk := fun vs h => .ok (.lst vs) h) pat mk_lst (show tE (ct X) W (eLc (own.map (·.2)) it b ft fe) σ H _ from ⟨g, ρ, h, rh, rs, (Pst.st (R := RT (ct X)) rs p).imp fun u H1 ⟨g1, v, h1, st, rh1, rs1, rv1, p1⟩ => ?_⟩)
    exact p1 g1 H1 _ .refl rh1 (rs1.set rv1 i)
def sPar (i j : Nat) (a : AF) : SF := fun ρ h => (a ρ h).st ρ fun vs h1 => match vs with
  | [v, w] => .nx ((ρ.set i (some v)).set j (some w)) h1
  | _ => .no
def sPar3 (i j l : Nat) (a : AF) : SF := fun ρ h => (a ρ h).st ρ fun vs h1 => match vs with
  | [u, v, w] => .nx (((ρ.set i (some u)).set j (some v)).set l (some w)) h1
  | _ => .no
/-! a root that is a list: written, read as data -/
def setI (h : VH) (o i v : VV) : Option VH := match o, i with
  | .obj n, .int k => match h[n]? with
    | some (.fl xs) => match ixN xs.length k with
      | some j => if v.isObj = true then none else some (h.set n (.fl (xs.set j v)))
      | none => none
    | _ => none
  | _, _ => none
theorem setI_ok {c : Ct} {g : Gh} {h h' : VH} {H : Hp} {o i v : VV} {uo ui uv : V} (rh : RH c g h H) (ro : RT c g H o uo) (ri : RT c g H i ui) (rv : RT c g H v uv) (e : setI h o i v = some h') (Q : Hp → Prop) (k : ∀ H', Stp g H g H' → RH c g h' H' → Q H') : rSetL uo ui uv H Q := by
  unfold setI at e
  split at e
  · rename_i n kk
    split at e
    · rename_i xs en
      split at e
      · rename_i j ej
        split at e
        · cases e
        · rename_i ov
          cases e
          obtain ⟨a, ea, eo⟩ := ro
          have hro := rh.at' n _ a en ea
          obtain ⟨nz, us, hl, rvs⟩ := hro
          have nk : ¬ g.kp a := fun z => (rh.kd a z).2 (List.mem_of_getElem? ea)
          have st : Stp g H g (upd H a (.lst (us.set j uv))) := Stp.wr (c := c) nz nk (fun ys z => by rw [hl] at z; cases z)
          refine ⟨a, us, kk, j, eo, int_get ri, hl, by rw [← rvs.len]; exact ej, k _ st (rh.wr ea nz (fun ys z => by rw [hl] at z; cases z) ?_)⟩
          exact ⟨nz, _, upd_same, st.rvs (RVs.set (rv.rv (by simpa using ov)) rvs)⟩
      · cases e
    · cases e
  · cases e
def sSetI (o i e : EF) : SF := fun ρ h => (e ρ h).st ρ fun v h1 => (o ρ h1).st ρ fun ov h2 => (i ρ h2).st ρ fun iv h3 => match setI h3 ov iv v with
  | some h4 => .nx ρ h4
  | none => .no
theorem js_setI {o i e : Expr} {fo fi fe : EF} {pos pos' : Pos} (he : PE X e (tE (ct X) W fe)) (ho : PE X o (tE (ct X) W fo)) (hi : PE X i (tE (ct X) W fi))
    (ha : ∀ v, assign (.Subscript o i pos') X.env v = (do
      let ov ← holding [v] (eval o X.env)
      let iv ← holding [v, ov] (eval i X.env)
      standAt pos'
      holding [v, ov, iv] (setItem ov iv v)
      release [v, ov, iv] []) := by intro _; rfl)
    (hs : swapsWithSole [.Subscript o i pos'] e pos.line X.env = pure false := by rfl) (hw : swappedStores [.Subscript o i pos'] e X.env = pure none := by rfl) (h1 : (assignEach [.Subscript o i pos'] X.env).map (·.2) = [assign (.Subscript o i pos') X.env] := by rfl) :
    PS X (.Assign [.Subscript o i pos'] e pos) (tS (ct X) W (sSetI fo fi fe)) :=
  PS.mono (ps_asg he (pg_sub ho hi set_list ha) hs hw h1) fun D σ H ⟨g, ρ, h, rh, rs, p⟩ => by
    refine ⟨g, ρ, h, rh, rs, (Pst.st (R := RT (ct X)) rs p).imp fun u H1 ⟨g1, v, h1, st, rh1, rs1, rv1, p1⟩ => ?_⟩
    refine ⟨g1, ρ, h1, rh1, rs1, (Pst.st (R := RT (ct X)) rs1 p1).imp fun u2 H2 ⟨g2, ov, h2, st2, rh2, rs2, rv2, p2⟩ => ?_⟩
    refine ⟨g2, ρ, h2, rh2, rs2, (Pst.st (R := RT (ct X)) rs2 p2).imp fun u3 H3 ⟨g3, iv, h3, st3, rh3, rs3, rv3, p3⟩ => ?_⟩
    cases e : setI h3 ov iv v with
    | none => rw [e] at p3; exact p3.elim
    | some h4 =>
      rw [e] at p3
      exact setI_ok rh3 (rv2.stp st3) rv3 ((rv1.stp st2).stp st3) e _ fun H' st' rh' => p3 g3 H' σ st' rh' (rs3.stp st')
def appV (h2 : VH) (ov v : VV) : Res VV := match ov with
    | .obj n => match h2[n]? with
      | some (.fl xs) => if xs.length ≥ SZ then .no else if v.isObj = true then .ok .non (h2.set n (.lo (xs ++ [v]))) else .ok .non (h2.set n (.fl (xs ++ [v])))
      | some (.lo xs) => if xs.length ≥ SZ then .no else .ok .non (h2.set n (.lo (xs ++ [v])))
      | _ => .no
    | _ => .no
theorem RTs.app {c : Ct} {g : Gh} {H : Hp} : ∀ {vs ws : List VV} {us ys : List V}, RTs c g H vs us → RTs c g H ws ys → RTs c g H (vs ++ ws) (us ++ ys)
  | [], ws, us, ys, h, k => by rw [show us = [] from h]; exact k
  | x :: xs, ws, us, ys, h, k => by
    obtain ⟨u, r, rfl, a, b⟩ := h
    exact ⟨u, _, rfl, a, RTs.app b k⟩
theorem RTs.one {c : Ct} {g : Gh} {H : Hp} {v : VV} {u : V} (q : RT c g H v u) : RTs c g H [v] [u] := ⟨u, [], rfl, q, rfl⟩
def eApp (o e : EF) : EF := fun ρ h => (o ρ h).bind fun ov h1 => match lstR h1 ov with
  | none => .no
  | some _ => (e ρ h1).bind fun v h2 => appV h2 ov v
theorem j_app {o e : Expr} {fo fe : EF} {apos cpos : Pos} (ho : PE X o (tE (ct X) W fo)) (ha : PE X e (tE (ct X) W fe)) (hs1 : starEach (e :: []) X.env = (false, eval e X.env) :: starEach [] X.env := by rfl)
    (hbase : attributeBase o "append" X.env (eval o X.env) = eval o X.env := by rfl)
    (hfew : ((backTo cpos (starEach [e] X.env)).all (fun x => !x.1) && (backToKw cpos (keywordEach [] X.env)).all (fun x => x.1.isSome)
      && decide ([e].length + ([] : List Keyword).length + (if ([] : List Keyword).isEmpty then 0 else 1) < 30)) = true := by rfl)
    (hline : (apos.endLine == cpos.line) = true := by rfl) (hplain : (backTo cpos (starEach [] X.env)).any (·.1) = false := by rfl) :
    PE X (.Call (.Attribute o "append" apos) [e] [] cpos) (tE (ct X) W (eApp fo fe)) :=
  PE.mono (pe_bm PySem.F.plainAttrs_list PySem.F.slot_list_append PySem.F.type_list_append mt_append ho (pa_cons ha pa_nil hs1) hbase hfew hline hs1 hplain) fun σ H Q ⟨g, ρ, h0, rh, rs, p⟩ => by
    refine ⟨g, ρ, h0, rh, rs, (Pst.bind (R := RT (ct X)) p).imp fun u H1 ⟨g1, ov, h1, st, rh1, rv1, p1⟩ => ?_⟩
    cases e : lstR h1 ov with
    | none => rw [e] at p1; exact p1.elim
    | some ys =>
      rw [e] at p1
      obtain ⟨a, us, eu, sq, rvs⟩ := lstR_get rh1 rv1 e
      refine ⟨by rw [eu]; exact .inl ⟨rfl, us, sq⟩, g1, ρ, h1, rh1, rs.stp st, (Pst.bind (R := RT (ct X)) p1).imp fun u2 H2 ⟨g2, v, h2, st2, rh2, rv2, p2⟩ => ?_⟩
      cases ov with
      | obj n =>
        unfold appV at p2
        simp only at p2
        obtain ⟨b, eb, eu'⟩ := rv1.stp st2
        split at p2
        · rename_i xs en
          obtain ⟨nz, ws, hl, rws⟩ := rh2.at' n _ b en eb
          split at p2
          · exact p2.elim
          · rename_i cc
            have nk : ¬ g2.kp b := fun z => (rh2.kd b z).2 (List.mem_of_getElem? eb)
            have nt : ∀ ys, H2 b ≠ some (.tup ys) := fun ys z => by rw [hl] at z; cases z
            have stw : Stp g2 H2 g2 (upd H2 b (.lst (ws ++ [u2]))) := Stp.wr (c := ct X) nz nk nt
            refine ⟨b, ws, u2, eu', rfl, hl, by rw [← rws.len]; exact SZ_lt (by omega), ?_⟩
            split at p2
            · exact p2 g2 _ .non stw (rh2.wr eb nz nt ⟨nz, _, upd_same, (RTs.app (RTs.of_rvs rws) (RTs.one rv2)).stp stw⟩) rt_non
            · rename_i cv
              exact p2 g2 _ .non stw (rh2.wr eb nz nt ⟨nz, _, upd_same, stw.rvs (RVs.app rws (RVs.one (rv2.rv (by simpa using cv))))⟩) rt_non
        · rename_i xs en
          obtain ⟨nz, ws, hl, rws⟩ := rh2.at' n _ b en eb
          split at p2
          · exact p2.elim
          · rename_i cc
            have nk : ¬ g2.kp b := fun z => (rh2.kd b z).2 (List.mem_of_getElem? eb)
            have nt : ∀ ys, H2 b ≠ some (.tup ys) := fun ys z => by rw [hl] at z; cases z
            have stw : Stp g2 H2 g2 (upd H2 b (.lst (ws ++ [u2]))) := Stp.wr (c := ct X) nz nk nt
            refine ⟨b, ws, u2, eu', rfl, hl, by rw [← rws.len]; exact SZ_lt (by omega), ?_⟩
            exact p2 g2 _ .non stw (rh2.wr eb nz nt ⟨nz, _, upd_same, (RTs.app rws (RTs.one rv2)).stp stw⟩) rt_non
        · exact p2.elim
      | _ => exact p2.elim
end
end J
namespace J
open PySem L2
/-! numbers -/
def isInt2 (f : Int → Int → Option VV) : Op2 := fun _ v w => match v, w with
  | .int i, .int j => f i j
  | _, _ => none
def opSub : Op2 := isInt2 fun i j => some (.int (i - j))
def opLt : Op2 := isInt2 fun i j => some (.bl (decide (i < j)))
def opLe : Op2 := isInt2 fun i j => some (.bl (decide (i ≤ j)))
def opGt : Op2 := isInt2 fun i j => some (.bl (decide (j < i)))
def opGe : Op2 := isInt2 fun i j => some (.bl (decide (j ≤ i)))
def opFdiv : Op2 := isInt2 fun i j => if j ≠ 0 ∧ j.natAbs.log2 < 9000 then some (.int (i.fdiv j)) else none
def opMod : Op2 := isInt2 fun i j => if j ≠ 0 then some (.int (i.fmod j)) else none
def mulOk (i j : Int) : Bool := decide (i.natAbs < 2 ^ 64) || decide (j.natAbs < 2 ^ 64) || decide (i.natAbs.log2 + j.natAbs.log2 < 1000000)
def opPow : Op2 := isInt2 fun i j => if 0 ≤ j ∧ j ≤ 1000000 ∧ i.natAbs < 2 ^ 64 then some (.int (i ^ j.toNat)) else none
def opNeg : Op1 := fun _ v => match v with
  | .int i => some (.int (-i))
  | _ => none
def opAdd : Op2 := fun h v w => match v, w with
  | .int i, .int j => some (.int (i + j))
  | .str x, .str y => if x.length + y.length ≤ SZ then some (.str (x ++ y)) else none
  | .tup xs, .tup ys => if xs.length + ys.length ≤ SZ then some (.tup (xs ++ ys)) else none
  | .lst xs, .lst ys => if xs.length + ys.length ≤ SZ then some (.lst (xs ++ ys)) else none
  | _, _ => none
def opMul : Op2 := fun h v w => match v, w with
  | .int i, .int j => if mulOk i j = true then some (.int (i * j)) else none
  | .lst xs, .int k => if -(2 ^ 63) ≤ k ∧ k < 2 ^ 63 ∧ xs.length * k.toNat ≤ SZ then some (.lst (List.replicate k.toNat xs).flatten) else none
  | _, _ => none
section
variable {X : Cx} {W : WX}
theorem opR_int {f : Value → Value → Sem Value} {C : Int → Int → Prop} {g : Int → Int → V} {o : Int → Int → Option VV} (h : OpR X f (rI C g)) (ho : ∀ i j r, o i j = some r → C i j ∧ ∀ c z H, RV c z H r (g i j)) : OpR X f (Rd2 (ct X) (isInt2 o)) :=
  OpR.imp h fun x y H Q ⟨g0, hh, v, w, r, rh, rv, rw', e, k⟩ => by
    unfold isInt2 at e
    split at e
    · rename_i i j
      obtain ⟨c, rr⟩ := ho i j r e
      exact ⟨i, j, int_get rv, int_get rw', c, k g0 H _ .refl rh (RT.of_rv (rr _ _ _))⟩
    · cases e
theorem opR_int0 {f : Value → Value → Sem Value} {g : Int → Int → V} {o : Int → Int → Option VV} (h : OpR X f (rI0 g)) (ho : ∀ i j r, o i j = some r → ∀ c z H, RV c z H r (g i j)) : OpR X f (Rd2 (ct X) (isInt2 o)) :=
  OpR.imp h fun x y H Q ⟨g0, hh, v, w, r, rh, rv, rw', e, k⟩ => by
    unfold isInt2 at e
    split at e
    · rename_i i j
      have rr := ho i j r e
      exact ⟨i, j, int_get rv, int_get rw', k g0 H _ .refl rh (RT.of_rv (rr _ _ _))⟩
    · cases e
theorem rv_int (c : Ct) (z : Addr → Prop) (H : Hp) (i : Int) : RV c z H (.int i) (.int i) := by rw [RV]
theorem rv_bl (c : Ct) (z : Addr → Prop) (H : Hp) (i : Bool) : RV c z H (.bl i) (.bl i) := by rw [RV]
theorem or_sub : OpR X (binaryOp .Sub) (Rd2 (ct X) opSub) := opR_int0 op_sub fun i j r e => by cases e; exact fun c z H => rv_int c z H _
theorem or_lt : OpR X (compareOp .Lt) (Rd2 (ct X) opLt) := opR_int0 op_lt fun i j r e => by cases e; exact fun c z H => rv_bl c z H _
theorem or_le : OpR X (compareOp .LtE) (Rd2 (ct X) opLe) := opR_int0 op_le fun i j r e => by cases e; exact fun c z H => rv_bl c z H _
theorem or_gt : OpR X (compareOp .Gt) (Rd2 (ct X) opGt) := opR_int0 op_gt fun i j r e => by cases e; exact fun c z H => rv_bl c z H _
theorem or_ge : OpR X (compareOp .GtE) (Rd2 (ct X) opGe) := opR_int0 op_ge fun i j r e => by cases e; exact fun c z H => rv_bl c z H _
theorem or_fdiv : OpR X (binaryOp .FloorDiv) (Rd2 (ct X) opFdiv) :=
  opR_int (C := fun _ j => j ≠ 0 ∧ j.natAbs.log2 < 9000) (g := fun i j => .int (i.fdiv j)) (opI fun _ _ _ _ _ _ _ hc q => PyProof.Rows.floordiv_int hc.1 q (.inl (PyProof.noPylong_of_log2 hc.2))) fun i j r e => by
    split at e
    · rename_i h; cases e; exact ⟨h, fun c z H => rv_int c z H _⟩
    · cases e
theorem or_mod : OpR X (binaryOp .Mod) (Rd2 (ct X) opMod) :=
  opR_int (C := fun _ j => j ≠ 0) (g := fun i j => .int (i.fmod j)) op_modN fun i j r e => by
    split at e
    · rename_i h; cases e; exact ⟨h, fun c z H => rv_int c z H _⟩
    · cases e
theorem or_pow : OpR X (binaryOp .Pow) (Rd2 (ct X) opPow) :=
  opR_int (C := CPow) (g := fun i j => .int (i ^ j.toNat)) op_pow fun i j r e => by
    split at e
    · rename_i h; cases e; exact ⟨h, fun c z H => rv_int c z H _⟩
    · cases e
theorem ur_neg : UnR X (unaryOp .USub) (Rd1 (ct X) opNeg) :=
  UnR.imp un_neg fun x H Q ⟨g0, hh, v, r, rh, rv, e, k⟩ => by
    cases v with
    | int i => cases e; exact ⟨i, int_get rv, k g0 H _ .refl rh rt_int⟩
    | _ => cases e
/-- new frozen data -/
theorem new_lst {c : Ct} {g : Gh} {h : VH} {H : Hp} {p : Addr} {xs : List VV} {us : List V} (rh : RH c g h H) (hp : H p = none) (rv : RVs c g.fz H xs us) :
    Stp g H (g.frz p) (upd H p (.lst us)) ∧ RH c (g.frz p) h (upd H p (.lst us)) ∧ RT c (g.frz p) (upd H p (.lst us)) (.lst xs) (.ref p) := by
  refine ⟨.new rh hp, rh.new hp, ?_⟩
  show RV _ _ _ _ _
  rw [RV]
  exact ⟨p, us, rfl, .inr rfl, upd_same, (Stp.new rh hp).rvs rv⟩
/-- () + t -/
theorem op_catT0 : OpR X (binaryOp .Add) (fun x y H Q => ∃ a b ys, x = .ref a ∧ y = .ref b ∧ SqT X.K H a [] ∧ SqT X.K H b ys ∧ Q (.ref b) H) := by
  intro pins s σ H x y v u Q I rx ry h
  obtain ⟨a, b, ys, e1, e2, ha, hb, q⟩ := h
  subst e1; subst e2
  cases rx
  cases ry
  obtain ⟨its, r, ht, hz⟩ := I.tuple ha
  obtain ⟨its2, r2, ht2, hz2⟩ := I.tuple hb
  have e0 : its = [] := by cases r; rfl
  subst e0
  obtain ⟨⟨cls, dd, data, sl⟩, ho, hc, n, hd⟩ := id ht
  obtain ⟨⟨cls2, dd2, data2, sl2⟩, ho2, hc2, n2, hd2⟩ := id ht2
  simp only at hc hd hc2 hd2
  subst hc hd hc2 hd2
  exact PySem.concat_meets ⟨_, ho, rfl⟩ ⟨_, ho2, rfl⟩ noFill_tuple_add seq_tuple_add PySem.F.slot_tuple_add PySem.F.entry_tuple_add (PySem.F.args_tuple_add_2 _ _)
      (PyProof.Rows.tuple_addW0 a b (([] : List Value).toArray) its2.toArray n n2 dd dd2 sl sl2 (by simp)) ⟨ho, ho2, ⟨.ref b, H, I, rfl, q⟩⟩
theorem or_add : OpR X (binaryOp .Add) (Rd2 (ct X) opAdd) :=
  OpR.imp (OpR.or op_add (OpR.or op_add_str (OpR.or op_catT (OpR.or op_cat op_catT0)))) fun x y H Q ⟨g, h, v, w, r, rh, rv, rw', e, k⟩ => by
    unfold opAdd at e
    split at e
    · cases e
      exact .inl ⟨_, _, int_get rv, int_get rw', k g H _ .refl rh rt_int⟩
    · split at e
      · rename_i hl
        cases e
        exact .inr (.inl ⟨_, _, str_get rv, str_get rw', SZ_le hl, k g H _ .refl rh rt_str⟩)
      · cases e
    · split at e
      · rename_i xs ys hl
        cases e
        obtain ⟨p, us, ep, sp, rp⟩ := tup_get rv
        obtain ⟨q, ws, eq, sq, rq⟩ := tup_get rw'
        by_cases hx : us = []
        · subst hx
          have hx' : xs = [] := List.length_eq_zero_iff.mp rp.len
          subst hx'
          exact .inr (.inr (.inr (.inr ⟨p, q, ws, ep, eq, sp.sq, sq.sq, by rw [← eq]; exact k g H y .refl rh (by rw [List.nil_append]; exact rw')⟩)))
        · refine .inr (.inr (.inl ⟨p, q, us, ws, ep, eq, sp.sq, sq.sq, hx, by rw [← rp.len, ← rq.len]; exact SZ_le hl, fun z => ?_, fun _ p hp => ?_⟩))
          · subst z
            have hy' : ys = [] := List.length_eq_zero_iff.mp rq.len
            subst hy'
            rw [← ep]
            exact k g H x .refl rh (by rw [List.append_nil]; exact rv)
          · obtain ⟨s1, s2, s3⟩ := pair_new rh hp (RVs.app rp rq)
            exact k _ _ _ s1 s2 s3
      · cases e
    · split at e
      · rename_i hl
        cases e
        obtain ⟨p, us, ep, sp, rp⟩ := lstOf'_get rh rv rfl
        obtain ⟨q, ws, eq, sq, rq⟩ := lstOf'_get rh rw' rfl
        refine .inr (.inr (.inr (.inl ⟨p, q, us, ws, ep, eq, sp, sq, by rw [← rp.len, ← rq.len]; exact SZ_le hl, fun p hp => ?_⟩)))
        obtain ⟨s1, s2, s3⟩ := new_lst rh hp (RVs.app rp rq)
        exact k _ _ _ s1 s2 s3
      · cases e
    · cases e
theorem RVs.rep {c : Ct} {z : Addr → Prop} {H : Hp} {xs : List VV} {us : List V} (r : RVs c z H xs us) : ∀ n : Nat, RVs c z H (List.replicate n xs).flatten (List.replicate n us).flatten
  | 0 => RVs.nil
  | n + 1 => by
    rw [List.replicate_succ, List.replicate_succ, List.flatten_cons, List.flatten_cons]
    exact RVs.app r (RVs.rep r n)
theorem mulOk_ok {i j : Int} (h : mulOk i j = true) : IntMulOk i j := by
  unfold mulOk at h
  rw [Bool.or_eq_true, Bool.or_eq_true] at h
  rcases h with (h | h) | h
  · have := of_decide_eq_true h
    exact IntMulOk.of_left (intBits_le_64 (by omega) (by omega))
  · have := of_decide_eq_true h
    exact IntMulOk.of_right (intBits_le_64 (by omega) (by omega))
  · exact CMulW.ok (show CMulW i j from of_decide_eq_true (p := i.natAbs.log2 + j.natAbs.log2 < 1000000) h)
theorem or_mul : OpR X (binaryOp .Mult) (Rd2 (ct X) opMul) :=
  OpR.imp (OpR.or (opI (C := fun i j => mulOk i j = true) (g := fun i j => i * j) fun _ _ _ _ _ _ _ hc q => PyProof.Rows.mul_int q (mulOk_ok hc)) op_rep) fun x y H Q ⟨g, h, v, w, r, rh, rv, rw', e, k⟩ => by
    unfold opMul at e
    split at e
    · split at e
      · rename_i hm
        cases e
        exact .inl ⟨_, _, int_get rv, int_get rw', hm, k g H _ .refl rh rt_int⟩
      · cases e
    · split at e
      · rename_i hl
        cases e
        obtain ⟨p, us, ep, sp, rp⟩ := lstOf'_get rh rv rfl
        refine .inr ⟨p, _, us, ep, int_get rw', sp, hl.1, hl.2.1, by rw [← rp.len]; exact SZ_le hl.2.2, fun p hp => ?_⟩
        obtain ⟨s1, s2, s3⟩ := new_lst rh hp (RVs.rep rp _)
        exact k _ _ _ s1 s2 s3
      · cases e
    · cases e
/-! places -/
def opIx : Op2 := fun h v w => match v, w with
  | .tup xs, .int i => atI xs i
  | .str z, .int i => if z.length ≤ SZ then (atI z.cps.toList i).map fun c => .str ⟨#[c]⟩ else none
  | v, .int i => (lstR h v).bind fun xs => atI xs i
  | _, _ => none
theorem atI_rv {c : Ct} {z : Addr → Prop} {H : Hp} {xs : List VV} {us : List V} {i : Int} {v : VV} (r : RVs c z H xs us) (e : atI xs i = some v) : ∃ u, atI us i = some u ∧ RV c z H v u := by
  unfold atI at e ⊢
  rw [← r.len]
  cases q : ixN xs.length i with
  | none => rw [q] at e; cases e
  | some j => rw [q] at e; exact r.get e
theorem RTs.get {c : Ct} {g : Gh} {H : Hp} : ∀ {vs : List VV} {us : List V} {i : Nat} {v : VV}, RTs c g H vs us → vs[i]? = some v → ∃ u, us[i]? = some u ∧ RT c g H v u
  | [], us, i, v, h, e => by simp at e
  | x :: xs, us, i, v, h, e => by
    obtain ⟨u, r, rfl, a, b⟩ := h
    cases i with
    | zero => simp at e; subst e; exact ⟨u, rfl, a⟩
    | succ i => exact RTs.get (i := i) b (by simpa using e)
theorem atI_rt {c : Ct} {g : Gh} {H : Hp} {xs : List VV} {us : List V} {i : Int} {v : VV} (r : RTs c g H xs us) (e : atI xs i = some v) : ∃ u, atI us i = some u ∧ RT c g H v u := by
  unfold atI at e ⊢
  rw [← r.len]
  cases q : ixN xs.length i with
  | none => rw [q] at e; cases e
  | some j => rw [q] at e; exact r.get e
theorem ir_ix : IxR X (Rd2 (ct X) opIx) :=
  IxR.imp ix_seq fun x y H Q ⟨g, h, v, w, r, rh, rv, rw', e, k⟩ => by
    unfold opIx at e
    split at e
    · rename_i xs i
      obtain ⟨p, us, ep, sp, rp⟩ := tup_get rv
      obtain ⟨u, eu, ru⟩ := atI_rv rp e
      exact .inr (.inl ⟨p, us, i, u, ep, int_get rw', sp.sq, eu, k g H u .refl rh (RT.of_rv ru)⟩)
    · rename_i z i
      split at e
      · rename_i hz
        cases q : atI z.cps.toList i with
        | none => rw [q] at e; cases e
        | some cc =>
          rw [q] at e
          cases e
          exact .inr (.inr ⟨z, i, cc, str_get rv, int_get rw', SZ_le hz, q, k g H _ .refl rh rt_str⟩)
      · cases e
    · rename_i v i _ _
      obtain ⟨xs, e1, e2⟩ := Option.bind_eq_some_iff.mp e
      obtain ⟨p, us, ep, sp, rp⟩ := lstR_get rh rv e1
      obtain ⟨u, eu, ru⟩ := atI_rt rp e2
      exact .inl ⟨p, us, i, u, ep, int_get rw', sp, eu, k g H u .refl rh ru⟩
    · cases e
/-! slices: data -/
abbrev POF := VSt → VH → Res (Option Int)
def RO_ (_ : Gh) (_ : Hp) (a b : Option Int) : Prop := b = a
abbrev tO (c : Ct) (W : WX) (f : POF) : TO := tG c W RO_ f
def oNone : POF := fun _ h => .ok none h
def oSome (a : EF) : POF := fun ρ h => (a ρ h).bind fun v h1 => match v with
  | .int i => .ok (some i) h1
  | _ => .no
theorem PO.mono {e : Option Expr} {t t' : TO} (h : PO X e t) (m : ∀ σ H Q, t' σ H Q → t σ H Q) : PO X e t' := ⟨fun pins s σ H Q I q => h.run pins s σ H Q I (m σ H Q q)⟩
theorem jo_none : PO X none (tO (ct X) W oNone) := PO.mono po_none fun σ H Q ⟨g, ρ, h, rh, rs, p⟩ => p g H none .refl rh rfl
theorem jo_some {e : Expr} {f : EF} (h : PE X e (tE (ct X) W f)) : PO X (some e) (tO (ct X) W (oSome f)) :=
  PO.mono (po_some h) fun σ H Q ⟨g, ρ, h0, rh, rs, p⟩ => by
    refine ⟨g, ρ, h0, rh, rs, (Pst.bind (R := RT (ct X)) p).imp fun u H1 ⟨g1, v, h1, st, rh1, rv1, p1⟩ => ?_⟩
    cases v with
    | int i => exact ⟨i, int_get rv1, p1 g1 H1 _ .refl rh1 rfl⟩
    | _ => exact p1.elim
def cut (xs : List VV) (lo hi : Option Int) : List VV := (xs.drop (HT.sIx xs.length 0 lo)).take (HT.sIx xs.length xs.length hi - HT.sIx xs.length 0 lo)
theorem RVs.cut {c : Ct} {z : Addr → Prop} {H : Hp} {xs : List VV} {us : List V} (r : RVs c z H xs us) (lo hi : Option Int) : RVs c z H (J.cut xs lo hi) (cutV us lo hi) := by
  unfold J.cut cutV
  rw [r.len]
  exact RVs.take _ (RVs.drop _ r)
abbrev OpS := VH → VV → Option Int → Option Int → Option VV
def opSl : OpS := fun h v lo hi => match v with
  | .tup xs => some (.tup (cut xs lo hi))
  | .str z => if z.length ≤ SZ then some (.str (cutS z lo hi)) else none
  | v => (lstOf h v).map fun xs => .lst (cut xs lo hi)
def eSl (op : OpS) (a : EF) (lo hi : POF) : EF := fun ρ h => (a ρ h).bind fun v h1 => (lo ρ h1).bind fun l h2 => (hi ρ h2).bind fun u h3 => lift (op h3 v l u) h3
theorem j_sl {e : Expr} {lo hi : Option Expr} {p2 pos : Pos} {fe : EF} {fl fh : POF} (he : PE X e (tE (ct X) W fe)) (hl : PO X lo (tO (ct X) W fl)) (hu : PO X hi (tO (ct X) W fh)) : PE X (.Subscript e (.Slice lo hi none p2) pos) (tE (ct X) W (eSl opSl fe fl fh)) :=
  PE.mono (pe_slice (SlR.or sl_list (SlR.or sl_tupA sl_str)) he hl hu) fun σ H Q ⟨g, ρ, h0, rh, rs, p⟩ => by
    refine ⟨g, ρ, h0, rh, rs, (Pst.bind (R := RT (ct X)) p).imp fun u H1 ⟨g1, v, h1, st, rh1, rv1, p1⟩ => ?_⟩
    refine ⟨g1, ρ, h1, rh1, rs.stp st, (Pst.bind (R := RO_) p1).imp fun l H2 ⟨g2, l', h2, st2, rh2, el, p2⟩ => ?_⟩
    cases el
    refine ⟨g2, ρ, h2, rh2, (rs.stp st).stp st2, (Pst.bind (R := RO_) p2).imp fun l2 H3 ⟨g3, l2', h3, st3, rh3, el2, p3⟩ => ?_⟩
    cases el2
    have rv3 := (rv1.stp st2).stp st3
    unfold lift at p3
    cases er : opSl h3 v l l2 with
    | none => rw [er] at p3; exact p3.elim
    | some r =>
      rw [er] at p3
      unfold opSl at er
      split at er
      · cases er
        obtain ⟨p, us, ep, sp, rp⟩ := tup_get rv3
        refine .inr (.inl ⟨p, us, ep, sp.sq, fun hw => ?_, fun hne p hp => ?_⟩)
        · rw [← rp.len] at hw
          unfold J.cut at p3
          rw [hw.1, hw.2, List.drop_zero, Nat.sub_zero, List.take_length] at p3
          rw [← ep]
          exact p3 g3 H3 _ .refl rh3 rv3
        · obtain ⟨s1, s2, s3⟩ := pair_new rh3 hp (RVs.cut rp l l2)
          exact p3 _ _ _ s1 s2 s3
      · split at er
        · rename_i hz
          cases er
          exact .inr (.inr ⟨_, str_get rv3, SZ_le hz, p3 g3 H3 _ .refl rh3 rt_str⟩)
        · cases er
      · obtain ⟨xs, e1, e2⟩ := Option.map_eq_some_iff.mp er
        cases e2
        obtain ⟨p, us, ep, sp, rp⟩ := lstOf_get rh3 rv3 e1
        refine .inl ⟨p, us, ep, sp, fun p hp => ?_⟩
        obtain ⟨s1, s2, s3⟩ := new_lst rh3 hp (RVs.cut rp l l2)
        exact p3 _ _ _ s1 s2 s3
/-! == of data -/
mutual
def toD : VV → PyData
  | .non => .none
  | .bl b => .bool b
  | .int i => .int i
  | .str x => .str x
  | .tup xs => .tuple (toDs xs)
  | .lst xs => .list (toDs xs)
  | _ => .none
def toDs : List VV → List PyData
  | [] => []
  | x :: xs => toD x :: toDs xs
end
mutual
def isD : VV → Bool
  | .non => true
  | .bl _ => true
  | .int _ => true
  | .str _ => true
  | .tup xs => isDs xs
  | .lst xs => isDs xs
  | _ => false
def isDs : List VV → Bool
  | [] => true
  | x :: xs => isD x && isDs xs
end
mutual
theorem dp_of {c : Ct} {z : Addr → Prop} {H : Hp} : ∀ (v : VV) (u : V), RV c z H v u → isD v = true → Dp c.K H u (toD v)
  | .non, u, r, _ => by rw [RV] at r; subst r; rw [toD]; exact .non
  | .bl b, u, r, _ => by rw [RV] at r; subst r; rw [toD]; exact .bl b
  | .int b, u, r, _ => by rw [RV] at r; subst r; rw [toD]; exact .int b
  | .str b, u, r, _ => by rw [RV] at r; subst r; rw [toD]; exact .str b
  | .tup xs, u, r, d => by
    rw [RV] at r
    obtain ⟨p, us, e, t, q⟩ := r
    subst e
    rw [toD]
    rw [isD] at d
    exact .tup t.sq (dps_of xs us q d)
  | .lst xs, u, r, d => by
    rw [RV] at r
    obtain ⟨p, us, e, _, t, q⟩ := r
    subst e
    rw [toD]
    rw [isD] at d
    exact .lst (SqL.of t) (dps_of xs us q d)
  | .scr _, _, _, d => by rw [isD] at d <;> first | exact (Bool.false_ne_true d).elim | simp
  | .dT _ _, _, _, d => by rw [isD] at d <;> first | exact (Bool.false_ne_true d).elim | simp
  | .dK _ _, _, _, d => by rw [isD] at d <;> first | exact (Bool.false_ne_true d).elim | simp
  | .ins _ _ _, _, _, d => by rw [isD] at d <;> first | exact (Bool.false_ne_true d).elim | simp
  | .obj _, _, _, d => by rw [isD] at d <;> first | exact (Bool.false_ne_true d).elim | simp
  | .glb _, _, _, d => by rw [isD] at d <;> first | exact (Bool.false_ne_true d).elim | simp
  | .ty _, _, _, d => by rw [isD] at d <;> first | exact (Bool.false_ne_true d).elim | simp
theorem dps_of {c : Ct} {z : Addr → Prop} {H : Hp} : ∀ (vs : List VV) (us : List V), RVs c z H vs us → isDs vs = true → DpAll c.K H us (toDs vs)
  | [], us, r, _ => by rw [RVs] at r; subst r; rw [toDs]; exact .nil
  | x :: xs, us, r, d => by
    rw [RVs] at r
    obtain ⟨u, q, e, a, b⟩ := r
    subst e
    rw [isDs, Bool.and_eq_true] at d
    rw [toDs]
    exact .cons (dp_of x u a d.1) (dps_of xs q b d.2)
end
theorem noObj {v : VV} (h : isD v = true) : v.isObj = false := by
  cases v with
  | obj n => simp [isD] at h
  | _ => rfl
/-- == : scalars of one kind, else data -/
def eqD (v w : VV) : Option Bool := match v, w with
  | .int i, .int j => some (decide (i = j))
  | .str i, .str j => some (decide (i = j))
  | .bl i, .bl j => some (decide (i = j))
  | v, w => if isD v = true ∧ isD w = true ∧ SeqAt.shaped (toD v) = true ∧ SeqAt.shaped (toD w) = true then some (PyData.eqv (toD v) (toD w)) else none
def opEq : Op2 := fun _ v w => (eqD v w).map .bl
def opNe : Op2 := fun _ v w => (eqD v w).map fun b => .bl (!b)
theorem eqD_cases {c : Ct} {g : Gh} {H : Hp} {v w : VV} {x y : V} {b : Bool} (rv : RT c g H v x) (rw' : RT c g H w y) (e : eqD v w = some b) :
    (scal x y = true ∧ decide (x = y) = b) ∨ ∃ d e, Dp c.K H x d ∧ Dp c.K H y e ∧ SeqAt.shaped d = true ∧ SeqAt.shaped e = true ∧ PyData.eqv d e = b := by
  unfold eqD at e
  split at e
  · cases e
    rw [int_get rv, int_get rw']
    exact .inl ⟨rfl, by rw [dec_int, Bool.beq_eq_decide_eq]⟩
  · cases e
    rw [str_get rv, str_get rw']
    exact .inl ⟨rfl, by rw [dec_str, Bool.beq_eq_decide_eq]⟩
  · cases e
    rw [bl_get rv, bl_get rw']
    exact .inl ⟨rfl, by rw [dec_bl, Bool.beq_eq_decide_eq]⟩
  · split at e
    · rename_i hd
      cases e
      have n1 : v.isObj = false := noObj hd.1
      have n2 : w.isObj = false := noObj hd.2.1
      exact .inr ⟨_, _, dp_of _ _ (rv.rv n1) hd.1, dp_of _ _ (rw'.rv n2) hd.2.1, hd.2.2.1, hd.2.2.2, rfl⟩
    · cases e
theorem or_eq {k : Nat} (hr : Room k X.A) : OpR X (compareOp .Eq) (Rd2 (ct X) opEq) :=
  OpR.imp (OpR.or op_eq (op_eqD hr.units)) fun x y H Q ⟨g, h, v, w, r, rh, rv, rw', e, kk⟩ => by
    obtain ⟨b, e1, e2⟩ := Option.map_eq_some_iff.mp e
    cases e2
    rcases eqD_cases rv rw' e1 with ⟨q1, q2⟩ | ⟨d, e, q1, q2, q3, q4, q5⟩
    · exact .inl ⟨q1, by rw [q2]; exact kk g H _ .refl rh rt_bl⟩
    · exact .inr ⟨d, e, q1, q2, q3, q4, by rw [q5]; exact kk g H _ .refl rh rt_bl⟩
theorem or_ne {k : Nat} (hr : Room k X.A) : OpR X (compareOp .NotEq) (Rd2 (ct X) opNe) :=
  OpR.imp (OpR.or op_ne (op_neD hr.units)) fun x y H Q ⟨g, h, v, w, r, rh, rv, rw', e, kk⟩ => by
    obtain ⟨b, e1, e2⟩ := Option.map_eq_some_iff.mp e
    cases e2
    rcases eqD_cases rv rw' e1 with ⟨q1, q2⟩ | ⟨d, e, q1, q2, q3, q4, q5⟩
    · exact .inl ⟨q1, by rw [q2]; exact kk g H _ .refl rh rt_bl⟩
    · exact .inr ⟨d, e, q1, q2, q3, q4, by rw [q5]; exact kk g H _ .refl rh rt_bl⟩
/-- is None -/
def opIsN : Op2 := fun _ v w => match v, w with
  | .non, .non => some (.bl true)
  | v, .non => if v.isObj = true then none else some (.bl false)
  | _, _ => none
def opNotN : Op2 := fun _ v w => match v, w with
  | .non, .non => some (.bl false)
  | v, .non => if v.isObj = true then none else some (.bl true)
  | _, _ => none
theorem non_dec {c : Ct} {g : Gh} {H : Hp} {v : VV} {u : V} (rv : RT c g H v u) (no : v.isObj = false) (nn : v ≠ .non) : decide (u = V.non) = false := by
  have r := rv.rv no
  refine decide_eq_false fun z => ?_
  subst z
  cases v with
  | non => exact nn rfl
  | bl b => rw [RV] at r; cases r
  | int b => rw [RV] at r; cases r
  | str b => rw [RV] at r; cases r
  | tup xs => rw [RV] at r; obtain ⟨p, us, e, _⟩ := r; cases e
  | lst xs => rw [RV] at r; obtain ⟨p, us, e, _⟩ := r; cases e
  | scr xs => rw [RV] at r; obtain ⟨p, us, e, _⟩ := r; cases e
  | dT ks xs => rw [RV] at r; obtain ⟨p, us, e, _⟩ := r; cases e
  | dK ks xs => rw [RV] at r; obtain ⟨p, us, e, _⟩ := r; cases e
  | ins a ks xs => rw [RV] at r; obtain ⟨p, C, dx, us, e, _⟩ := r; cases e
  | obj n => cases no
  | glb x => rw [RV] at r; obtain ⟨a, _, e⟩ := r; cases e
  | ty n => rw [RV] at r; cases r
  | raw n => rw [RV] at r; cases r
theorem or_isN : OpR X (compareOp .Is) (Rd2 (ct X) opIsN) :=
  OpR.imp op_isN fun x y H Q ⟨g, h, v, w, r, rh, rv, rw', e, kk⟩ => by
    unfold opIsN at e
    split at e
    · cases e
      refine ⟨non_get rw', ?_⟩
      rw [non_get rv]
      exact kk g H _ .refl rh rt_bl
    · split at e
      · cases e
      · rename_i nv no
        cases e
        refine ⟨non_get rw', ?_⟩
        rw [non_dec rv (by simpa using no) (fun z => nv z)]
        exact kk g H _ .refl rh rt_bl
    · cases e
/-! calls of built-ins -/
def cLen : OpN := fun h vs => match vs with
  | [.tup xs] => some (.int xs.length)
  | [.str z] => if z.length ≤ SZ then some (.int z.length) else none
  | [v] => (lstR h v).map fun xs => .int xs.length
  | _ => none
theorem cr_len : CallR X (.builtin "len") (RdN (ct X) cLen) :=
  CallR.imp (CallR.or call_len_seq call_len_str) fun xs H Q ⟨g, h, vs, r, rh, rv, e, kk⟩ => by
    unfold cLen at e
    split at e
    · cases e
      obtain ⟨u, q, rfl, a, rfl⟩ := rv
      obtain ⟨p, us, ep, sp, rp⟩ := tup_get a
      exact .inl ⟨p, us, by rw [ep], .inr sp.sq, by rw [← rp.len]; exact kk g H _ .refl rh rt_int⟩
    · split at e
      · rename_i hz
        cases e
        obtain ⟨u, q, rfl, a, rfl⟩ := rv
        exact .inr ⟨_, by rw [str_get a], SZ_le hz, kk g H _ .refl rh rt_int⟩
      · cases e
    · obtain ⟨ys, e1, e2⟩ := Option.map_eq_some_iff.mp e
      cases e2
      obtain ⟨u, q, rfl, a, rfl⟩ := rv
      obtain ⟨p, us, ep, sp, rp⟩ := lstR_get rh a e1
      exact .inl ⟨p, us, by rw [ep], .inl sp, by rw [← rp.len]; exact kk g H _ .refl rh rt_int⟩
    · cases e
def intsOf : List VV → Option (List Int)
  | [] => some []
  | .int i :: xs => (intsOf xs).map fun l => i :: l
  | _ => none
def blsOf : List VV → Option (List Bool)
  | [] => some []
  | .bl i :: xs => (blsOf xs).map fun l => i :: l
  | _ => none
def strsOf : List VV → Option (List Str)
  | [] => some []
  | .str i :: xs => (strsOf xs).map fun l => i :: l
  | _ => none
theorem intsOf_rv {c : Ct} {z : Addr → Prop} {H : Hp} : ∀ {vs : List VV} {us : List V} {ns : List Int}, RVs c z H vs us → intsOf vs = some ns → us = ns.map V.int
  | [], us, ns, r, e => by cases e; rw [RVs] at r; exact r
  | x :: xs, us, ns, r, e => by
    rw [RVs] at r
    obtain ⟨u, q, rfl, a, b⟩ := r
    cases x with
    | int i =>
      rw [intsOf] at e
      obtain ⟨l, e1, rfl⟩ := Option.map_eq_some_iff.mp e
      rw [RV] at a
      rw [a, intsOf_rv b e1]; rfl
    | _ => simp [intsOf] at e
theorem blsOf_rv {c : Ct} {z : Addr → Prop} {H : Hp} : ∀ {vs : List VV} {us : List V} {ns : List Bool}, RVs c z H vs us → blsOf vs = some ns → us = ns.map V.bl
  | [], us, ns, r, e => by cases e; rw [RVs] at r; exact r
  | x :: xs, us, ns, r, e => by
    rw [RVs] at r
    obtain ⟨u, q, rfl, a, b⟩ := r
    cases x with
    | bl i =>
      rw [blsOf] at e
      obtain ⟨l, e1, rfl⟩ := Option.map_eq_some_iff.mp e
      rw [RV] at a
      rw [a, blsOf_rv b e1]; rfl
    | _ => simp [blsOf] at e
theorem strsOf_rv {c : Ct} {z : Addr → Prop} {H : Hp} : ∀ {vs : List VV} {us : List V} {ns : List Str}, RVs c z H vs us → strsOf vs = some ns → us = ns.map V.str
  | [], us, ns, r, e => by cases e; rw [RVs] at r; exact r
  | x :: xs, us, ns, r, e => by
    rw [RVs] at r
    obtain ⟨u, q, rfl, a, b⟩ := r
    cases x with
    | str i =>
      rw [strsOf] at e
      obtain ⟨l, e1, rfl⟩ := Option.map_eq_some_iff.mp e
      rw [RV] at a
      rw [a, strsOf_rv b e1]; rfl
    | _ => simp [strsOf] at e
def cAll : OpN := fun h vs => match vs with
  | [v] => (lstOf h v).bind fun xs => (blsOf xs).map fun ns => .bl (ns.all id)
  | _ => none
theorem cr_allJ (hc : X.calm = true) : CallR X (.builtin "all") (RdN (ct X) cAll) :=
  CallR.imp (cr_all hc) fun xs H Q ⟨g, h, vs, r, rh, rv, e, kk⟩ => by
    unfold cAll at e
    split at e
    · obtain ⟨ys, e1, e2⟩ := Option.bind_eq_some_iff.mp e
      obtain ⟨ns, e3, e4⟩ := Option.map_eq_some_iff.mp e2
      cases e4
      obtain ⟨u, q, rfl, a, rfl⟩ := rv
      obtain ⟨p, us, ep, sp, rp⟩ := lstOf_get rh a e1
      exact ⟨p, ns, by rw [ep], by rw [← blsOf_rv rp e3]; exact sp, kk g H _ .refl rh rt_bl⟩
    · cases e
/-- list(..), tuple(..): data -/
def cList : OpN := fun h vs => match vs with
  | [.tup xs] => some (.lst xs)
  | [v] => (lstOf h v).map fun xs => .lst xs
  | _ => none
theorem cr_listJ : CallR X (.type "list") (RdN (ct X) cList) :=
  CallR.imp call_list_of fun xs H Q ⟨g, h, vs, r, rh, rv, e, kk⟩ => by
    unfold cList at e
    split at e
    · cases e
      obtain ⟨u, q, rfl, a, rfl⟩ := rv
      obtain ⟨p, us, ep, sp, rp⟩ := tup_get a
      refine ⟨p, us, by rw [ep], .inr sp.sq, fun l hl => ?_⟩
      obtain ⟨s1, s2, s3⟩ := new_lst rh hl rp
      exact kk _ _ _ s1 s2 s3
    · obtain ⟨ys, e1, e2⟩ := Option.map_eq_some_iff.mp e
      cases e2
      obtain ⟨u, q, rfl, a, rfl⟩ := rv
      obtain ⟨p, us, ep, sp, rp⟩ := lstOf_get rh a e1
      refine ⟨p, us, by rw [ep], .inl sp, fun l hl => ?_⟩
      obtain ⟨s1, s2, s3⟩ := new_lst rh hl rp
      exact kk _ _ _ s1 s2 s3
    · cases e
def cTuple : OpN := fun h vs => match vs with
  | [.tup xs] => some (.tup xs)
  | [v] => (lstOf h v).map fun xs => .tup xs
  | _ => none
theorem cr_tupleJ : CallR X (.type "tuple") (RdN (ct X) cTuple) :=
  CallR.imp call_tuple_of fun xs H Q ⟨g, h, vs, r, rh, rv, e, kk⟩ => by
    unfold cTuple at e
    split at e
    · cases e
      obtain ⟨u, q, rfl, a, rfl⟩ := rv
      obtain ⟨p, us, ep, sp, rp⟩ := tup_get a
      exact ⟨p, us, by rw [ep], .inr ⟨sp.sq, by rw [← ep]; exact kk g H u .refl rh a⟩⟩
    · obtain ⟨ys, e1, e2⟩ := Option.map_eq_some_iff.mp e
      cases e2
      obtain ⟨u, q, rfl, a, rfl⟩ := rv
      obtain ⟨p, us, ep, sp, rp⟩ := lstOf_get rh a e1
      refine ⟨p, us, by rw [ep], .inl ⟨sp, fun l hl => ?_⟩⟩
      obtain ⟨s1, s2, s3⟩ := pair_new rh hl rp
      exact kk _ _ _ s1 s2 s3
    · cases e
/-- isinstance(x, T), T a built-in type, x data -/
def tyN (h : VH) : VV → Option String
  | .non => some "NoneType"
  | .bl _ => some "bool"
  | .int _ => some "int"
  | .str _ => some "str"
  | .tup _ => some "tuple"
  | .lst _ => some "list"
  | .obj n => match h[n]? with
    | some (.fl _) => some "list"
    | some (.fzn (.lst _)) => some "list"
    | _ => none
  | _ => none
theorem tyX_of {c : Ct} {g : Gh} {h : VH} {H : Hp} {v : VV} {u : V} {n : String} (rh : RH c g h H) (rv : RT c g H v u) (e : tyN h v = some n) : TyX c.K H u (.type n) := by
  cases v with
  | non => cases e; rw [non_get rv]; exact .base .non
  | bl b => cases e; rw [bl_get rv]; exact .base (.bl b)
  | int b => cases e; rw [int_get rv]; exact .base (.int b)
  | str b => cases e; rw [str_get rv]; exact .base (.str b)
  | tup xs =>
    cases e
    obtain ⟨p, us, ep, sp, rp⟩ := tup_get rv
    rw [ep]
    exact .base (.tup sp)
  | lst xs =>
    cases e
    obtain ⟨p, us, ep, sp, rp⟩ := lstOf'_get (xs := xs) rh rv rfl
    rw [ep]
    exact .base (.lst sp)
  | obj m =>
    unfold tyN at e
    simp only at e
    split at e
    · rename_i xs en
      cases e
      obtain ⟨p, us, ep, sp, rp⟩ := lstOf'_get (xs := xs) rh rv (by unfold lstOf'; simp only [en])
      rw [ep]
      exact .base (.lst sp)
    · rename_i xs en
      cases e
      obtain ⟨p, us, ep, sp, rp⟩ := lstOf'_get (xs := xs) rh rv (by unfold lstOf'; simp only [en])
      rw [ep]
      exact .base (.lst sp)
    · cases e
  | _ => cases e
def cIsi : OpN := fun h vs => match vs with
  | [v, .ty b] => (tyN h v).bind fun a => (kitB a b).map .bl
  | _ => none
theorem cr_isi : CallR X (.builtin "isinstance") (RdN (ct X) cIsi) :=
  CallR.imp call_isi fun xs H Q ⟨g, h, vs, r, rh, rv, e, kk⟩ => by
    unfold cIsi at e
    split at e
    · obtain ⟨n, e1, e2⟩ := Option.bind_eq_some_iff.mp e
      obtain ⟨b, e3, e4⟩ := Option.map_eq_some_iff.mp e2
      cases e4
      obtain ⟨u, q, rfl, a, u2, q2, rfl, a2, rfl⟩ := rv
      exact ⟨u, u2, _, _, b, rfl, by rw [ty_get a2]; exact .ty _, tyX_of rh a e1, kit_ty e3, kk g H _ .refl rh rt_bl⟩
    · cases e
end
end J
namespace J
open PySem L2
theorem fn_no {P : Program} {w : World} {K : PySem.W.Frag} {mg : Str → Option Value} {base : Heap} {CX : CXT} {k n : Nat} {f : Addr} {fd : FuncData} {ps : List Str} {c : Ct} (hn : ps.length = n) : FnOk P w K mg base CX k f fd ps (spF c n (fun _ _ => .no)) :=
  ⟨fun vs H Q E h => by obtain ⟨_, _, _, _, _, _, p⟩ := h; exact p.elim, fun A outer s H args us vs Q E hr e0 hb r hsp => by obtain ⟨_, _, _, _, _, _, p⟩ := hsp; exact p.elim⟩
/-- a law's end: its own function gives True at every script -/
theorem law_sp {K : PySem.W.Frag} {mg : Str → Option Value} {F : FF} {H : Hp} {a : Addr} {ns : List Int} (hT : LTab ⟨K, mg⟩ H) (hS : SqL K H a (ns.map V.int)) (hF : ∃ h', F [.scr (ns.map VV.int)] [] = .ok (.bl true) h') :
    spF ⟨K, mg⟩ 1 F [.ref a] H (fun v _ => v = .bl true) fun _ _ _ => False := by
  obtain ⟨h', e⟩ := hF
  have rvs : ∀ (z : Addr → Prop) (l : List Int), RVs ⟨K, mg⟩ z H (l.map VV.int) (l.map V.int) := by
    intro z l
    induction l with
    | nil => exact RVs.nil
    | cons x xs ih => exact RVs.cons (rv_int _ _ _ _) ih
  have fin : ∀ g : Gh, RH ⟨K, mg⟩ g [] H → RT ⟨K, mg⟩ g H (.scr (ns.map VV.int)) (.ref a) → spF ⟨K, mg⟩ 1 F [.ref a] H (fun v _ => v = .bl true) fun _ _ _ => False := by
    intro g rh rt
    refine ⟨g, [.scr (ns.map VV.int)], [], rh, ⟨.ref a, [], rfl, rt, rfl⟩, rfl, ?_⟩
    rw [e]
    exact fun g' H' u st rh' rv => bl_get rv
  rcases hS with hS | hS
  · refine fin ⟨[], fun q => q = a, fun _ => False⟩ ⟨rfl, List.nodup_nil, fun n o a h => by simp at h, fun q z => ?_, fun q z => z.elim, fun q z => z.elim, hT, fun q z ps y => ?_⟩ ?_
    · have z' : q = a := z
      subst z'
      rcases hS with hS | ⟨o, hS⟩
      · exact ⟨_, hS⟩
      · exact ⟨_, hS⟩
    · have z' : q = a := z.elim id (fun z => z.elim)
      subst z'
      rcases hS with hS | ⟨o, hS⟩ <;> (rw [hS] at y; cases y)
    · show RV _ _ _ _ _
      rw [RV]
      exact ⟨a, _, rfl, .inl ⟨rfl, hS⟩, rvs _ _⟩
  · refine fin ⟨[], fun _ => False, fun _ => False⟩ ⟨rfl, List.nodup_nil, fun n o a h => by simp at h, fun q z => z.elim, fun q z => z.elim, fun q z => z.elim, hT, fun q z => z.elim False.elim False.elim⟩ ?_
    show RV _ _ _ _ _
    rw [RV]
    exact ⟨a, _, rfl, .inr hS, rvs _ _⟩
theorem cx_no {P : Program} {w : World} {l : List Env} {H : Hp} {s : Shared} {e : Value} {s' : Shared} (h : L2N.CX P w l H s (fun _ _ _ => False) e s') : False := by
  obtain ⟨_, _, _, _, _, _, _, _, _, _, _, _, z⟩ := h
  exact z.elim
section
variable {X : Cx} {W : WX}
theorem j_globI {x : Str} {i : Int} {pos : Pos} (hg : Gl X x) (h : ∃ t, X.mg x = some (.int i t)) (hd : (x == ("__debug__" : Str)) = false := by decide) : PE X (.Name x pos) (tE (ct X) W (eC (.int i))) := by
  obtain ⟨t, h⟩ := h
  exact j_c (pe_glob (v := .int i) hg h ⟨t, rfl⟩ hd) fun _ _ => rt_int
theorem j_globS {x : Str} {i : Str} {pos : Pos} (hg : Gl X x) (h : ∃ t, X.mg x = some (.str i t)) (hd : (x == ("__debug__" : Str)) = false := by decide) : PE X (.Name x pos) (tE (ct X) W (eC (.str i))) := by
  obtain ⟨t, h⟩ := h
  exact j_c (pe_glob (v := .str i) hg h ⟨t, rfl⟩ hd) fun _ _ => rt_str
theorem j_ty {x : Str} {n : String} {pos : Pos} (hg : Gl X x) (hm : X.mg x = none) (hv : bootBuiltins x = some (.type n)) (hn : x ≠ "__name__" := by decide) (hd : (x == ("__debug__" : Str)) = false := by decide) : PE X (.Name x pos) (tE (ct X) W (eC (.ty n))) :=
  j_c (pe_bltn (v := .ty n) hg hm hv rfl hn hd) fun _ _ => rt_ty
theorem jt_chain {o o' : Op2} {op op' : CmpOp} {a b c : Expr} {fa fb fc : EF} {pos : Pos} (ho : OpR X (compareOp op) (Rd2 (ct X) o)) (ho' : OpR X (compareOp op') (Rd2 (ct X) o')) (ha : PE X a (tE (ct X) W fa)) (hb : PE X b (tE (ct X) W fb)) (hc : PE X c (tE (ct X) W fc))
    (hm : lastMarks [op, op'] [b, c] = false := by with_unfolding_all rfl) : PT X (.Compare a [op, op'] [b, c] pos) (tT (ct X) W (tVal (eChain o o' fa fb fc))) :=
  PT.mono (pt_chain ho ho' ha hb hc hm) fun σ H Q h => by
    have := tChain_of (tVal_of h)
    exact this
end
open PyProof.Rows (envOfC)
/-- a def of the text -/
structure Dn (K : PySem.W.Frag) (mg : Str → Option Value) (x : Str) (st : Stmt) (dvs : List V) (kws : List (Str × V)) (f : Addr) (fd : FuncData) : Prop where
  F : FunD K x x (defArgs st) (defBody st) (defScope st) dvs kws f fd
  m : mg x = some (.ref f)
/-- a def that may be called with the last arguments left out (dws in their place) -/
structure Ok1 (P : Program) (w : World) (K : PySem.W.Frag) (mg : Str → Option Value) (base : Heap) (k : Nat) (x : Str) (n : Nat) (dws : List VV) (Fm : FF) : Prop where
  ex : ∃ (f : Addr) (fd : FuncData) (ps : List Str) (dvs : List V) (ds : List Value), mg x = some (.ref f) ∧ PySem.W.keepIn K (.ref f) = true ∧ FnOk P w K mg base (L2N.CX P w) k f fd ps (spF ⟨K, mg⟩ n Fm) ∧ Binds K fd ps ds ∧ Vals dvs ds ∧ ∀ g H, RTs ⟨K, mg⟩ g H dws dvs
section
variable {X : Cx} {W : WX}
theorem j_callO {k n : Nat} {Fm : FF} {dws : List VV} {x : Str} {p pos : Pos} {e : Expr} {es : List Expr} {fa : AF} (O : Ok1 X.prog X.w X.K X.mg X.base k x n dws Fm) (hr : Room k X.A) (hg : Gl X x) (tk : L2N.Takes X W)
    (ha : PA X (e :: es) (tA (ct X) W fa)) (hdb : (x == ("__debug__" : Str)) = false := by decide) (he : starEach (e :: es) X.env = (false, eval e X.env) :: starEach es X.env := by rfl) (hpl : (backTo pos (starEach es X.env)).any (·.1) = false := by rfl) :
    PE X (.Call (.Name x p) (e :: es) [] pos) (tE (ct X) W (eFn n Fm dws fa)) := by
  obtain ⟨f, fd, ps, dvs, ds, h1, h2, h3, h4, h5, h6⟩ := O.ex
  exact j_call h3 hr hg h1 h2 h4 h5 h6 tk ha hdb he hpl
end
section
variable {P : Program} {w : World} {K : PySem.W.Frag} {mg : Str → Option Value} {base : Heap}
/-- every parameter is given -/
theorem ok_of {x : Str} {st : Stmt} {f : Addr} {fd : FuncData} {ps : List Str} {k m : Nat} {Fm : FF} (D : Dn K mg x st [] [] f fd) (hF : FnOk P w K mg base (L2N.CX P w) k f fd ps (spF ⟨K, mg⟩ m Fm))
    (hb : ∀ (kV doc pm : Value) (an : Option Addr) (cdv ct : Value) (us : List Value), us.length = ps.length → bindArgs (PySem.W.fnOf x x (defArgs st) (defBody st) (defScope st) .none kV doc pm an cdv ct) ⟨us, []⟩ = pure (ps.zip us)) :
    Ok1 P w K mg base k x m [] Fm := by
  refine ⟨f, fd, ps, [], [], D.m, D.F.kp, hF, ?_, .nil, fun _ _ => rfl⟩
  obtain ⟨oc, od, dV, kV, doc, pm, an, cdv, ct, osl, e, lk, hcd, hD, _⟩ := D.F.ex
  subst e
  rcases hD with ⟨_, rfl⟩ | ⟨h, _⟩
  · exact .all (hb kV doc pm an cdv ct)
  · exact absurd rfl h
end
end J
namespace J
open PySem L2
/-! evaluation -/
/-- a step that is told, not seen through -/
theorem nr {α : Sort _} {a b : α} (h : a = b) : a = b := h
/-- a mark by which simp leaves a continuation alone -/
def Tg {γ : Type} (_ : γ) : Type := Unit
def tg {γ : Type} (k : γ) : Tg k := ()
section
variable {α β : Type}
def bnd (r : Res α) (k : α → VH → Res β) (_ : Tg k) : Res β := r.bind k
def sbd (r : Res α) (ρ : VSt) (k : α → VH → SR) (_ : Tg k) : SR := r.st ρ k
theorem bind_ok {a : α} {h : VH} {k : α → VH → Res β} : (Res.ok a h).bind k = k a h := nr rfl
theorem bnd_ok {a : α} {h : VH} {k : α → VH → Res β} {u : Tg k} : bnd (Res.ok a h) k u = k a h := nr rfl
theorem bnd_no {k : α → VH → Res β} {u : Tg k} : bnd (Res.no : Res α) k u = .no := nr rfl
theorem bnd_exc {x ns vs h} {k : α → VH → Res β} {u : Tg k} : bnd (Res.exc x ns vs h : Res α) k u = .exc x ns vs h := nr rfl
theorem sbd_ok {a : α} {h : VH} {ρ : VSt} {k : α → VH → SR} {u : Tg k} : sbd (Res.ok a h) ρ k u = k a h := nr rfl
theorem sbd_no {ρ : VSt} {k : α → VH → SR} {u : Tg k} : sbd (Res.no : Res α) ρ k u = .no := nr rfl
theorem sbd_exc {x ns vs h} {ρ : VSt} {k : α → VH → SR} {u : Tg k} : sbd (Res.exc x ns vs h : Res α) ρ k u = .exc x ns vs ρ h := nr rfl
end
def getV (o : Option (Option VV)) (h : VH) : Res VV := match o with
  | some (some v) => .ok v h
  | _ => .no
theorem getV_some {v : VV} {h : VH} : getV (some (some v)) h = .ok v h := nr rfl
section
variable {ρ : VSt} {h : VH}
theorem a_var {i : Nat} : eVar i ρ h = getV (ρ[i]?) h := nr rfl
theorem a_c {v : VV} : eC v ρ h = .ok v h := nr rfl
theorem a_bin {op a b} : eBin op a b ρ h = bnd (a ρ h) (fun v h1 => bnd (b ρ h1) (fun w h2 => lift (op h2 v w) h2) (tg _)) (tg _) := nr rfl
theorem a_un {op a} : eUn op a ρ h = bnd (a ρ h) (fun v h1 => lift (op h1 v) h1) (tg _) := nr rfl
theorem a_call {op a} : eCall op a ρ h = bnd (a ρ h) (fun v h1 => lift (op h1 v) h1) (tg _) := nr rfl
theorem a_nil : aNil ρ h = .ok [] h := nr rfl
theorem a_cons {a b} : aCons a b ρ h = bnd (a ρ h) (fun v h1 => bnd (b ρ h1) (fun w h2 => .ok (v :: w) h2) (tg _)) (tg _) := nr rfl
theorem a_tup {a} : eTup a ρ h = bnd (a ρ h) (fun vs h1 => if vs.any VV.isObj = true ∨ vs.length > SZ then .no else .ok (.tup vs) h1) (tg _) := nr rfl
theorem a_lst {a} : eLst a ρ h = bnd (a ρ h) (fun vs h1 => if vs.any VV.isObj = true ∨ vs.length > SZ then .no else .ok (.lst vs) h1) (tg _) := nr rfl
theorem a_lstO {a} : eLstO a ρ h = bnd (a ρ h) (fun vs h1 => if vs.any VV.isObj = true ∨ vs.length > SZ then .no else .ok (.obj h1.length) (h1 ++ [.fl vs])) (tg _) := nr rfl
def toB (v : VV) (h : VH) : Res Bool := match v with
  | .bl b => .ok b h
  | _ => .no
theorem toB_bl {b : Bool} : toB (.bl b) h = .ok b h := nr rfl
theorem a_val {a} : tVal a ρ h = bnd (a ρ h) toB (tg _) := nr rfl
theorem a_tand {a b} : tAnd a b ρ h = bnd (a ρ h) (fun v h1 => if v = true then b ρ h1 else .ok false h1) (tg _) := nr rfl
theorem a_tor {a b} : tOr a b ρ h = bnd (a ρ h) (fun v h1 => if v = true then .ok true h1 else b ρ h1) (tg _) := nr rfl
theorem a_tnot {a} : tNot a ρ h = bnd (a ρ h) (fun v h1 => .ok (!v) h1) (tg _) := nr rfl
theorem a_if {c a b} : eIf c a b ρ h = bnd (c ρ h) (fun v h1 => if v = true then a ρ h1 else b ρ h1) (tg _) := nr rfl
theorem a_and {a b} : eAnd a b ρ h = bnd (bnd (a ρ h) toB (tg _)) (fun v h1 => if v = true then b ρ h1 else .ok (.bl false) h1) (tg _) := by
  unfold eAnd
  cases a ρ h with
  | no => rfl
  | exc => rfl
  | ok v h1 =>
    simp only [bind_ok]
    cases v with
    | bl b => cases b <;> rfl
    | _ => rfl
theorem a_or {a b} : eOr a b ρ h = bnd (bnd (a ρ h) toB (tg _)) (fun v h1 => if v = true then .ok (.bl true) h1 else b ρ h1) (tg _) := by
  unfold eOr
  cases a ρ h with
  | no => rfl
  | exc => rfl
  | ok v h1 =>
    simp only [bind_ok]
    cases v with
    | bl b => cases b <;> rfl
    | _ => rfl
theorem a_not {a} : eNot a ρ h = bnd (bnd (a ρ h) toB (tg _)) (fun v h1 => .ok (.bl (!v)) h1) (tg _) := by
  unfold eNot
  cases a ρ h with
  | no => rfl
  | exc => rfl
  | ok v h1 =>
    simp only [bind_ok]
    cases v <;> rfl
theorem a_chain {o o' a b c} : eChain o o' a b c ρ h = bnd (a ρ h) (fun v h1 => bnd (b ρ h1) (fun w h2 => bnd (bnd (lift (o h2 v w) h2) toB (tg _)) (fun k h3 => if k = true then bnd (c ρ h3) (fun z h4 => lift (o' h4 w z) h4) (tg _) else .ok (.bl false) h3) (tg _)) (tg _)) (tg _) := by
  unfold eChain
  congr 1; funext v h1; congr 1; funext w h2
  cases lift (o h2 v w) h2 with
  | no => rfl
  | exc => rfl
  | ok v h1 =>
    simp only [bind_ok]
    cases v with
    | bl b => cases b <;> rfl
    | _ => rfl
theorem a_fn {n F dws a} : eFn n F dws a ρ h = bnd (a ρ h) (fun vs h1 => if (vs ++ dws).length = n then F (vs ++ dws) h1 else .no) (tg _) := nr rfl
def afterL (r : Res (List VV)) : Res VV := match r with
  | .ok vs h2 => .ok (.lst vs) h2
  | _ => .no
theorem afterL_ok {vs : List VV} : afterL (.ok vs h) = .ok (.lst vs) h := nr rfl
theorem a_lc' {own it b t e} : eLc own it b t e ρ h = bnd (it ρ h) (fun xs h1 => if xs.length > SZ then .no else afterL (lcGo b t e (wp ρ own) xs h1)) (tg _) := nr rfl
def seqItems (v : VV) (h : VH) : Res (List VV) := match v with
  | .lst xs => .ok xs h
  | .scr xs => .ok xs h
  | .tup xs => .ok xs h
  | .str s => .ok (signs s) h
  | _ => .no
theorem seqI_lst {xs} : seqItems (.lst xs) h = .ok xs h := nr rfl
theorem seqI_scr {xs} : seqItems (.scr xs) h = .ok xs h := nr rfl
theorem seqI_tup {xs} : seqItems (.tup xs) h = .ok xs h := nr rfl
theorem seqI_str {s} : seqItems (.str s) h = .ok (signs s) h := nr rfl
theorem a_seq {f} : iSeq f ρ h = bnd (f ρ h) seqItems (tg _) := nr rfl
def rng1 (v : VV) (h : VH) : Res (List VV) := match v with
  | .int n => if -(2 ^ 62) ≤ n ∧ n < 2 ^ 62 then .ok (rngV 0 n.toNat) h else .no
  | _ => .no
theorem rng1_int {n : Int} : rng1 (.int n) h = if -(2 ^ 62) ≤ n ∧ n < 2 ^ 62 then .ok (rngV 0 n.toNat) h else .no := nr rfl
theorem a_range1 {f} : iRange1 f ρ h = bnd (f ρ h) rng1 (tg _) := nr rfl
def zipI (v : List VV) (h : VH) : Res (List VV) := match v with
  | [.lst xs, .lst ys] => .ok (prs xs ys) h
  | [.tup xs, .tup ys] => .ok (prs xs ys) h
  | _ => .no
theorem zip_lst {xs ys} : zipI [.lst xs, .lst ys] h = .ok (prs xs ys) h := nr rfl
theorem zip_tup {xs ys} : zipI [.tup xs, .tup ys] h = .ok (prs xs ys) h := nr rfl
theorem a_zip {f} : iZip f ρ h = bnd (f ρ h) zipI (tg _) := nr rfl
theorem a_sl {op a lo hi} : eSl op a lo hi ρ h = bnd (a ρ h) (fun v h1 => bnd (lo ρ h1) (fun l h2 => bnd (hi ρ h2) (fun u h3 => lift (op h3 v l u) h3) (tg _)) (tg _)) (tg _) := nr rfl
theorem a_onone : oNone ρ h = .ok none h := nr rfl
def toO (v : VV) (h : VH) : Res (Option Int) := match v with
  | .int i => .ok (some i) h
  | _ => .no
theorem toO_int {i : Int} : toO (.int i) h = .ok (some i) h := nr rfl
theorem a_osome {a} : oSome a ρ h = bnd (a ρ h) toO (tg _) := nr rfl
theorem lift_some {v : VV} : lift (some v) h = .ok v h := nr rfl
theorem lift_none : lift none h = .no := nr rfl
/-! statements -/
def SR.thn (r : SR) (b : SF) (_ : Tg b) : SR := match r with
  | .nx ρ' h' => b ρ' h'
  | r => r
theorem thn_nx {b : SF} {u : Tg b} : (SR.nx ρ h).thn b u = b ρ h := nr rfl
theorem thn_ret {v} {b : SF} {u : Tg b} : (SR.ret v h).thn b u = .ret v h := nr rfl
theorem thn_no {b : SF} {u : Tg b} : (SR.no).thn b u = .no := nr rfl
theorem thn_brk {b : SF} {u : Tg b} : (SR.brk ρ h).thn b u = .brk ρ h := nr rfl
theorem thn_cnt {b : SF} {u : Tg b} : (SR.cnt ρ h).thn b u = .cnt ρ h := nr rfl
theorem thn_exc {x ns vs} {b : SF} {u : Tg b} : (SR.exc x ns vs ρ h).thn b u = .exc x ns vs ρ h := nr rfl
theorem s_skip : sSkip ρ h = .nx ρ h := nr rfl
theorem s_seq {a b} : sSeq a b ρ h = (a ρ h).thn b (tg _) := nr rfl
theorem s_set {i e} : sSet i e ρ h = sbd (e ρ h) ρ (fun v h1 => .nx (ρ.set i (some v)) h1) (tg _) := nr rfl
def onx (o : Option VSt) (h : VH) : SR := match o with
  | some ρ' => .nx ρ' h
  | none => .no
theorem onx_some {ρ' : VSt} : onx (some ρ') h = .nx ρ' h := nr rfl
theorem s_asg {e b} : sAsg e b ρ h = sbd (e ρ h) ρ (fun v h1 => onx (b v ρ) h1) (tg _) := nr rfl
theorem s_if {c a b} : sIf c a b ρ h = sbd (c ρ h) ρ (fun k h1 => if k = true then a ρ h1 else b ρ h1) (tg _) := nr rfl
theorem s_ret {e} : sRet e ρ h = sbd (e ρ h) ρ (fun v h1 => .ret v h1) (tg _) := nr rfl
theorem s_expr {e} : sExpr e ρ h = sbd (e ρ h) ρ (fun v h1 => .nx ρ h1) (tg _) := nr rfl
theorem s_for {it b body} : sFor it b body ρ h = sbd (it ρ h) ρ (fun xs h1 => forGo b body xs ρ h1) (tg _) := nr rfl
theorem for_nil {b body} : forGo b body [] ρ h = .nx ρ h := by rw [forGo]
def SR.trn (r : SR) (k : VSt → VH → SR) (_ : Tg k) : SR := match r with
  | .nx ρ2 h2 => k ρ2 h2
  | .cnt ρ2 h2 => k ρ2 h2
  | .brk ρ2 h2 => .nx ρ2 h2
  | r => r
theorem trn_nx {k} {u : Tg k} : (SR.nx ρ h).trn k u = k ρ h := nr rfl
def obd (o : Option VSt) (k : VSt → SR) (_ : Tg k) : SR := match o with
  | none => .no
  | some ρ' => k ρ'
theorem obd_some {ρ' : VSt} {k} {u : Tg k} : obd (some ρ') k u = k ρ' := nr rfl
theorem for_cons {b body x xs} : forGo b body (x :: xs) ρ h = obd (b x ρ) (fun ρ' => (body ρ' h).trn (fun ρ2 h2 => forGo b body xs ρ2 h2) (tg _)) (tg _) := by
  rw [forGo]
  cases b x ρ with
  | none => rfl
  | some ρ' => simp only [obd]; cases body ρ' h <;> rfl
theorem bNm_ap {i v} : bNm i v ρ = some (ρ.set i (some v)) := nr rfl
theorem s_par {i j a} : sPar i j a ρ h = sbd (a ρ h) ρ (fun vs h1 => match vs with
  | [v, w] => .nx ((ρ.set i (some v)).set j (some w)) h1
  | _ => .no) (tg _) := nr rfl
theorem s_par3 {i j l a} : sPar3 i j l a ρ h = sbd (a ρ h) ρ (fun vs h1 => match vs with
  | [u, v, w] => .nx (((ρ.set i (some u)).set j (some v)).set l (some w)) h1
  | _ => .no) (tg _) := nr rfl
def onh (o : Option VH) (ρ : VSt) : SR := match o with
  | some h4 => .nx ρ h4
  | none => .no
theorem onh_some {h' : VH} : onh (some h') ρ = .nx ρ h' := nr rfl
theorem s_setI {o i e} : sSetI o i e ρ h = sbd (e ρ h) ρ (fun v h1 => sbd (o ρ h1) ρ (fun ov h2 => sbd (i ρ h2) ρ (fun iv h3 => onh (setI h3 ov iv v) ρ) (tg _)) (tg _)) (tg _) := nr rfl
def SR.fin (r : SR) (n : Nat) : Res VV := match r with
  | .nx _ h' => .ok .non (trim n .non h')
  | .ret v h' => .ok v (trim n v h')
  | .exc x ns vs _ h' => .exc x ns vs h'
  | _ => .no
theorem fn_ap {k B vs} : fnF k B vs h = (B (vs.map some ++ List.replicate (k - vs.length) none) h).fin h.length := by
  unfold fnF
  cases B (vs.map some ++ List.replicate (k - vs.length) none) h <;> rfl
theorem fin_ret {v n} (hl : h.length = n) : (SR.ret v h).fin n = .ok v h := by
  show Res.ok v (trim n v h) = _
  unfold trim
  rw [if_pos hl]
/-! operations -/
theorem o_sub {i j : Int} : opSub h (.int i) (.int j) = some (.int (i - j)) := nr rfl
theorem o_add {i j : Int} : opAdd h (.int i) (.int j) = some (.int (i + j)) := nr rfl
theorem o_lt {i j : Int} : opLt h (.int i) (.int j) = some (.bl (decide (i < j))) := nr rfl
theorem o_le {i j : Int} : opLe h (.int i) (.int j) = some (.bl (decide (i ≤ j))) := nr rfl
theorem o_gt {i j : Int} : opGt h (.int i) (.int j) = some (.bl (decide (j < i))) := nr rfl
theorem o_ge {i j : Int} : opGe h (.int i) (.int j) = some (.bl (decide (j ≤ i))) := nr rfl
theorem o_neg {i : Int} : opNeg h (.int i) = some (.int (-i)) := nr rfl
theorem o_eqI {i j : Int} : opEq h (.int i) (.int j) = some (.bl (decide (i = j))) := nr rfl
theorem o_neI {i j : Int} : opNe h (.int i) (.int j) = some (.bl (!decide (i = j))) := nr rfl
theorem o_eqB {i j : Bool} : opEq h (.bl i) (.bl j) = some (.bl (decide (i = j))) := nr rfl
theorem o_neB {i j : Bool} : opNe h (.bl i) (.bl j) = some (.bl (!decide (i = j))) := nr rfl
theorem o_eqS {i j : Str} : opEq h (.str i) (.str j) = some (.bl (decide (i = j))) := nr rfl
theorem o_fdiv {i j : Int} (h0 : j ≠ 0) (h1 : j.natAbs.log2 < 9000) : opFdiv h (.int i) (.int j) = some (.int (i.fdiv j)) := by
  show (if _ then _ else _) = _; rw [if_pos ⟨h0, h1⟩]
theorem o_mod {i j : Int} (h0 : j ≠ 0) : opMod h (.int i) (.int j) = some (.int (i.fmod j)) := by
  show (if _ then _ else _) = _; rw [if_pos h0]
theorem o_mul {i j : Int} (h0 : mulOk i j = true) : opMul h (.int i) (.int j) = some (.int (i * j)) := by
  show (if _ then _ else _) = _; rw [if_pos h0]
theorem o_pow {i j : Int} (h0 : 0 ≤ j ∧ j ≤ 1000000 ∧ i.natAbs < 2 ^ 64) : opPow h (.int i) (.int j) = some (.int (i ^ j.toNat)) := by
  show (if _ then _ else _) = _; rw [if_pos h0]
theorem o_mul_r {i j : Int} (h0 : j.natAbs < 18446744073709551616) : opMul h (.int i) (.int j) = some (.int (i * j)) := by
  refine o_mul ?_
  unfold mulOk
  rw [decide_eq_true (p := j.natAbs < 2 ^ 64) (by omega)]; simp
theorem o_mul_l {i j : Int} (h0 : i.natAbs < 18446744073709551616) : opMul h (.int i) (.int j) = some (.int (i * j)) := by
  refine o_mul ?_
  unfold mulOk
  rw [decide_eq_true (p := i.natAbs < 2 ^ 64) (by omega)]; simp
end
/-! loops by what holds -/
inductive F2 {α β : Type} (P : α → β → Prop) : List α → List β → Prop
  | nil : F2 P [] []
  | cons {a b as bs} : P a b → F2 P as bs → F2 P (a :: as) (b :: bs)
theorem F2.len {α β : Type} {P : α → β → Prop} {as : List α} {bs : List β} (h : F2 P as bs) : as.length = bs.length := by
  induction h with
  | nil => rfl
  | cons _ _ ih => simp [ih]
theorem for_inv {b : VV → VSt → Option VSt} {body : SF} (I : VSt → VH → Prop) : ∀ {xs : List VV} {ρ : VSt} {h : VH}, I ρ h → (∀ x ∈ xs, ∀ ρ h, I ρ h → ∃ ρ' ρ2 h2, b x ρ = some ρ' ∧ body ρ' h = .nx ρ2 h2 ∧ I ρ2 h2) → ∃ ρ2 h2, forGo b body xs ρ h = .nx ρ2 h2 ∧ I ρ2 h2
  | [], ρ, h, hi, _ => ⟨ρ, h, rfl, hi⟩
  | x :: xs, ρ, h, hi, hx => by
    obtain ⟨ρ', ρ2, h2, e1, e2, hi2⟩ := hx x List.mem_cons_self ρ h hi
    obtain ⟨ρ3, h3, e3, hi3⟩ := for_inv I (xs := xs) hi2 fun y hy => hx y (List.mem_cons_of_mem _ hy)
    refine ⟨ρ3, h3, ?_, hi3⟩
    rw [for_cons, e1, obd_some, e2, trn_nx, e3]
end J
namespace J
open PySem L2
theorem ix_root {h : VH} {n : Nat} {xs : List VV} {k : Int} (e : h[n]? = some (.fl xs)) : opIx h (.obj n) (.int k) = atI xs k := by
  unfold opIx
  simp only [lstR, lstOf, e, Option.bind_some]
theorem set_root {h : VH} {n : Nat} {xs : List VV} {k : Int} {j : Nat} {v : VV} (e : h[n]? = some (.fl xs)) (ej : ixN xs.length k = some j) (hv : v.isObj = false) : setI h (.obj n) (.int k) v = some (h.set n (.fl (xs.set j v))) := by
  unfold setI
  simp only [e, ej, hv, Bool.false_eq_true, if_false]
theorem get_set {h : VH} {n : Nat} {v : VO} (hn : n < h.length) : (h.set n v)[n]? = some v := List.getElem?_set_self hn
theorem lt_of_get {α : Type} {h : List α} {n : Nat} {v : α} (e : h[n]? = some v) : n < h.length := (List.getElem?_eq_some_iff.mp e).1
section
variable {a b c d e : VV}
theorem at5_0 : atI [a, b, c, d, e] 0 = some a := nr rfl
theorem at5_1 : atI [a, b, c, d, e] 1 = some b := nr rfl
theorem at5_2 : atI [a, b, c, d, e] 2 = some c := nr rfl
theorem at5_3 : atI [a, b, c, d, e] 3 = some d := nr rfl
theorem at5_4 : atI [a, b, c, d, e] 4 = some e := nr rfl
end
theorem x_lst {h : VH} {xs : List VV} {k : Int} : opIx h (.lst xs) (.int k) = atI xs k := nr rfl
theorem x_tup {h : VH} {xs : List VV} {k : Int} : opIx h (.tup xs) (.int k) = atI xs k := nr rfl
theorem len_lst {h : VH} {xs : List VV} : cLen h [.lst xs] = some (.int xs.length) := nr rfl
theorem len_tup {h : VH} {xs : List VV} : cLen h [.tup xs] = some (.int xs.length) := nr rfl
theorem list_lst {h : VH} {xs : List VV} : cList h [.lst xs] = some (.lst xs) := nr rfl
theorem list_tup {h : VH} {xs : List VV} : cList h [.tup xs] = some (.lst xs) := nr rfl
theorem tuple_lst {h : VH} {xs : List VV} : cTuple h [.lst xs] = some (.tup xs) := nr rfl
theorem atI_in {xs : List VV} {k : Nat} {v : VV} (e : xs[k]? = some v) : atI xs (k : Int) = some v := atI_nat e
end J
namespace J
open PySem L2
theorem kit_NoneType_list : kitB "NoneType" "list" = some false := by decide +kernel
theorem isi_NoneType_list {h : VH} : cIsi h [.non, .ty "list"] = some (.bl false) := by show ((kitB "NoneType" "list").map VV.bl) = _; rw [kit_NoneType_list]; rfl
theorem kit_NoneType_tuple : kitB "NoneType" "tuple" = some false := by decide +kernel
theorem isi_NoneType_tuple {h : VH} : cIsi h [.non, .ty "tuple"] = some (.bl false) := by show ((kitB "NoneType" "tuple").map VV.bl) = _; rw [kit_NoneType_tuple]; rfl
theorem kit_NoneType_bool : kitB "NoneType" "bool" = some false := by decide +kernel
theorem isi_NoneType_bool {h : VH} : cIsi h [.non, .ty "bool"] = some (.bl false) := by show ((kitB "NoneType" "bool").map VV.bl) = _; rw [kit_NoneType_bool]; rfl
theorem kit_NoneType_int : kitB "NoneType" "int" = some false := by decide +kernel
theorem isi_NoneType_int {h : VH} : cIsi h [.non, .ty "int"] = some (.bl false) := by show ((kitB "NoneType" "int").map VV.bl) = _; rw [kit_NoneType_int]; rfl
theorem kit_NoneType_str : kitB "NoneType" "str" = some false := by decide +kernel
theorem isi_NoneType_str {h : VH} : cIsi h [.non, .ty "str"] = some (.bl false) := by show ((kitB "NoneType" "str").map VV.bl) = _; rw [kit_NoneType_str]; rfl
theorem kit_bool_list : kitB "bool" "list" = some false := by decide +kernel
theorem isi_bool_list {h : VH} {b : Bool} : cIsi h [(.bl b), .ty "list"] = some (.bl false) := by show ((kitB "bool" "list").map VV.bl) = _; rw [kit_bool_list]; rfl
theorem kit_bool_tuple : kitB "bool" "tuple" = some false := by decide +kernel
theorem isi_bool_tuple {h : VH} {b : Bool} : cIsi h [(.bl b), .ty "tuple"] = some (.bl false) := by show ((kitB "bool" "tuple").map VV.bl) = _; rw [kit_bool_tuple]; rfl
theorem kit_bool_bool : kitB "bool" "bool" = some true := by decide +kernel
theorem isi_bool_bool {h : VH} {b : Bool} : cIsi h [(.bl b), .ty "bool"] = some (.bl true) := by show ((kitB "bool" "bool").map VV.bl) = _; rw [kit_bool_bool]; rfl
theorem kit_bool_int : kitB "bool" "int" = some true := by decide +kernel
theorem isi_bool_int {h : VH} {b : Bool} : cIsi h [(.bl b), .ty "int"] = some (.bl true) := by show ((kitB "bool" "int").map VV.bl) = _; rw [kit_bool_int]; rfl
theorem kit_bool_str : kitB "bool" "str" = some false := by decide +kernel
theorem isi_bool_str {h : VH} {b : Bool} : cIsi h [(.bl b), .ty "str"] = some (.bl false) := by show ((kitB "bool" "str").map VV.bl) = _; rw [kit_bool_str]; rfl
theorem kit_int_list : kitB "int" "list" = some false := by decide +kernel
theorem isi_int_list {h : VH} {i : Int} : cIsi h [(.int i), .ty "list"] = some (.bl false) := by show ((kitB "int" "list").map VV.bl) = _; rw [kit_int_list]; rfl
theorem kit_int_tuple : kitB "int" "tuple" = some false := by decide +kernel
theorem isi_int_tuple {h : VH} {i : Int} : cIsi h [(.int i), .ty "tuple"] = some (.bl false) := by show ((kitB "int" "tuple").map VV.bl) = _; rw [kit_int_tuple]; rfl
theorem kit_int_bool : kitB "int" "bool" = some false := by decide +kernel
theorem isi_int_bool {h : VH} {i : Int} : cIsi h [(.int i), .ty "bool"] = some (.bl false) := by show ((kitB "int" "bool").map VV.bl) = _; rw [kit_int_bool]; rfl
theorem kit_int_int : kitB "int" "int" = some true := by decide +kernel
theorem isi_int_int {h : VH} {i : Int} : cIsi h [(.int i), .ty "int"] = some (.bl true) := by show ((kitB "int" "int").map VV.bl) = _; rw [kit_int_int]; rfl
theorem kit_int_str : kitB "int" "str" = some false := by decide +kernel
theorem isi_int_str {h : VH} {i : Int} : cIsi h [(.int i), .ty "str"] = some (.bl false) := by show ((kitB "int" "str").map VV.bl) = _; rw [kit_int_str]; rfl
theorem kit_str_list : kitB "str" "list" = some false := by decide +kernel
theorem isi_str_list {h : VH} {x : Str} : cIsi h [(.str x), .ty "list"] = some (.bl false) := by show ((kitB "str" "list").map VV.bl) = _; rw [kit_str_list]; rfl
theorem kit_str_tuple : kitB "str" "tuple" = some false := by decide +kernel
theorem isi_str_tuple {h : VH} {x : Str} : cIsi h [(.str x), .ty "tuple"] = some (.bl false) := by show ((kitB "str" "tuple").map VV.bl) = _; rw [kit_str_tuple]; rfl
theorem kit_str_bool : kitB "str" "bool" = some false := by decide +kernel
theorem isi_str_bool {h : VH} {x : Str} : cIsi h [(.str x), .ty "bool"] = some (.bl false) := by show ((kitB "str" "bool").map VV.bl) = _; rw [kit_str_bool]; rfl
theorem kit_str_int : kitB "str" "int" = some false := by decide +kernel
theorem isi_str_int {h : VH} {x : Str} : cIsi h [(.str x), .ty "int"] = some (.bl false) := by show ((kitB "str" "int").map VV.bl) = _; rw [kit_str_int]; rfl
theorem kit_str_str : kitB "str" "str" = some true := by decide +kernel
theorem isi_str_str {h : VH} {x : Str} : cIsi h [(.str x), .ty "str"] = some (.bl true) := by show ((kitB "str" "str").map VV.bl) = _; rw [kit_str_str]; rfl
theorem kit_tuple_list : kitB "tuple" "list" = some false := by decide +kernel
theorem isi_tuple_list {h : VH} {xs : List VV} : cIsi h [(.tup xs), .ty "list"] = some (.bl false) := by show ((kitB "tuple" "list").map VV.bl) = _; rw [kit_tuple_list]; rfl
theorem kit_tuple_tuple : kitB "tuple" "tuple" = some true := by decide +kernel
theorem isi_tuple_tuple {h : VH} {xs : List VV} : cIsi h [(.tup xs), .ty "tuple"] = some (.bl true) := by show ((kitB "tuple" "tuple").map VV.bl) = _; rw [kit_tuple_tuple]; rfl
theorem kit_tuple_bool : kitB "tuple" "bool" = some false := by decide +kernel
theorem isi_tuple_bool {h : VH} {xs : List VV} : cIsi h [(.tup xs), .ty "bool"] = some (.bl false) := by show ((kitB "tuple" "bool").map VV.bl) = _; rw [kit_tuple_bool]; rfl
theorem kit_tuple_int : kitB "tuple" "int" = some false := by decide +kernel
theorem isi_tuple_int {h : VH} {xs : List VV} : cIsi h [(.tup xs), .ty "int"] = some (.bl false) := by show ((kitB "tuple" "int").map VV.bl) = _; rw [kit_tuple_int]; rfl
theorem kit_tuple_str : kitB "tuple" "str" = some false := by decide +kernel
theorem isi_tuple_str {h : VH} {xs : List VV} : cIsi h [(.tup xs), .ty "str"] = some (.bl false) := by show ((kitB "tuple" "str").map VV.bl) = _; rw [kit_tuple_str]; rfl
theorem kit_list_list : kitB "list" "list" = some true := by decide +kernel
theorem isi_list_list {h : VH} {xs : List VV} : cIsi h [(.lst xs), .ty "list"] = some (.bl true) := by show ((kitB "list" "list").map VV.bl) = _; rw [kit_list_list]; rfl
theorem kit_list_tuple : kitB "list" "tuple" = some false := by decide +kernel
theorem isi_list_tuple {h : VH} {xs : List VV} : cIsi h [(.lst xs), .ty "tuple"] = some (.bl false) := by show ((kitB "list" "tuple").map VV.bl) = _; rw [kit_list_tuple]; rfl
theorem kit_list_bool : kitB "list" "bool" = some false := by decide +kernel
theorem isi_list_bool {h : VH} {xs : List VV} : cIsi h [(.lst xs), .ty "bool"] = some (.bl false) := by show ((kitB "list" "bool").map VV.bl) = _; rw [kit_list_bool]; rfl
theorem kit_list_int : kitB "list" "int" = some false := by decide +kernel
theorem isi_list_int {h : VH} {xs : List VV} : cIsi h [(.lst xs), .ty "int"] = some (.bl false) := by show ((kitB "list" "int").map VV.bl) = _; rw [kit_list_int]; rfl
theorem kit_list_str : kitB "list" "str" = some false := by decide +kernel
theorem isi_list_str {h : VH} {xs : List VV} : cIsi h [(.lst xs), .ty "str"] = some (.bl false) := by show ((kitB "list" "str").map VV.bl) = _; rw [kit_list_str]; rfl
theorem all_true {h : VH} {n : Nat} : cAll h [.lst (List.replicate n (.bl true))] = some (.bl true) := by
  have : ∀ n, blsOf (List.replicate n (.bl true)) = some (List.replicate n true) := by
    intro n
    induction n with
    | zero => rfl
    | succ n ih => rw [List.replicate_succ, blsOf, ih]; rfl
  show ((blsOf (List.replicate n (.bl true))).map fun ns => VV.bl (ns.all id)) = _
  rw [this]
  simp
theorem lc_const {b : VV → VSt → Option VSt} {t : TF} {e : EF} {ρ : VSt} {h : VH} {v : VV} (hv : v.isObj = false) : ∀ {xs : List VV}, (∀ x ∈ xs, ∃ ρ', b x ρ = some ρ' ∧ t ρ' h = .ok true h ∧ e ρ' h = .ok v h) → lcGo b t e ρ xs h = .ok (List.replicate xs.length v) h
  | [], _ => rfl
  | x :: xs, hx => by
    obtain ⟨ρ', h1, h2, h3⟩ := hx x List.mem_cons_self
    rw [lcGo, h1]
    simp only [h2, bind_ok, h3, hv, Bool.false_eq_true, if_false, if_true, lc_const hv fun y hy => hx y (List.mem_cons_of_mem _ hy), List.length_cons, List.replicate_succ]
theorem prs_same : ∀ xs : List VV, prs xs xs = xs.map fun x => .tup [x, x]
  | [] => rfl
  | x :: xs => by rw [prs, prs_same xs]; rfl
mutual
def dep : VV → Nat
  | .tup xs => deps xs + 1
  | .lst xs => deps xs + 1
  | _ => 0
def deps : List VV → Nat
  | [] => 0
  | x :: xs => max (dep x) (deps xs)
end
mutual
def wide : VV → Nat
  | .tup xs => max xs.length (wides xs)
  | .lst xs => max xs.length (wides xs)
  | _ => 0
def wides : List VV → Nat
  | [] => 0
  | x :: xs => max (wide x) (wides xs)
end
theorem mem_deps : ∀ {xs : List VV} {x : VV}, x ∈ xs → dep x ≤ deps xs ∧ wide x ≤ wides xs
  | [], _, h => by simp at h
  | y :: ys, x, h => by
    rw [deps, wides]
    rcases List.mem_cons.mp h with rfl | h
    · omega
    · have := mem_deps h; omega
theorem mem_isDs : ∀ {xs : List VV} {x : VV}, isDs xs = true → x ∈ xs → isD x = true
  | [], _, _, h => by simp at h
  | y :: ys, x, d, h => by
    rw [isDs, Bool.and_eq_true] at d
    rcases List.mem_cons.mp h with rfl | h
    · exact d.1
    · exact mem_isDs d.2 h
end J
namespace J
open PySem L2
theorem blsOf_map : ∀ l : List Bool, blsOf (l.map VV.bl) = some l
  | [] => rfl
  | x :: xs => by rw [List.map_cons, blsOf, blsOf_map xs]; rfl
theorem all_bls {h : VH} {l : List Bool} : cAll h [.lst (l.map VV.bl)] = some (.bl (l.all id)) := by
  show (blsOf (l.map VV.bl)).map (fun ns => VV.bl (ns.all id)) = _
  rw [blsOf_map]; rfl
theorem isDs_ints : ∀ l : List Int, isDs (l.map VV.int) = true
  | [] => by simp [isDs]
  | x :: xs => by simp [isDs, isD, isDs_ints xs]
/-- == of lists of ints -/
theorem toDs_ints : ∀ l : List Int, toDs (l.map VV.int) = l.map PyData.int
  | [] => by simp [toDs]
  | x :: xs => by simp [toDs, toD, toDs_ints xs]
theorem eqvAll_ints : ∀ l m : List Int, PyData.eqvAll (l.map PyData.int) (m.map PyData.int) = decide (l = m)
  | [], [] => by simp [PyData.eqvAll]
  | [], y :: ys => by simp [PyData.eqvAll]
  | x :: xs, [] => by simp [PyData.eqvAll]
  | x :: xs, y :: ys => by
    simp only [List.map_cons, PyData.eqvAll, PyData.eqv, eqvAll_ints xs ys]
    by_cases h1 : x = y <;> by_cases h2 : xs = ys <;> simp [h1, h2]
theorem canLay_ints : ∀ l : List Int, PyData.canLayAll0 (l.map PyData.int) = true
  | [] => by simp [PyData.canLayAll0]
  | x :: xs => by simp [PyData.canLayAll0, PyData.canLay0, canLay_ints xs]
end J
namespace J
open PySem L2
theorem depth_ints : ∀ l : List Int, PyData.depthAll (l.map PyData.int) = 0
  | [] => by simp [PyData.depthAll]
  | x :: xs => by simp [PyData.depthAll, PyData.depth, depth_ints xs]
end J
namespace J
open PySem L2
end J
namespace J
open PySem L2
open PyProof.Rows (envOfC)
/-! loops of a comprehension's block, whatever a turn does -/
/-- what the slots knew they still know -/
def Knows (σ σ' : St) : Prop := σ.length = σ'.length ∧ ∀ (i : Nat) (v : V), σ[i]? = some (some v) → σ'[i]? = some (some v)
theorem Knows.refl {σ : St} : Knows σ σ := ⟨rfl, fun _ _ h => h⟩
end J
namespace J
open PySem L2
open PyProof.Rows (envOfC)
/-! an accumulator that grows by turns -/
def accGo {α : Type} (b : VV → VSt → Option VSt) (stp : VSt → VH → α → Res α) (ρ : VSt) : List VV → VH → α → Res α
  | [], h, a => .ok a h
  | x :: xs, h, a => match b x ρ with
    | none => .no
    | some ρ' => (stp ρ' h a).bind fun a' h' => accGo b stp ρ xs h' a'
end J
namespace J
open PySem L2
open PyProof.Rows (envOfC)
open PpSet (compTurn_set)
def noX {α : Type} : Res α → Res α
  | .ok a h => .ok a h
  | _ => .no
end J
namespace J
open PySem L2
open PyProof.Rows (envOfC)
/-! len({e for x in xs}), ints -/
def stSet (fe : EF) : VSt → VH → List Int → Res (List Int) := fun ρ h a => (fe ρ h).bind fun v h1 => match v with
  | .int i => if a.length ≥ 4000 then .no else .ok (if i ∈ a then a else a ++ [i]) h1
  | _ => .no
section
variable {X : Cx} {W : WX}
def eLenSc (own : List Nat) (it : AF) (b : VV → VSt → Option VSt) (fe : EF) : EF := fun ρ h => (it ρ h).bind fun xs h1 => (noX (accGo b (stSet fe) (wp ρ own) xs h1 [])).bind fun a h2 => .ok (.int a.length) h2
end
end J
namespace J
open PySem L2
open PyProof.Rows (envOfC)
/-! dicts whose keys are tuples -/
def keyA : VV → Option Key
  | .int i => some (.inl i)
  | .str x => some (.inr x)
  | _ => none
def keyL : List VV → Option (List Key)
  | [] => some []
  | x :: xs => (keyA x).bind fun a => (keyL xs).map fun r => a :: r
def keyV : VV → Option (List Key)
  | .tup xs => keyL xs
  | _ => none
theorem keyL_vals {c : Ct} {z : Addr → Prop} {H : Hp} : ∀ {xs : List VV} {us : List V} {k : List Key}, RVs c z H xs us → keyL xs = some k → us = k.map kV
  | [], us, k, r, e => by
    cases e
    rw [RVs] at r
    rw [r]; rfl
  | x :: xs, us, k, r, e => by
    rw [RVs] at r
    obtain ⟨u, q, rfl, a, b⟩ := r
    unfold keyL at e
    obtain ⟨y, e1, e2⟩ := Option.bind_eq_some_iff.mp e
    obtain ⟨l, e3, e4⟩ := Option.map_eq_some_iff.mp e2
    subst e4
    rw [keyL_vals b e3, List.map_cons]
    congr 1
    cases x with
    | int i => cases e1; rw [RV] at a; exact a
    | str i => cases e1; rw [RV] at a; exact a
    | _ => cases e1
theorem keyV_at {c : Ct} {g : Gh} {H : Hp} {v : VV} {u : V} {k : List Key} (r : RT c g H v u) (e : keyV v = some k) : ∃ b, u = .ref b ∧ H b = some (.tup (k.map kV)) := by
  cases v with
  | tup xs =>
    obtain ⟨p, us, rfl, ta, rs⟩ := tup_get r
    refine ⟨p, rfl, ?_⟩
    rw [← keyL_vals rs e]
    exact ta
  | _ => cases e
def hasK (ks : List (List Key)) (k : List Key) : Bool := ks.any fun x => decide (x = k)
/-- in its place, or at the end -/
def putVs {α : Type} (ks : List (List Key)) (vs : List α) (k : List Key) (v : α) : List α := if hasK ks k = true then (ks.zip vs).map (fun p => if p.1 = k then v else p.2) else vs ++ [v]
def putKs (ks : List (List Key)) (k : List Key) : List (List Key) := if hasK ks k = true then ks else ks ++ [k]
theorem RVs.put {c : Ct} {z : Addr → Prop} {H : Hp} {ks : List (List Key)} {vs : List VV} {us : List V} {k : List Key} {v : VV} {u : V} (hl : ks.length = us.length) (r : RVs c z H vs us) (q : RV c z H v u) : RVs c z H (putVs ks vs k v) (putVs ks us k u) := by
  unfold putVs
  split
  · rename_i m
    clear m
    induction ks generalizing vs us with
    | nil => simp only [List.zip_nil_left, List.map_nil]; exact RVs.nil
    | cons x xs ih =>
      cases us with
      | nil => cases hl
      | cons w us =>
        cases vs with
        | nil => rw [RVs] at r; cases r
        | cons y ys =>
          rw [RVs] at r
          obtain ⟨a1, a2, e, a3, a4⟩ := r
          cases e
          simp only [List.zip_cons_cons, List.map_cons]
          refine RVs.cons ?_ (ih (Nat.succ.inj hl) a4)
          by_cases e : x = k
          · rw [if_pos e, if_pos e]; exact q
          · rw [if_neg e, if_neg e]; exact a3
  · exact RVs.app r (RVs.one q)
end J
namespace J
open PySem L2
open PyProof.Rows (envOfC)
/-! {k: v for x in xs for y in ys}, keys tuples -/
abbrev DA := List (List Key) × List VV
def stDict (fk fv : EF) : VSt → VH → DA → Res DA := fun ρ h a => (fk ρ h).bind fun kv h1 => (fv ρ h1).bind fun v h2 => match keyV kv with
  | some k => if v.isObj = true ∨ a.1.length ≥ SZ then .no else .ok (putKs a.1 k, putVs a.1 a.2 k v) h2
  | none => .no
def stIn {α : Type} (it1 : AF) (b1 : VV → VSt → Option VSt) (vs1 : List Nat) (stp : VSt → VH → α → Res α) : VSt → VH → α → Res α := fun ρ h a => (it1 ρ h).bind fun xs h1 => accGo b1 stp (wp ρ vs1) xs h1 a
def RaD (c : Ct) (_ : Addr) (g : Gh) (H : Hp) (a : DA) (o : HO) : Prop := ∃ us, o = .dT (a.1.zip us) ∧ a.1.length = us.length ∧ RVs c g.fz H a.2 us
theorem RaD.nt {c : Ct} {D : Addr} {g : Gh} {H : Hp} {a : DA} {o : HO} (h : RaD c D g H a o) (ps : Array Value) : o ≠ .tbl ps := by
  obtain ⟨us, rfl, _⟩ := h
  intro z
  cases z
theorem RaD.stp {c : Ct} {D : Addr} {g g' : Gh} {H H' : Hp} {a : DA} {o : HO} (s : Stp g H g' H') (h : RaD c D g H a o) : RaD c D g' H' a o := by
  obtain ⟨us, e, l, r⟩ := h
  exact ⟨us, e, l, s.rvs r⟩
end J
namespace J
open PySem L2
open PyProof.Rows (envOfC)
section
variable {X : Cx} {W : WX}
def eDc2 (own : List Nat) (it : AF) (b : VV → VSt → Option VSt) (it1 : AF) (b1 : VV → VSt → Option VSt) (vs1 : List Nat) (fk fv : EF) : EF := fun ρ h => (it ρ h).bind fun xs h1 => (noX (accGo b (stIn it1 b1 vs1 (stDict fk fv)) (wp ρ own) xs h1 ([], []))).bind fun a h2 => .ok (.dT a.1 a.2) h2
end
end J
namespace J
open PySem PySem.Spec L2 PyProof.Rows
/-! the tables of larger sets: the masks up to 511 -/
structure Round (m : Nat) : Prop where
  odd : m % 2 = 1
  low : m ≤ 511
  met : ∀ (h : Int) (j : Nat), j ≤ m → ∃ n, n ≤ m + 12 ∧ runI m (SetTable.bits h) n = j
theorem round_of {m : Nat} (hm : MaskOk m) : Round m := ⟨mask_odd hm, by rcases hm with e | e | e <;> omega, fun h j hj => run_meets hm h hj⟩
/-- 0, 1, 6, 31 .. -/
def orb : Nat → Nat → List Nat
  | 0, _ => []
  | n + 1, x => x :: orb n ((x * 5 + 1) % 512)
theorem orb_len : ∀ (n x : Nat), (orb n x).length = n
  | 0, _ => rfl
  | n + 1, x => congrArg Nat.succ (orb_len n _)
theorem orb_get : ∀ (n a k : Nat), k < n → (orb n (lcgN 511 a))[k]? = some (lcgN 511 (a + k))
  | n + 1, a, 0, _ => rfl
  | n + 1, a, k + 1, h => by
    have e := orb_get n (a + 1) k (by omega)
    rw [show a + 1 + k = a + (k + 1) by omega] at e
    exact e
theorem orb_all : ((List.range 512).all fun j => (orb 512 0).contains j) = true := by decide +kernel
theorem orb_back : lcgN 511 512 = 0 := by decide +kernel
theorem lcg_at {j : Nat} (hj : j ≤ 511) : ∃ b, b ≤ 511 ∧ lcgN 511 b = j := by
  have hm : j ∈ orb 512 (lcgN 511 0) := List.contains_iff_mem.mp (List.all_eq_true.mp orb_all j (List.mem_range.mpr (by omega)))
  obtain ⟨b, hb⟩ := List.mem_iff_getElem?.mp hm
  have lb : b < 512 := by
    have := (List.getElem?_eq_some_iff.mp hb).1
    rw [orb_len] at this
    exact this
  rw [orb_get 512 0 b lb, Nat.zero_add] at hb
  exact ⟨b, by omega, Option.some.inj hb⟩
theorem lcg_again (k : Nat) : lcgN 511 (512 + k) = lcgN 511 k := by
  rw [← lcgN_add, orb_back]
  have := lcgN_add 511 0 k
  rw [Nat.zero_add] at this
  exact this
theorem round511 : Round 511 where
  odd := rfl
  low := Nat.le_refl _
  met := fun h j hj => by
    obtain ⟨a, ha, ea⟩ := lcg_at (runI_le 511 (SetTable.bits h) 12)
    obtain ⟨b, hb, eb⟩ := lcg_at hj
    obtain ⟨k, hk, e⟩ : ∃ k, k ≤ 511 ∧ lcgN 511 (a + k) = j := by
      by_cases c : a ≤ b
      · exact ⟨b - a, by omega, by rw [show a + (b - a) = b by omega]; exact eb⟩
      · exact ⟨512 + b - a, by omega, by rw [show a + (512 + b - a) = 512 + b by omega, lcg_again]; exact eb⟩
    exact ⟨12 + k, by omega, by rw [runI_tail (bits_lt h), ← ea, lcgN_add]; exact e⟩
theorem way_in (m : Nat) (h : Int) (k : Nat) : way m h k ≤ m := by
  have a := runEnd_bd (m := m) (i := SetTable.bits h % (m + 1)) (Nat.le_of_lt_succ (Nat.mod_lt _ (Nat.succ_pos _)))
  have b := nth_in (m := m) k (runAt m (SetTable.bits h % (m + 1)) (SetTable.bits h)) (by
    show SetTable.bits h % (m + 1) + (SetTable.runEnd m (SetTable.bits h % (m + 1)) - SetTable.bits h % (m + 1)) ≤ m
    omega)
  exact Nat.le_trans (Nat.le_add_right _ _) b
/-- a table: each slot with the hash that sits there -/
structure Laid (t : SetTable) (hs : List Int) : Prop where
  up : Ris t.place.toList
  bare : t.dummies = #[]
  many : t.place.toList.length = hs.length
  rnd : Round t.mask
  under : ∀ x ∈ t.place.toList, x ≤ t.mask
  found : ∀ q ∈ t.place.toList.zip hs, ∃ k, way t.mask q.2 k = q.1 ∧ ∀ d, d < k → way t.mask q.2 d ∈ t.place.toList
section
variable {t : SetTable} {hs : List Int} {h : Int} {K : Nat}
theorem Laid.first (T : Laid t hs) (hl : hs.length ≤ t.mask) (h : Int) : ∃ K, K < 10 * SetTable.turns t.mask ∧ way t.mask h K ∉ t.place.toList ∧ ∀ d, d < K → way t.mask h d ∈ t.place.toList := by
  obtain ⟨j, hj, hn⟩ := st_missing t.place.toList (t.mask + 1) (by rw [T.many]; omega)
  obtain ⟨n, hn1, e⟩ := T.rnd.met h j (by omega)
  obtain ⟨k, hk, e2⟩ := run_nth t.mask (SetTable.bits h) n
  have ek : way t.mask h k = j := (congrArg SetTable.Probe.j e2).trans e
  obtain ⟨K, a, b, c⟩ := st_least (p := fun k => way t.mask h k ∉ t.place.toList) k (by
    show way t.mask h k ∉ _
    rw [ek]; exact hn)
  exact ⟨K, by unfold SetTable.turns; omega, b, fun d hd => Classical.not_not.mp (c d hd)⟩
theorem Laid.ahead (T : Laid t hs) {i j : Nat} (hK : way t.mask h K ∉ t.place.toList) (hi : hs[i]? = some h) (hj : t.place.toList[i]? = some j) : ∃ d, d < K ∧ way t.mask h d = j := by
  obtain ⟨k, e, b⟩ := T.found (j, h) (List.mem_of_getElem? (i := i) (List.getElem?_zip_eq_some.mpr ⟨hj, hi⟩))
  refine ⟨k, Nat.lt_of_not_le fun c => hK ?_, e⟩
  rcases Nat.eq_or_lt_of_le c with z | z
  · rw [z, show way t.mask h k = j from e]; exact List.mem_of_getElem? hj
  · exact b K z
theorem zip_in {α β : Type} {A : List α} {B : List β} {p : Nat} {x : α} {y : β} (e : A.length = B.length) {q : α × β} (hq : q ∈ (A.take p ++ x :: A.drop p).zip (B.take p ++ y :: B.drop p)) : q = (x, y) ∨ q ∈ A.zip B := by
  have el : (A.take p).length = (B.take p).length := by rw [List.length_take, List.length_take, e]
  have es : A.zip B = (A.take p).zip (B.take p) ++ (A.drop p).zip (B.drop p) := by
    rw [← List.zip_append el, List.take_append_drop, List.take_append_drop]
  rw [List.zip_append el, List.zip_cons_cons] at hq
  rw [es]
  rcases List.mem_append.mp hq with z | z
  · exact .inr (List.mem_append_left _ z)
  · rcases List.mem_cons.mp z with z | z
    · exact .inl z
    · exact .inr (List.mem_append_right _ z)
/-- one more in its slot -/
theorem Laid.put (T : Laid t hs) {j : Nat} (ej : way t.mask h K = j) (hK : j ∉ t.place.toList) (hb : ∀ d, d < K → way t.mask h d ∈ t.place.toList) :
    Laid (t.put j).1 (hs.take (SetTable.below t.place j) ++ h :: hs.drop (SetTable.below t.place j)) ∧ (t.put j).1.fill = hs.length + 1 := by
  have cut := (below_cut T.up j).1
  have pl : SetTable.below t.place j ≤ t.place.toList.length := by rw [Array.length_toList]; exact cut
  have ph : SetTable.below t.place j ≤ hs.length := by rw [← T.many]; exact pl
  have new := put_place t j
  have more : ∀ {x : Nat}, x ∈ t.place.toList → x ∈ (t.put j).1.place.toList := fun {x} z => by rw [new]; exact mem_ins.mpr (.inr z)
  have len : (t.put j).1.place.toList.length = hs.length + 1 := by rw [new, len_ins _ pl, T.many]
  refine ⟨⟨ris_insert T.up fun z => hK (List.mem_of_getElem? (by rw [Array.getElem?_toList]; exact z)), put_dm T.bare j, by rw [len_ins _ ph]; exact len, T.rnd, fun x hx => ?_, fun q hq => ?_⟩, ?_⟩
  · rw [new] at hx
    rcases mem_ins.mp hx with z | z
    · rw [z, ← ej]; exact way_in _ _ _
    · exact T.under x z
  · rw [new] at hq
    rcases zip_in T.many hq with z | z
    · subst z
      exact ⟨K, ej, fun d hd => more (hb d hd)⟩
    · obtain ⟨k, e, f⟩ := T.found q z
      exact ⟨k, e, fun d hd => more (f d hd)⟩
  · have f : (t.put j).1.fill = (t.put j).1.place.toList.length + (t.put j).1.dummies.size := by rw [Array.length_toList]; rfl
    rw [f, len, put_dm T.bare j]; rfl
end
/-! all laid anew -/
structure Seat (m : Nat) (hs : List Int) (n : Nat) (ow : Array (Option Nat)) : Prop where
  size : ow.size = m + 1
  sit : ∀ j k, j ≤ m → oAt ow j = some k → k < n ∧ ∃ K, way m (hs.getD k 0) K = j ∧ ∀ d, d < K → oAt ow (way m (hs.getD k 0) d) ≠ none
  each : ∀ k, k < n → ∃ j, j ≤ m ∧ oAt ow j = some k
  once : ∀ i j k, i ≤ m → j ≤ m → oAt ow i = some k → oAt ow j = some k → i = j
section
variable {m n : Nat} {hs : List Int} {ow : Array (Option Nat)}
theorem Seat.room (S : Seat m hs n ow) (hn : n ≤ m) : ∃ j, j ≤ m ∧ oAt ow j = none := by
  refine Classical.byContradiction fun c => ?_
  have full : ∀ j, j ≤ m → ∃ k, oAt ow j = some k := fun j hj => by
    cases e : oAt ow j with
    | none => exact absurd ⟨j, hj, e⟩ c
    | some k => exact ⟨k, rfl⟩
  have nd : ((List.range (m + 1)).map fun j => (oAt ow j).getD 0).Nodup := by
    unfold List.Nodup
    rw [List.pairwise_map]
    refine List.Pairwise.imp_of_mem (fun {a b} ha hb ne z => ne ?_) (List.nodup_range (n := m + 1))
    have ha := List.mem_range.mp ha
    have hb := List.mem_range.mp hb
    obtain ⟨k, ek⟩ := full a (by omega)
    obtain ⟨l, el⟩ := full b (by omega)
    rw [ek, el] at z
    have z : k = l := z
    subst z
    exact S.once a b k (by omega) (by omega) ek el
  have q := nat_nodup_len _ (List.range n) nd fun x hx => by
    obtain ⟨j, hj, rfl⟩ := List.mem_map.mp hx
    have hj := List.mem_range.mp hj
    obtain ⟨k, ek⟩ := full j (by omega)
    rw [ek]
    exact List.mem_range.mpr (S.sit j k (by omega) ek).1
  rw [List.length_map, List.length_range, List.length_range] at q
  omega
theorem Seat.next (R : Round m) (S : Seat m hs n ow) (hn : n ≤ m) {h : Int} (eh : hs.getD n 0 = h) :
    ∃ j, SetTable.layClean.free m ow (SetTable.turns m) (SetTable.bits h % (m + 1)) (SetTable.bits h) = some j ∧ Seat m hs (n + 1) (ow.setIfInBounds j (some n)) := by
  obtain ⟨j0, h0, e0⟩ := S.room hn
  obtain ⟨r, hr, er⟩ := R.met h j0 h0
  have eo : way m h (off m (SetTable.bits h % (m + 1)) (SetTable.bits h) r) = j0 := by
    show (nth m (runAt m (SetTable.bits h % (m + 1)) (SetTable.bits h)) _).j = j0
    rw [nth_off, itL_run]
    exact er
  obtain ⟨K, k1, k2, k3⟩ := st_least (p := fun k => oAt ow (way m h k) = none) _ (show oAt ow (way m h (off m (SetTable.bits h % (m + 1)) (SetTable.bits h) r)) = none by rw [eo]; exact e0)
  have busy : ∀ d, d < K → (oAt ow (way m h d)).isNone = false := fun d hd => by
    cases z : oAt ow (way m h d) with
    | none => exact absurd z (k3 d hd)
    | some _ => rfl
  have ef := free_spec m ow (SetTable.turns m) r (SetTable.bits h % (m + 1)) (SetTable.bits h) K (by unfold SetTable.turns; omega) k1 busy (by
    have z : oAt ow (way m h K) = none := k2
    show (oAt ow (way m h K)).isNone = true
    rw [z]; rfl)
  obtain ⟨j, ej⟩ : ∃ j, way m h K = j := ⟨_, rfl⟩
  have ef : SetTable.layClean.free m ow (SetTable.turns m) (SetTable.bits h % (m + 1)) (SetTable.bits h) = some (way m h K) := ef
  have k2 : oAt ow (way m h K) = none := k2
  have jm : j ≤ m := by rw [← ej]; exact way_in m h K
  rw [ej] at ef k2
  have at_j : oAt (ow.setIfInBounds j (some n)) j = some n := oAt_set_self _ (by rw [S.size]; omega)
  have at_i : ∀ {i : Nat}, i ≠ j → oAt (ow.setIfInBounds j (some n)) i = oAt ow i := fun c => oAt_set_ne _ c
  have stays : ∀ {i : Nat}, oAt ow i ≠ none → oAt (ow.setIfInBounds j (some n)) i ≠ none := fun {i} z => by
    by_cases c : i = j
    · rw [c, at_j]; exact fun y => by cases y
    · rw [at_i c]; exact z
  refine ⟨j, ef, by rw [Array.size_setIfInBounds]; exact S.size, fun i k hi e => ?_, fun k hk => ?_, fun i i' k hi hi' e e' => ?_⟩
  · by_cases c : i = j
    · rw [c, at_j] at e
      cases e
      rw [eh, c]
      exact ⟨Nat.lt_succ_self _, K, ej, fun d hd => stays (k3 d hd)⟩
    · rw [at_i c] at e
      obtain ⟨a, K', b, d⟩ := S.sit i k hi e
      exact ⟨by omega, K', b, fun d' hd => stays (d d' hd)⟩
  · by_cases c : k = n
    · exact ⟨j, jm, by rw [c]; exact at_j⟩
    · obtain ⟨i, hi, e⟩ := S.each k (by omega)
      exact ⟨i, hi, by rw [at_i (fun z => by rw [z, k2] at e; cases e)]; exact e⟩
  · by_cases c : i = j
    · by_cases c' : i' = j
      · rw [c, c']
      · rw [c, at_j] at e
        rw [at_i c'] at e'
        cases e
        exact absurd (S.sit i' n hi' e').1 (Nat.lt_irrefl _)
    · by_cases c' : i' = j
      · rw [c', at_j] at e'
        rw [at_i c] at e
        cases e'
        exact absurd (S.sit i n hi e).1 (Nat.lt_irrefl _)
      · rw [at_i c] at e
        rw [at_i c'] at e'
        exact S.once i i' k hi hi' e e'
theorem seat_all (R : Round m) (hl : hs.length ≤ m) : ∀ (rest : List Int) (n : Nat) (ow : Array (Option Nat)), n ≤ hs.length → hs.drop n = rest → Seat m hs n ow →
    ∃ ow', rest.foldl (stepF m) (some (ow, n)) = some (ow', hs.length) ∧ Seat m hs hs.length ow'
  | [], n, ow, hn, e, S => by
    have : n = hs.length := by
      have z := congrArg List.length e
      rw [List.length_drop] at z
      simp at z
      omega
    subst this
    exact ⟨ow, rfl, S⟩
  | h :: rest, n, ow, hn, e, S => by
    have ln : n < hs.length := by
      have z := congrArg List.length e
      rw [List.length_drop, List.length_cons] at z
      omega
    rw [List.drop_eq_getElem_cons ln] at e
    injection e with e1 e2
    obtain ⟨j, ef, S'⟩ := S.next R (by omega) (h := h) (by rw [List.getD_eq_getElem?_getD, List.getElem?_eq_getElem ln]; exact e1)
    rw [List.foldl_cons, stepF_some ef]
    exact seat_all R hl rest (n + 1) _ ln e2 S'
end
theorem relaid_laid (t : SetTable) {hs : Array Int} {wanted M : Nat} (hw : SetTable.sizeAbove wanted - 1 = M) (R : Round M) (hn : hs.size ≤ M) :
    ∃ t' order, t.relaid hs wanted = some (t', order) ∧ order.toList.Perm (List.range hs.size) ∧ Laid t' (order.toList.map fun i => hs.getD i 0) ∧ t'.mask = M ∧ t'.led = t.led ∧ t'.plain = t.plain := by
  have S0 : Seat M hs.toList 0 (Array.replicate (M + 1) none) := ⟨by simp, fun j k hj e => (by rw [oAt_init hj] at e; cases e), fun k hk => absurd hk (Nat.not_lt_zero _), fun i j k hi hj e => (by rw [oAt_init hi] at e; cases e)⟩
  obtain ⟨ow, ef, S⟩ := seat_all R (by rw [Array.length_toList]; exact hn) hs.toList 0 _ (Nat.zero_le _) rfl S0
  have ec : SetTable.layClean M hs = some ow := by rw [layClean_eq, ef]; rfl
  have rs := ris_live (fun j => ow.getD j none) (List.range (M + 1)) (by unfold Ris; first | exact List.pairwise_lt_range | exact List.pairwise_lt_range _)
  have r1 : Ris ((liveOf M ow).map (·.1)) := rs.1
  have mem : ∀ {j k : Nat}, (j, k) ∈ liveOf M ow ↔ j ≤ M ∧ oAt ow j = some k := mem_live S.size
  have nd1 : ((liveOf M ow).map (·.1)).Nodup := List.Pairwise.imp (fun h => Nat.ne_of_lt h) r1
  have nd2 : ((liveOf M ow).map (·.2)).Nodup := by
    unfold List.Nodup at nd1 ⊢
    rw [List.pairwise_map] at nd1 ⊢
    refine List.Pairwise.imp_of_mem (fun {a b} ha hb ne z => ne ?_) nd1
    obtain ⟨a1, a2⟩ := a
    obtain ⟨b1, b2⟩ := b
    have z : a2 = b2 := z
    subst z
    have qa := mem.mp ha
    have qb := mem.mp hb
    exact S.once a1 b1 a2 qa.1 qb.1 qa.2 qb.2
  have pm : ((liveOf M ow).map (·.2)).Perm (List.range hs.size) := by
    rw [List.perm_ext_iff_of_nodup nd2 List.nodup_range]
    intro k
    rw [List.mem_range]
    constructor
    · intro z
      obtain ⟨⟨j, k'⟩, hq, rfl⟩ := List.mem_map.mp z
      have q := mem.mp hq
      have := (S.sit j k' q.1 q.2).1
      rw [Array.length_toList] at this
      exact this
    · intro z
      obtain ⟨j, hj, e⟩ := S.each k (by rw [Array.length_toList]; exact z)
      exact List.mem_map.mpr ⟨(j, k), mem.mpr ⟨hj, e⟩, rfl⟩
  refine ⟨tabOf t M ow, ((liveOf M ow).map (·.2)).toArray, by rw [relaid_eq, hw, ec]; rfl, pm, ⟨r1, rfl, ?_, R, fun x hx => ?_, fun q hq => ?_⟩, rfl, rfl, rfl⟩
  · show ((liveOf M ow).map (·.1)).length = (((liveOf M ow).map (·.2)).map _).length
    rw [List.length_map, List.length_map, List.length_map]
  · obtain ⟨⟨j, k⟩, hq, rfl⟩ := List.mem_map.mp (show x ∈ (liveOf M ow).map (·.1) from hx)
    exact (mem.mp hq).1
  · have hq : q ∈ ((liveOf M ow).map (·.1)).zip (((liveOf M ow).map (·.2)).map fun i => hs.getD i 0) := hq
    rw [List.map_map, List.zip_map'] at hq
    obtain ⟨⟨j, k⟩, hm, rfl⟩ := List.mem_map.mp hq
    have q := mem.mp hm
    obtain ⟨_, K, e1, e2⟩ := S.sit j k q.1 q.2
    have eg : hs.toList.getD k 0 = hs.getD k 0 := by
      rw [List.getD_eq_getElem?_getD, Array.getD_eq_getD_getElem?, Array.getElem?_toList]
    rw [eg] at e1 e2
    refine ⟨K, e1, fun d hd => ?_⟩
    show way M (hs.getD k 0) d ∈ (liveOf M ow).map (·.1)
    cases z : oAt ow (way M (hs.getD k 0) d) with
    | none => exact absurd z (e2 d hd)
    | some k2 => exact List.mem_map.mpr ⟨(_, k2), mem.mpr ⟨way_in _ _ _, z⟩, rfl⟩
end J
namespace J
open PySem PySem.Spec L2 PyProof.Rows
/-! sets of int tuples, up to three hundred and five of them -/
structure SetW (P : Program) (w : World) (h : Heap) (a : Addr) (L : List (Addr × List Int)) (es : Array (Int × Value)) (ep : Nat) (t : SetTable) : Prop where
  ob : ∃ o, h.get? a = some o ∧ o.ExactSet ∧ o.data = .set es ep t
  rows : es.toList = L2.rowsOf P w L
  tab : Laid t (L.map fun q => thash P w q.2)
  msk : t.mask = 7 ∨ t.mask = 31 ∨ t.mask = 127 ∨ t.mask = 511
  nd : (L.map (·.2)).Nodup
  tup : ∀ q ∈ L, IsT P w h q.2 q.1
  plain : t.plain = true
  led : w.params.followText "set-order" = true ∨ t.led = true
  room : L.length * 5 < t.mask * 3
section
variable {P : Program} {w : World} {A : Around} {E : Value → Shared → Prop} {s : Shared} {h : Heap} {a : Addr} {L : List (Addr × List Int)} {es : Array (Int × Value)} {ep : Nat} {t : SetTable}
theorem laid_of {hs : List Int} (T : TabOk t hs) : Laid t hs := ⟨T.ris, T.dm, by rw [Array.length_toList]; exact T.sz, round_of T.mok, T.bd, fun q hq => by
  obtain ⟨i, e⟩ := List.mem_iff_getElem?.mp hq
  have z := List.getElem?_zip_eq_some.mp e
  exact T.reach i q.2 q.1 z.2 z.1⟩
theorem SetW.of (R : SetTR P w h a L es ep t) : SetW P w h a L es ep t := ⟨R.ob, R.rows, laid_of R.tab, by have := R.tab.mok; unfold MaskOk at this; omega, R.nd, R.tup, R.plain, R.led, R.room⟩
theorem SetW.size (R : SetW P w h a L es ep t) : es.size = L.length := by
  rw [← Array.length_toList, R.rows]
  exact List.length_map ..
theorem SetW.places (R : SetW P w h a L es ep t) : t.place.size = L.length := by
  have z := R.tab.many
  rwa [List.length_map, Array.length_toList] at z
theorem SetW.fits (R : SetW P w h a L es ep t) : t.fits es.size = true := by
  have a1 := R.places
  have a2 := R.size
  have a3 := R.room
  have e : t.fill = L.length := by
    unfold SetTable.fill
    rw [R.tab.bare, a1]
    rfl
  unfold SetTable.fits
  rw [Bool.and_eq_true]
  exact ⟨by rw [a1, a2]; exact beq_self_eq_true _, decide_eq_true (by rw [e]; omega)⟩
theorem SetW.row (R : SetW P w h a L es ep t) {i : Nat} {q : Addr × List Int} (e : L[i]? = some q) : es[i]? = some (thash P w q.2, Value.ref q.1) := by
  have z : es.toList[i]? = (L[i]?).map fun q => (thash P w q.2, Value.ref q.1) := by
    rw [R.rows]
    exact List.getElem?_map
  rw [Array.getElem?_toList] at z
  rw [z, e]
  rfl
theorem SetW.keep {h' : Heap} (R : SetW P w h a L es ep t) (k : ∀ o, h.get? a = some o → h'.get? a = some o) (kt : ∀ q ∈ L, IsT P w h' q.2 q.1) : SetW P w h' a L es ep t := by
  obtain ⟨o, e, r⟩ := R.ob
  exact ⟨⟨o, k o e, r⟩, R.rows, R.tab, R.msk, R.nd, kt, R.plain, R.led, R.room⟩
/-- where the way stands behind c steps -/
abbrev spot (m : Nat) (H : Int) (c : Nat) : SetTable.Probe := nth m (runAt m (SetTable.bits H % (m + 1)) (SetTable.bits H)) c
theorem spot_plain (m : Nat) (H : Int) : ∀ c, (spot m H c).dummy = none
  | 0 => rfl
  | c + 1 => by
    have ih := spot_plain m H c
    show (nth m _ (c + 1)).dummy = none
    rw [nth_succ]
    unfold adv
    split
    · exact ih
    · exact ih
theorem spot_go (m : Nat) (H : Int) (c d : Nat) : nth m (spot m H c) d = spot m H (c + d) := (nth_add m c _ d).symm
/-- what is met from the c-th step on -/
theorem SetW.meet (R : SetW P w h a L es ep t) {H : Int} {K c : Nat} (hc : c ≤ K) (hf : K < 10 * SetTable.turns t.mask) (hK : way t.mask H K ∉ t.place.toList) (hb : ∀ d, d < K → way t.mask H d ∈ t.place.toList) (ha : Nat → Int) :
    (∃ d i, c ≤ d ∧ d < K ∧ t.place.toList[i]? = some (way t.mask H d) ∧ ha i = H ∧ (∀ d' i', c ≤ d' → d' < d → t.place.toList[i']? = some (way t.mask H d') → ha i' ≠ H) ∧ t.probe ha H (spot t.mask H c) = some (.candidate (way t.mask H d) i (spot t.mask H (d + 1)))) ∨
    ((∀ d' i', c ≤ d' → d' < K → t.place.toList[i']? = some (way t.mask H d') → ha i' ≠ H) ∧ t.probe ha H (spot t.mask H c) = some (.empty (way t.mask H K) none)) := by
  have end_ : c + (K - c) = K := by omega
  have sp := go_spec t R.tab.up R.tab.bare ha H (10 * SetTable.turns t.mask) (K - c) (spot t.mask H c) (spot_plain _ _ _) (by omega)
    (fun d hd => by rw [spot_go]; exact hb _ (by omega)) (by rw [spot_go, end_]; exact hK)
  have back : ∀ {u : Nat}, (∀ d' i', d' < u → t.place.toList[i']? = some (nth t.mask (spot t.mask H c) d').j → ha i' ≠ H) → ∀ d' i', c ≤ d' → d' < c + u → t.place.toList[i']? = some (way t.mask H d') → ha i' ≠ H := by
    intro u z d' i' h1 h2 h3
    refine z (d' - c) i' (by omega) ?_
    rw [spot_go, show c + (d' - c) = d' by omega]
    exact h3
  rcases sp with ⟨d, i, h1, h2, h3, h4, h5⟩ | ⟨h4, h5⟩
  · refine .inl ⟨c + d, i, by omega, by omega, by rw [spot_go] at h2; exact h2, h3, back h4, ?_⟩
    rw [spot_go, spot_go] at h5
    exact h5
  · refine .inr ⟨fun d' i' z1 z2 => back h4 d' i' z1 (by omega), ?_⟩
    rw [spot_go, end_] at h5
    exact h5
theorem SetW.seek (R : SetW P w s.heap a L es ep t) {x : Addr} {k : List Int} (hx : IsT P w s.heap k x) (hu : A.units < cLine) {K : Nat} (hf : K < 10 * SetTable.turns t.mask) (hK : way t.mask (thash P w k) K ∉ t.place.toList) (hb : ∀ d, d < K → way t.mask (thash P w k) d ∈ t.place.toList)
    {Q : SetFound → Shared → Prop} (yes : k ∈ L.map (·.2) → Q (.there none) s) (no : k ∉ L.map (·.2) → Q (.free (way t.mask (thash P w k) K) false) s) :
    ∀ (n c : Nat) (st : Option SetTable.Probe), c ≤ K → K < c + n → st.getD (t.probeStart (thash P w k)) = spot t.mask (thash P w k) c →
      (∀ (i : Nat) (q : Addr × List Int), L[i]? = some q → q.2 = k → ∃ d, c ≤ d ∧ d < K ∧ t.place.toList[i]? = some (way t.mask (thash P w k) d)) →
      wpAny (model P w) A (setSearchFrom a (.ref x) (thash P w k) true n st) Q E s := by
  obtain ⟨o, eo, ex, ed⟩ := R.ob
  intro n
  induction n with
  | zero => intro c st h1 h2; omega
  | succ n ih =>
    intro c st h1 h2 h3 h4
    rw [setSearchFrom_succ]
    refine wpAny_bind (wpAny_setState_of eo ed R.fits ?_)
    dsimp only
    have calm : ¬ t.gaveWay = true := by
      unfold SetTable.gaveWay
      rw [R.tab.rnd.odd]
      decide
    refine wp_if_neg calm ?_
    try refine wpAny_bind (wpAny_pure ?_)
    rw [h3]
    have hashes : ∀ (i : Nat) q, L[i]? = some q → (es[i]?.map (·.1)).getD 0 = thash P w q.2 := fun i q e => by rw [R.row e]; rfl
    rcases R.meet h1 hf hK hb (fun i => (es[i]?.map (·.1)).getD 0) with ⟨d, i, m1, m2, m3, m4, m5, m6⟩ | ⟨m5, m6⟩
    · rw [m6]
      dsimp only
      have il : i < L.length := by
        have z := (List.getElem?_eq_some_iff.mp m3).1
        rw [Array.length_toList, R.places] at z
        exact z
      obtain ⟨q, eq⟩ : ∃ q, L[i]? = some q := ⟨_, List.getElem?_eq_getElem il⟩
      have hq := R.tup q (List.mem_of_getElem? eq)
      have live := slot_live R.tab.up m3
      have tail : wpAny (model P w) A (searchRest a (.ref x) (thash P w k) true n es t (way t.mask (thash P w k) d) i (spot t.mask (thash P w k) (d + 1))) Q E s := by
        unfold searchRest
        rw [R.row eq]
        dsimp only
        refine wpAny_bind (wpAny_holding (wpAny_eqBool_tuple hu hq hx ?_))
        refine wpAny_bind (wpAny_setState_of eo ed R.fits ?_)
        dsimp only
        by_cases same : q.2 = k
        · refine wp_if_pos (by simp [same]) (wpAny_pure (yes ?_))
          exact List.mem_map.mpr ⟨q, List.mem_of_getElem? eq, same⟩
        · refine wp_if_neg (by simp [same]) ?_
          try refine wpAny_bind (wpAny_pure ?_)
          rw [sameMem]
          dsimp only
          simp only [if_true, live, R.row eq]
          refine wpAny_bind (wpAny_isSame_ref_self (wpAny_bind (wpAny_pure ?_)))
          simp only [if_true]
          refine wp_if_neg (by simp [same]) ?_
          refine ih (d + 1) _ (by omega) (by omega) rfl fun i0 q0 e0 k0 => ?_
          obtain ⟨d0, c1, c2, c3⟩ := h4 i0 q0 e0 k0
          refine ⟨d0, ?_, c2, c3⟩
          rcases Nat.lt_trichotomy d0 d with z | z | z
          · exact absurd ((hashes i0 q0 e0).trans (by rw [k0])) (m5 d0 i0 c1 z c3)
          · subst z
            have l2 := slot_live R.tab.up c3
            rw [live] at l2
            injection l2 with l2
            rw [← l2, eq] at e0
            cases e0
            exact absurd k0 same
          · exact z
      cases lc : t.led with
      | true =>
        refine wp_if_neg (by simp) ?_
        try refine wpAny_bind (wpAny_pure ?_)
        exact tail
      | false =>
        refine wp_if_pos (by simp) ?_
        refine wpAny_bind (seen_tup hx (fun y hy => ?_) (wp_if_neg (by decide) ?_))
        · obtain ⟨e, he, rfl⟩ := List.mem_map.mp hy
          have m : e ∈ L2.rowsOf P w L := by
            rw [← R.rows]
            have z := (Array.mem_filter.mp (Array.mem_def.mpr he)).1
            exact Array.mem_def.mp z
          obtain ⟨q2, h5, rfl⟩ := List.mem_map.mp m
          exact ⟨q2.2, q2.1, rfl, R.tup q2 h5⟩
        · try refine wpAny_bind (wpAny_pure ?_)
          exact tail
    · rw [m6]
      dsimp only
      refine wpAny_pure (no fun hm => ?_)
      obtain ⟨q0, e0, k0⟩ := List.mem_map.mp hm
      obtain ⟨i0, hi0, ei0⟩ := List.getElem_of_mem e0
      have e1 : L[i0]? = some q0 := by rw [List.getElem?_eq_getElem hi0, ei0]
      obtain ⟨d0, c1, c2, c3⟩ := h4 i0 q0 e1 k0
      exact m5 d0 i0 c1 c2 c3 ((hashes i0 q0 e1).trans (by rw [k0]))
theorem SetW.search (R : SetW P w s.heap a L es ep t) {x : Addr} {k : List Int} (hx : IsT P w s.heap k x) (hu : A.units < cLine) {Q : SetFound → Shared → Prop} (yes : k ∈ L.map (·.2) → Q (.there none) s)
    (no : ∀ K, k ∉ L.map (·.2) → way t.mask (thash P w k) K ∉ t.place.toList → (∀ d, d < K → way t.mask (thash P w k) d ∈ t.place.toList) → Q (.free (way t.mask (thash P w k) K) false) s) : wpAny (model P w) A (setSearch a (.ref x) (thash P w k) true) Q E s := by
  have rm := R.room
  obtain ⟨K, h1, h2, h3⟩ := R.tab.first (by rw [List.length_map]; omega) (thash P w k)
  have small : K < 100000 := by
    have z : SetTable.turns t.mask ≤ 600 := by
      unfold SetTable.turns
      have := R.tab.rnd.low
      omega
    omega
  unfold setSearch
  refine R.seek hx hu h1 h2 h3 yes (fun z => no K z h2 h3) 100000 0 none (Nat.zero_le _) (by omega) rfl fun i q e ek => ?_
  have il := (List.getElem?_eq_some_iff.mp e).1
  have ip : i < t.place.toList.length := by rw [Array.length_toList, R.places]; exact il
  obtain ⟨d, c1, c2⟩ := R.tab.ahead h2 (i := i) (h := thash P w k) (by rw [List.getElem?_map, e, ← ek]; rfl) (List.getElem?_eq_getElem ip)
  exact ⟨d, Nat.zero_le _, c1, by rw [c2]; exact List.getElem?_eq_getElem ip⟩
theorem size_512 : SetTable.sizeAbove (SetTable.grown 77) = 512 := by decide +kernel
/-- the larger table -/
theorem SetW.wider {o : Obj} (eo : s.heap.get? a = some o) (ex : o.ExactSet) (ed : o.data = .set es ep t) (rows : es.toList = L2.rowsOf P w L) (T : Laid t (L.map fun q => thash P w q.2)) (nd : (L.map (·.2)).Nodup) (tup : ∀ q ∈ L, IsT P w s.heap q.2 q.1) (pl : t.plain = true) (ld : w.params.followText "set-order" = true ∨ t.led = true)
    (room : L.length ≤ t.mask) {wanted M : Nat} (hw : SetTable.sizeAbove wanted - 1 = M) (hM : Round M) (hk : M = 7 ∨ M = 31 ∨ M = 127 ∨ M = 511) (hn : L.length * 5 < M * 3) {Q : Unit → Shared → Prop}
    (hQ : ∀ h' L' es' ep' t', Heap.SameBut a s.heap h' → SetW P w h' a L' es' ep' t' → L'.Perm L → Q () { s with heap := h' }) : wpAny (model P w) A (setRelay a wanted) Q E s := by
  have se : es.size = L.length := by rw [← Array.length_toList, rows]; exact List.length_map ..
  have sp : t.place.size = L.length := by have z := T.many; rwa [List.length_map, Array.length_toList] at z
  have fits : t.fits es.size = true := by
    have e : t.fill = L.length := by unfold SetTable.fill; rw [T.bare, sp]; rfl
    unfold SetTable.fits
    rw [Bool.and_eq_true]
    exact ⟨by rw [sp, se]; exact beq_self_eq_true _, decide_eq_true (by rw [e]; exact room)⟩
  obtain ⟨t', order, e, pm, T', em, el, ep'⟩ := relaid_laid t (hs := es.map (·.1)) hw hM (by rw [Array.size_map, se]; omega)
  rw [Array.size_map, se] at pm
  obtain ⟨L', r1, r2, r3⟩ := order_rows L es order rows pm
  have s2 : (order.filterMap (es[·]?)).size = L.length := by
    rw [← Array.length_toList, r1, ← r2.length_eq]
    exact List.length_map ..
  rw [setRelay_eq]
  refine wpAny_bind (wpAny_setState_of eo ed fits ?_)
  dsimp only
  refine wp_if_neg (by rw [sizeLine_eq]; omega) ?_
  try refine wpAny_bind (wpAny_pure ?_)
  rw [e]
  dsimp only
  refine wpAny_bind ?_
  refine wp_if_neg (by rw [s2, se]; simp) ?_
  try refine wpAny_bind (wpAny_pure ?_)
  refine wpAny_pure ?_
  dsimp only
  refine wpAny_storeSet_of eo ed ?_ (by rw [s2, sizeLine_eq]; omega)
  have sb : Heap.SameBut a s.heap (s.heap.update a (Obj.putSet (order.filterMap (es[·]?)) t')) := Heap.SameBut.update ..
  exact hQ _ L' _ (ep + 1) t' sb ⟨⟨_, L2.store_at eo ed, ⟨ex.1, ex.2.1, ex.2.2⟩, rfl⟩, r1, r3 ▸ T', by rw [em]; exact hk, (r2.map (·.2)).nodup_iff.mpr nd, fun q hq => isT_same (tup q (r2.mem_iff.mp hq)) eo ed sb, by rw [ep']; exact pl, by rw [el]; exact ld, by rw [r2.length_eq, em]; exact hn⟩ r2
/-- one more -/
theorem SetW.add (R : SetW P w s.heap a L es ep t) {x : Addr} {k : List Int} (hx : IsT P w s.heap k x) (hu : A.units < cLine) (few : L.length < 306) {Q : Bool → Shared → Prop}
    (hQ : ∀ b h' L' es' ep' t', Heap.SameBut a s.heap h' → SetW P w h' a L' es' ep' t' → (k ∈ L.map (·.2) → L' = L) → (k ∉ L.map (·.2) → L'.Perm ((x, k) :: L)) → Q b { s with heap := h' }) :
    wpAny (model P w) A (setAddHashed a (.ref x) (thash P w k)) Q E s := by
  obtain ⟨o, eo, ex, ed⟩ := R.ob
  have rm := R.room
  have msk := R.msk
  unfold setAddHashed
  refine wpAny_holding ?_
  rw [show (100000 : Nat) = 99999 + 1 from rfl, setAddHashedIn_succ]
  refine wpAny_bind (wpAny_setState_of eo ed R.fits ?_)
  dsimp only
  refine wp_if_neg (by simp [byScan, Value.scannable]) ?_
  try refine wpAny_bind (wpAny_pure ?_)
  refine wpAny_bind (R.search hx hu (fun hm => ?_) fun K hm h1 h2 => ?_)
  · dsimp only
    exact wpAny_pure (hQ false s.heap L es ep t (Heap.SameBut.refl a _) R (fun _ => rfl) fun z => absurd hm z)
  · dsimp only
    refine wpAny_bind (wpAny_setState_of eo ed R.fits ?_)
    dsimp only
    obtain ⟨p3, p9⟩ := R.tab.put rfl h1 h2
    rw [List.length_map] at p9
    have p4 : (t.put (way t.mask (thash P w k) K)).1.mask = t.mask := rfl
    have p5 : (t.put (way t.mask (thash P w k) K)).1.led = t.led := rfl
    have p6 : (t.put (way t.mask (thash P w k) K)).1.plain = t.plain := rfl
    have p1 : (t.put (way t.mask (thash P w k) K)).2 = SetTable.below t.place (way t.mask (thash P w k) K) := rfl
    have rw' : (SetTable.insertAt es (t.put (way t.mask (thash P w k) K)).2 (thash P w k, Value.ref x)).toList = L2.rowsOf P w (L.take (t.put (way t.mask (thash P w k) K)).2 ++ (x, k) :: L.drop (t.put (way t.mask (thash P w k) K)).2) := by
      rw [SetTable.toList_insertAt, rows_put, R.rows]
    rw [← p1] at p3
    generalize t.put (way t.mask (thash P w k) K) = pt at p1 p3 p4 p5 p6 p9 rw' ⊢
    obtain ⟨t1, p⟩ := pt
    dsimp only at p1 p3 p4 p5 p6 p9 rw' ⊢
    have pl1 : t1.plain = true := p6.trans R.plain
    first
      | (refine wpAny_bind ?_; refine wp_if_pos pl1 ?_; refine hashBy_tup hx ?_)
      | refine wp_if_pos pl1 (wpAny_bind (hashBy_tup hx ?_))
    simp only [if_true]
    have pm := put_perm L p (x, k)
    have e3 : (L.map fun q => thash P w q.2).take p ++ thash P w k :: (L.map fun q => thash P w q.2).drop p = (L.take p ++ (x, k) :: L.drop p).map fun q => thash P w q.2 := by
      rw [List.map_append, List.map_cons, List.map_take, List.map_drop]
    rw [e3] at p3
    generalize L.take p ++ (x, k) :: L.drop p = M at pm p3 rw'
    have len : M.length = L.length + 1 := by rw [pm.length_eq]; rfl
    have len2 : (SetTable.insertAt es p (thash P w k, Value.ref x)).size = L.length + 1 := by
      rw [← Array.length_toList, rw', ← len]
      exact List.length_map ..
    have les : es.size = L.length := R.size
    generalize SetTable.insertAt es p (thash P w k, Value.ref x) = es1 at rw' len2 ⊢
    refine wpAny_bind (wpAny_storeSet_of eo ed ?_ (by rw [len2, sizeLine_eq]; omega))
    have sb : Heap.SameBut a s.heap (s.heap.update a (Obj.putSet es1 t1)) := Heap.SameBut.update ..
    have eo1 := L2.store_at (es' := es1) (t' := t1) eo ed
    generalize s.heap.update a (Obj.putSet es1 t1) = h1 at sb eo1 ⊢
    have nd1 : (M.map (·.2)).Nodup := by
      refine (pm.map (·.2)).nodup_iff.mpr ?_
      rw [List.map_cons]
      exact List.nodup_cons.mpr ⟨hm, R.nd⟩
    have tup1 : ∀ q ∈ M, IsT P w h1 q.2 q.1 := fun q hq => by
      rcases List.mem_cons.mp (pm.mem_iff.mp hq) with e | e
      · rw [e]; exact isT_same hx eo ed sb
      · exact isT_same (R.tup q e) eo ed sb
    have ld1 : w.params.followText "set-order" = true ∨ t1.led = true := by rw [p5]; exact R.led
    by_cases c : (L.length + 1) * 5 < t.mask * 3
    · have notFull : ¬ (!false && t1.tooFull) = true := by
        unfold SetTable.tooFull
        rw [p9, p4]
        simp
        omega
      first
        | refine wp_if_neg notFull ?_
        | (refine wpAny_bind ?_; refine wp_if_neg notFull ?_; refine wpAny_pure ?_)
      exact wpAny_pure (hQ true h1 M es1 (ep + 1) t1 sb ⟨⟨_, eo1, ⟨ex.1, ex.2.1, ex.2.2⟩, rfl⟩, rw', p3, by rw [p4]; exact msk, nd1, tup1, pl1, ld1, by rw [len, p4]; exact c⟩ (fun z => absurd z hm) fun _ => pm)
    · have full : (!false && t1.tooFull) = true := by
        unfold SetTable.tooFull
        rw [p9, p4]
        simp
        omega
      obtain ⟨N, w1, w2, w3, w4⟩ : ∃ N, SetTable.sizeAbove (SetTable.grown (L.length + 1)) - 1 = N ∧ Round N ∧ (N = 7 ∨ N = 31 ∨ N = 127 ∨ N = 511) ∧ (L.length + 1) * 5 < N * 3 := by
        have three : L.length = 4 ∨ L.length = 18 ∨ L.length = 76 := by omega
        rcases three with e | e | e
        · exact ⟨31, by rw [e, size_20], round_of (.inr (.inl rfl)), by omega, by omega⟩
        · exact ⟨127, by rw [e, size_76], round_of (.inr (.inr rfl)), by omega, by omega⟩
        · exact ⟨511, by rw [e, size_512], round511, by omega, by omega⟩
      first
        | (refine wpAny_bind ?_; refine wp_if_pos full ?_)
        | (refine wp_if_pos full ?_; refine wpAny_bind ?_)
      rw [les]
      refine SetW.wider (s := { s with heap := h1 }) eo1 ⟨ex.1, ex.2.1, ex.2.2⟩ rfl rw' p3 nd1 tup1 pl1 ld1 (by rw [len, p4]; omega) w1 w2 w3 (by rw [len]; exact w4) fun h2 L2' es2 ep2 t2 sb2 R2 pm2 => ?_
      exact wpAny_pure (hQ true h2 L2' es2 ep2 t2 (sb.trans sb2) R2 (fun z => absurd z hm) fun _ => pm2.trans pm)
end
end J
namespace J
open PySem PySem.Spec L2 PyProof.Rows
/-! set(xs) of tuples, sorted(..): few of them are unlike -/
theorem few_of {D M : List (List Int)} (hM : M.Nodup) (hs : ∀ x ∈ M, x ∈ D) : M.length ≤ D.length := by
  induction M generalizing D with
  | nil => exact Nat.zero_le _
  | cons x xs ih =>
    have hx : x ∈ D := hs x List.mem_cons_self
    rw [List.nodup_cons] at hM
    have q := ih (D := D.erase x) hM.2 fun y hy => (List.mem_erase_of_ne (fun (e : y = x) => hM.1 (e ▸ hy))).mpr (hs y (List.mem_cons_of_mem _ hy))
    rw [List.length_erase_of_mem hx] at q
    have : 0 < D.length := List.length_pos_of_mem hx
    rw [List.length_cons]; omega
/-- what the set holds behind the first i items -/
structure Held (ks : List (Addr × List Int)) (i : Nat) (L : List (Addr × List Int)) : Prop where
  sub : ∀ q ∈ L, q ∈ ks.take i
  all : ∀ q ∈ ks.take i, q.2 ∈ L.map (·.2)
theorem Held.next {ks L L' : List (Addr × List Int)} {i : Nat} {x : Addr × List Int} (g : Held ks i L) (h : ks[i]? = some x) (c1 : x.2 ∈ L.map (·.2) → L' = L) (c2 : x.2 ∉ L.map (·.2) → L'.Perm (x :: L)) : Held ks (i + 1) L' := by
  have et : ks.take (i + 1) = ks.take i ++ [x] := by rw [List.take_add_one, h]; rfl
  by_cases m : x.2 ∈ L.map (·.2)
  · rw [c1 m]
    constructor
    · intro q hq; rw [et]; exact List.mem_append_left _ (g.sub q hq)
    · intro q hq
      rw [et] at hq
      rcases List.mem_append.mp hq with z | z
      · exact g.all q z
      · rw [List.mem_singleton] at z; rw [z]; exact m
  · have pm := c2 m
    constructor
    · intro q hq
      rw [et]
      rcases List.mem_cons.mp (pm.mem_iff.mp hq) with z | z
      · exact List.mem_append_right _ (by rw [z]; exact List.mem_singleton.mpr rfl)
      · exact List.mem_append_left _ (g.sub q z)
    · intro q hq
      rw [(pm.map (·.2)).mem_iff, List.map_cons]
      rw [et] at hq
      rcases List.mem_append.mp hq with z | z
      · exact List.mem_cons_of_mem _ (g.all q z)
      · rw [List.mem_singleton] at z; rw [z]; exact List.mem_cons_self
end J
namespace J
open PySem PySem.Spec PySem.W L2 PyProof.Rows
/-! the order of ints, and of tuples of ints -/
def intL : List VV → Option (List Int)
  | [] => some []
  | .int i :: xs => (intL xs).map fun r => i :: r
  | _ => none
def intsV : VV → Option (List Int)
  | .tup xs => intL xs
  | _ => none
end J
namespace J
open PySem PySem.W L2
end J
namespace J
open PySem PySem.W L2
def tupI (k : List Int) : VV := .tup (k.map .int)
theorem intL_inv : ∀ {xs : List VV} {k : List Int}, intL xs = some k → xs = k.map .int
  | [], k, e => by cases e; rfl
  | x :: xs, k, e => by
    cases x with
    | int i =>
      obtain ⟨l, e3, e4⟩ := Option.map_eq_some_iff.mp (show (intL xs).map (fun r => i :: r) = some k from e)
      subst e4
      rw [intL_inv e3]; rfl
    | _ => cases e
theorem intsV_inv {v : VV} {k : List Int} (e : intsV v = some k) : v = tupI k := by
  cases v with
  | tup xs => rw [intL_inv (show intL xs = some k from e)]; rfl
  | _ => cases e
end J
namespace J
open PySem PySem.W L2
theorem nodup_eraseDups_n : ∀ (n : Nat) (l : List (List Int)), l.length ≤ n → l.eraseDups.Nodup
  | _, [], _ => by simp
  | 0, _ :: _, h => by simp at h
  | n + 1, a :: l, h => by
    rw [List.eraseDups_cons, List.nodup_cons]
    refine ⟨fun z => ?_, nodup_eraseDups_n n _ (Nat.le_trans (List.length_filter_le _ _) (by simpa using h))⟩
    rw [List.mem_eraseDups, List.mem_filter] at z
    simp at z
theorem nodup_eraseDups (l : List (List Int)) : l.eraseDups.Nodup := nodup_eraseDups_n _ l (Nat.le_refl _)
end J
namespace J
open PySem L2
/-! dicts with tuples as keys, by value -/
def dOf (h : VH) : VV → Option DA
  | .dT ks vs => some (ks, vs)
  | .obj n => match h[n]? with
    | some (.dT ks vs) => some (ks, vs)
    | some (.fzn (.dT ks vs)) => some (ks, vs)
    | _ => none
  | _ => none
theorem dOf_get {c : Ct} {g : Gh} {h : VH} {H : Hp} {v : VV} {u : V} {a : DA} (rh : RH c g h H) (rv : RT c g H v u) (e : dOf h v = some a) : ∃ p us, u = .ref p ∧ Rd H p (.dT (a.1.zip us)) ∧ a.1.length = us.length ∧ RVs c g.fz H a.2 us := by
  cases v with
  | dT ks vs =>
    cases e
    have q := rv.rv rfl
    rw [RV] at q
    obtain ⟨p, us, a, b, d, l, r⟩ := q
    exact ⟨p, us, a, d, l, r⟩
  | obj n =>
    obtain ⟨b, ea, eu⟩ := rv
    unfold dOf at e
    simp only at e
    split at e
    · rename_i ks vs en
      cases e
      obtain ⟨_, us, d, l, r⟩ := rh.at' n _ b en ea
      exact ⟨b, us, eu, .inl d, l, r⟩
    · rename_i ks vs en
      cases e
      obtain ⟨_, q⟩ := rh.at' n _ b en ea
      rw [RV] at q
      obtain ⟨p, us, z, y, d, l, r⟩ := q
      cases z
      exact ⟨b, us, eu, d, l, r⟩
    · cases e
  | _ => cases e
def getD : List (List Key) → List VV → List Key → Option VV
  | k' :: ks, v :: vs, k => if k' = k then some v else getD ks vs k
  | _, _, _ => none
theorem valV_has {k : List Key} {ks : List (List Key)} {us : List V} (hl : ks.length = us.length) : (valV (ks.zip us) k).isSome = hasK ks k := by
  unfold hasK
  induction ks generalizing us with
  | nil => simp [valV]
  | cons x ks ih =>
    cases us with
    | nil => cases hl
    | cons u us =>
      rw [List.zip_cons_cons, List.any_cons]
      by_cases ex : x = k
      · rw [valV_pos ex]; simp [ex]
      · rw [valV_neg ex, ih (Nat.succ.inj hl)]; simp [ex]
section
variable {X : Cx} {W : WX}
/-- d[k] = v, d a root -/
def setD (h : VH) (o i v : VV) : Option VH := match o with
  | .obj n => match h[n]? with
    | some (.dT ks vs) => (keyV i).bind fun k => if v.isObj = true ∨ ks.length ≥ SZ then none else some (h.set n (.dT (putKs ks k) (putVs ks vs k v)))
    | _ => none
  | _ => none
def sSetD (o i e : EF) : SF := fun ρ h => (e ρ h).st ρ fun v h1 => (o ρ h1).st ρ fun ov h2 => (i ρ h2).st ρ fun iv h3 => match setD h3 ov iv v with
  | some h4 => .nx ρ h4
  | none => .no
def keyB : Key → VV
  | .inl i => .int i
  | .inr x => .str x
end
end J
namespace J
open PySem L2
/-! instances -/
def lookN : List Str → List VV → Str → Option VV
  | n :: ns, v :: vs, f => if n = f then some v else lookN ns vs f
  | _, _, _ => none
def insOf (h : VH) : VV → Option (Str × List Str × List VV)
  | .ins c ns vs => some (c, ns, vs)
  | .obj n => match h[n]? with
    | some (.ins c ns vs) => some (c, ns, vs)
    | some (.fzn (.ins c ns vs)) => some (c, ns, vs)
    | _ => none
  | _ => none
def eFld (cn f : Str) (fe : EF) : EF := fun ρ h => (fe ρ h).bind fun v h1 => match insOf h1 v with
  | some a => if a.1 = cn then lift (lookN a.2.1 a.2.2 f) h1 else .no
  | none => .no
end J
namespace J
open PySem L2
def putN : List Str → Str → List Str
  | [], f => [f]
  | n :: ns, f => if n = f then n :: ns else n :: putN ns f
def putW {α : Type} : List Str → List α → Str → α → List α
  | n :: ns, x :: xs, f, v => if n = f then v :: xs else x :: putW ns xs f v
  | _, _, _, v => [v]
def setF (h : VH) (cn f : Str) (o v : VV) : Option VH := match o with
  | .obj n => match h[n]? with
    | some (.ins c ns vs) => if c = cn ∧ ns.length < 1000 then some (h.set n (.ins c (putN ns f) (putW ns vs f v))) else none
    | _ => none
  | _ => none
def sFldS (cn f : Str) (fo fe : EF) : SF := fun ρ h => (fe ρ h).st ρ fun v h1 => (fo ρ h1).st ρ fun ov h2 => match setF h2 cn f ov v with
  | some h3 => .nx ρ h3
  | none => .no
section
variable {X : Cx} {W : WX}
def X0 : XK := fun _ _ _ => False
def eMeth (cn m : Str) (n : Nat) (F : FF) (dws : List VV) (fo : EF) (fa : AF) : EF := fun ρ h => (fo ρ h).bind fun v h1 => match insOf h1 v with
  | some a => if a.1 = cn ∧ lookN a.2.1 a.2.2 m = none then (fa ρ h1).bind fun vs h2 => if (v :: (vs ++ dws)).length = n then noX (F (v :: (vs ++ dws)) h2) else .no else .no
  | none => .no
end
end J
namespace J
open PySem L2
/-! a made thing, frozen through and through -/
def optM {α β : Type} (f : α → Option β) : List α → Option (List β)
  | [] => some []
  | x :: xs => (f x).bind fun y => (optM f xs).map fun r => y :: r
def dzV (h : VH) (n0 : Nat) : Nat → VV → Option VV
  | 0, _ => none
  | k + 1, .obj n => if n < n0 then none else match h[n]? with
    | some (.fzn v) => some v
    | some (.fl xs) => some (.lst xs)
    | some (.dT ks vs) => some (.dT ks vs)
    | some (.dK ks vs) => some (.dK ks vs)
    | some (.lo xs) => (optM (dzV h n0 k) xs).map .lst
    | some (.ins c ns vs) => (optM (dzV h n0 k) vs).map (.ins c ns)
    | none => none
  | _ + 1, v => some v
/-- made, and frozen at once -/
def mkZ (n0 : Nat) (r : Res VV) : Res VV := match r with
  | .ok .non h' => if n0 ≤ h'.length ∧ (h'.take n0).all (lowO n0) = true then (match dzV h' n0 8 (.obj n0) with
    | some w => .ok w (h'.take n0)
    | none => .no) else .no
  | _ => .no
def eMakeZ (cn : Str) (n : Nat) (F : FF) (dws : List VV) (fa : AF) : EF := fun ρ h => (fa ρ h).bind fun vs h1 => if (VV.obj h1.length :: (vs ++ dws)).length = n then mkZ h1.length (F (.obj h1.length :: (vs ++ dws)) (h1 ++ [.ins cn [] []])) else .no
end J
namespace J
open PySem L2
section
variable {X : Cx} {W : WX}
/-! xs.pop(i), xs a root -/
def popI (h : VH) (o i : VV) : Option (VV × VH) := match o, i with
  | .obj n, .int k => match h[n]? with
    | some (.fl xs) => if 0 ≤ k ∧ k < xs.length ∧ k < 2 ^ 62 then (xs[k.toNat]?).map fun v => (v, h.set n (.fl (xs.eraseIdx k.toNat))) else none
    | _ => none
  | _, _ => none
def ePop (fo fi : EF) : EF := fun ρ h => (fo ρ h).bind fun ov h1 => match lstOf h1 ov with
  | none => .no
  | some _ => (fi ρ h1).bind fun iv h2 => match popI h2 ov iv with
    | some (v, h3) => .ok v h3
    | none => .no
theorem RVs.eraseIdx {c : Ct} {z : Addr → Prop} {H : Hp} : ∀ {vs : List VV} {us : List V} {k : Nat}, RVs c z H vs us → RVs c z H (vs.eraseIdx k) (us.eraseIdx k)
  | [], us, k, r => by rw [RVs] at r; subst r; simp only [List.eraseIdx_nil]; exact RVs.nil
  | v :: vs, us, k, r => by
    rw [RVs] at r
    obtain ⟨u, q, rfl, a, b⟩ := r
    cases k with
    | zero => simp only [List.eraseIdx_cons_zero]; exact b
    | succ k => simp only [List.eraseIdx_cons_succ]; exact RVs.cons a (RVs.eraseIdx b)
end
end J
namespace J
open PySem L2
open PyProof.Rows (envOfC)
/-! a root, frozen through and through -/
def frzL (f : VH → VV → Option (VV × VH)) : VH → List VV → Option (List VV × VH)
  | h, [] => some ([], h)
  | h, v :: vs => match f h v with
    | some (w, h1) => match frzL f h1 vs with
      | some (ws, h2) => some (w :: ws, h2)
      | none => none
    | none => none
def frzV : Nat → VH → VV → Option (VV × VH)
  | 0, _, _ => none
  | k + 1, h, .obj n => match h[n]? with
    | some (.fzn w) => some (w, h)
    | some (.fl xs) => some (.lst xs, h.set n (.fzn (.lst xs)))
    | some (.dT ks vs) => some (.dT ks vs, h.set n (.fzn (.dT ks vs)))
    | some (.dK ks vs) => some (.dK ks vs, h.set n (.fzn (.dK ks vs)))
    | some (.lo xs) => match frzL (frzV k) h xs with
      | some (ys, h') => some (.lst ys, h'.set n (.fzn (.lst ys)))
      | none => none
    | some (.ins c ns vs) => match frzL (frzV k) h vs with
      | some (ys, h') => some (.ins c ns ys, h'.set n (.fzn (.ins c ns ys)))
      | none => none
    | none => none
  | _ + 1, h, v => some (v, h)
def FrzOk (c : Ct) (H : Hp) (f : VH → VV → Option (VV × VH)) : Prop := ∀ g h v u w h', RH c g h H → RT c g H v u → f h v = some (w, h') → ∃ g', Stp g H g' H ∧ g'.io = g.io ∧ RH c g' h' H ∧ RV c g'.fz H w u
theorem frzL_ok {c : Ct} {H : Hp} {f : VH → VV → Option (VV × VH)} (hf : FrzOk c H f) : ∀ (vs : List VV) (us : List V) (g : Gh) (h : VH) (ws : List VV) (h' : VH), RH c g h H → RTs c g H vs us → frzL f h vs = some (ws, h') → ∃ g', Stp g H g' H ∧ g'.io = g.io ∧ RH c g' h' H ∧ RVs c g'.fz H ws us
  | [], us, g, h, ws, h', rh, r, e => by
    unfold frzL at e
    cases e
    rw [show us = [] from r]
    exact ⟨g, .refl, rfl, rh, RVs.nil⟩
  | v :: vs, us, g, h, ws, h', rh, r, e => by
    obtain ⟨u, q, rfl, a, b⟩ := r
    unfold frzL at e
    split at e
    · rename_i w h1 e1
      obtain ⟨g1, s1, i1, r1, v1⟩ := hf g h v u w h1 rh a e1
      split at e
      · rename_i ws' h2 e2
        cases e
        obtain ⟨g2, s2, i2, r2, v2⟩ := frzL_ok hf vs q g1 h1 _ _ r1 (b.stp s1) e2
        exact ⟨g2, s1.trans s2, i2.trans i1, r2, RVs.cons (s2.rv v1) v2⟩
      · cases e
    · cases e
theorem frzV_ok {c : Ct} {H : Hp} : ∀ k : Nat, FrzOk c H (frzV k)
  | 0 => fun g h v u w h' _ _ e => by simp [frzV] at e
  | k + 1 => fun g h v u w h' rh r e => by
    cases v with
    | obj n =>
      obtain ⟨a, ea, eu⟩ := r
      unfold frzV at e
      split at e
      · rename_i w' en
        cases e
        obtain ⟨fa, rv⟩ := rh.at' n _ a en ea
        exact ⟨g, .refl, rfl, rh, by rw [eu]; exact rv⟩
      · rename_i xs en
        cases e
        obtain ⟨nz, us, hl, rvs⟩ := rh.at' n _ a en ea
        have rv : RV c (g.frz a).fz H (.lst xs) (.ref a) := by
          rw [RV]
          exact ⟨a, us, rfl, .inr rfl, hl, (Stp.kill (p := a)).rvs rvs⟩
        exact ⟨g.frz a, .kill, rfl, rh.kill ea rv, by rw [eu]; exact rv⟩
      · rename_i ks vs en
        cases e
        obtain ⟨nz, us, hl, ln, rvs⟩ := rh.at' n _ a en ea
        have rv : RV c (g.frz a).fz H (.dT ks vs) (.ref a) := by
          rw [RV]
          exact ⟨a, us, rfl, .inr rfl, .inl hl, ln, (Stp.kill (p := a)).rvs rvs⟩
        exact ⟨g.frz a, .kill, rfl, rh.kill ea rv, by rw [eu]; exact rv⟩
      · rename_i ks vs en
        cases e
        obtain ⟨nz, us, hl, ln, rvs⟩ := rh.at' n _ a en ea
        have rv : RV c (g.frz a).fz H (.dK ks vs) (.ref a) := by
          rw [RV]
          exact ⟨a, us, rfl, (.inr rfl), .inl hl, ln, (Stp.kill (p := a)).rvs rvs⟩
        exact ⟨g.frz a, .kill, rfl, rh.kill ea rv, by rw [eu]; exact rv⟩
      · rename_i xs en
        obtain ⟨nz, us, hl, rts⟩ := rh.at' n _ a en ea
        split at e
        · rename_i ys h1 e1
          cases e
          obtain ⟨g1, s1, i1, r1, v1⟩ := frzL_ok (frzV_ok k) xs us g h ys h1 rh rts e1
          have rv : RV c (g1.frz a).fz H (.lst ys) (.ref a) := by
            rw [RV]
            exact ⟨a, us, rfl, .inr rfl, hl, (Stp.kill (p := a)).rvs v1⟩
          exact ⟨g1.frz a, s1.trans .kill, i1, r1.kill (by rw [i1]; exact ea) rv, by rw [eu]; exact rv⟩
        · cases e
      · rename_i x ns vs en
        obtain ⟨nz, C, dx, us, m, hl, ln, rts⟩ := rh.at' n _ a en ea
        split at e
        · rename_i ys h1 e1
          cases e
          obtain ⟨g1, s1, i1, r1, v1⟩ := frzL_ok (frzV_ok k) vs us g h ys h1 rh rts e1
          have rv : RV c (g1.frz a).fz H (.ins x ns ys) (.ref a) := by
            rw [RV]
            exact ⟨a, C, dx, us, rfl, .inr rfl, m, hl, ln, (Stp.kill (p := a)).rvs v1⟩
          exact ⟨g1.frz a, s1.trans .kill, i1, r1.kill (by rw [i1]; exact ea) rv, by rw [eu]; exact rv⟩
        · cases e
      · cases e
    | _ =>
      unfold frzV at e
      cases e
      exact ⟨g, .refl, rfl, rh, r.rv rfl⟩
def frzR (v : VV) (h : VH) : Res VV := match frzV 4 h v with
  | some (w, h2) => .ok w h2
  | none => .no
def eFrzD (f : EF) : EF := fun ρ h => (f ρ h).bind frzR
section
variable {X : Cx} {W : WX}
theorem j_frzD {e : Expr} {f : EF} (h : PE X e (tE (ct X) W f)) : PE X e (tE (ct X) W (eFrzD f)) :=
  PE.mono h fun σ H Q ⟨g, ρ, h0, rh, rs, p⟩ => by
    refine ⟨g, ρ, h0, rh, rs, (Pst.bind (R := RT (ct X)) p).imp fun u H1 ⟨g1, v, h1, st, rh1, rv1, p1⟩ => ?_⟩
    unfold frzR at p1
    split at p1
    · rename_i w h2 e
      obtain ⟨g2, s2, _, r2, v2⟩ := frzV_ok 4 g1 h1 v u w h2 rh1 rv1 e
      exact p1 g2 H1 u s2 r2 (RT.of_rv v2)
    · exact p1.elim
end
/-! comprehensions whose elements may be roots -/
def lcGoR (b : VV → VSt → Option VSt) (t : TF) (e : EF) (ρ : VSt) : List VV → VH → Res (List VV)
  | [], h => .ok [] h
  | x :: xs, h => match b x ρ with
    | none => .no
    | some ρ' => (t ρ' h).bind fun k h1 => if k = true then (e ρ' h1).bind fun v h2 => (lcGoR b t e ρ xs h2).bind fun vs h3 => .ok (v :: vs) h3 else lcGoR b t e ρ xs h1
def eLcR (own : List Nat) (it : AF) (b : VV → VSt → Option VSt) (t : TF) (e : EF) : EF := fun ρ h => (it ρ h).bind fun xs h1 => if xs.length > SZ then .no else match lcGoR b t e (wp ρ own) xs h1 with
  | .ok vs h2 => .ok (.obj h2.length) (h2 ++ [.lo vs])
  | _ => .no
end J
namespace J
open PySem L2
open PyProof.Rows (envOfC)
/-! calls with keywords -/
section
variable {X : Cx} {W : WX}
theorem PK.mono {e : List Keyword} {t t' : TA} (h : PK X e t) (m : ∀ σ H Q, t' σ H Q → t σ H Q) : PK X e t' := ⟨fun pos pins s σ H Q I q => h.run pos pins s σ H Q I (m σ H Q q)⟩
/-- positional values, then the keywords' -/
def aApp (n m : Nat) (a b : AF) : AF := fun ρ h => (a ρ h).bind fun vs h1 => (b ρ h1).bind fun ws h2 => if vs.length = n ∧ ws.length = m then .ok (vs ++ ws) h2 else .no
end
section
variable {X : Cx} {W : WX}
/-! xs[i] op= e, xs a root -/
/-- o[i] += e, ints -/
def augV (fe : EF) (ρ : VSt) (ov iv : VV) (h2 : VH) : SR := if ov.isObj = true then (match opIx h2 ov iv with
  | some (.int a) => (fe ρ h2).st ρ fun v h3 => match v with
    | .int b => match setI h3 ov iv (.int (a + b)) with
      | some h4 => .nx ρ h4
      | none => .no
    | _ => .no
  | _ => .no) else .no
def sAugI (o i e : EF) : SF := fun ρ h => (o ρ h).st ρ fun ov h1 => (i ρ h1).st ρ fun iv h2 => augV e ρ ov iv h2
end
end J
namespace J
open PySem L2
open PyProof.Rows (envOfC)
/-! x in y -/
def seqV (h : VH) : VV → Option (List VV)
  | .tup xs => some xs
  | v => lstOf h v
theorem seqV_get {c : Ct} {g : Gh} {h : VH} {H : Hp} {v : VV} {u : V} {xs : List VV} (rh : RH c g h H) (rv : RT c g H v u) (e : seqV h v = some xs) : ∃ p us, u = .ref p ∧ (SqL c.K H p us ∨ SqT c.K H p us) ∧ RVs c g.fz H xs us := by
  have old : lstOf h v = some xs → ∃ p us, u = .ref p ∧ (SqL c.K H p us ∨ SqT c.K H p us) ∧ RVs c g.fz H xs us := fun e => by
    obtain ⟨p, us, a, b, r⟩ := lstOf_get rh rv e
    exact ⟨p, us, a, .inl b, r⟩
  cases v with
  | tup ys =>
    cases e
    obtain ⟨p, us, a, b, r⟩ := tup_get rv
    exact ⟨p, us, a, .inr b.sq, r⟩
  | _ => exact old e
/-- lists of tuples of ints -/
def tupsOf : List VV → Option (List (List Int))
  | [] => some []
  | v :: vs => (intsV v).bind fun k => (tupsOf vs).map fun ks => k :: ks
theorem tupsOf_inv : ∀ {xs : List VV} {ks : List (List Int)}, tupsOf xs = some ks → xs = ks.map tupI
  | [], ks, e => by cases e; rfl
  | v :: vs, ks, e => by
    unfold tupsOf at e
    obtain ⟨k, e1, e2⟩ := Option.bind_eq_some_iff.mp e
    obtain ⟨l, e3, e4⟩ := Option.map_eq_some_iff.mp e2
    subst e4
    rw [intsV_inv e1, tupsOf_inv e3]; rfl
theorem isD_tupI (k : List Int) : isD (tupI k) = true := by unfold tupI; rw [isD]; exact isDs_ints k
theorem isDs_tups : ∀ ks : List (List Int), isDs (ks.map tupI) = true
  | [] => rfl
  | k :: ks => by rw [List.map_cons, isDs, isD_tupI, isDs_tups ks]; rfl
theorem toD_tupI (k : List Int) : toD (tupI k) = .tuple (k.map PyData.int) := by unfold tupI; rw [toD, toDs_ints]
theorem toDs_tups : ∀ ks : List (List Int), toDs (ks.map tupI) = ks.map fun k => .tuple (k.map PyData.int)
  | [] => rfl
  | k :: ks => by rw [List.map_cons, toDs, toD_tupI, toDs_tups ks]; rfl
theorem eqv_tups (k l : List Int) : PyData.eqv (.tuple (k.map PyData.int)) (.tuple (l.map PyData.int)) = decide (k = l) := by rw [PyData.eqv, eqvAll_ints]
theorem canLay_tups : ∀ ks : List (List Int), PyData.canLayAll0 (ks.map fun k => .tuple (k.map PyData.int)) = true
  | [] => rfl
  | k :: ks => by rw [List.map_cons, PyData.canLayAll0, PyData.canLay0, canLay_ints, canLay_tups ks]; rfl
theorem depth_tups : ∀ ks : List (List Int), PyData.depthAll (ks.map fun k => .tuple (k.map PyData.int)) ≤ 1
  | [] => Nat.zero_le _
  | k :: ks => by
    rw [List.map_cons, PyData.depthAll, PyData.depth, depth_ints]
    have := depth_tups ks
    omega
theorem shaped_tupI (k : List Int) : SeqAt.shaped (toD (tupI k)) = true := by
  rw [toD_tupI]; unfold SeqAt.shaped; rw [PyData.canLay0, canLay_ints, PyData.depth, depth_ints]; rfl
theorem shaped_tups (ks : List (List Int)) : SeqAt.shaped (toD (.lst (ks.map tupI))) = true := by
  rw [toD, toDs_tups]; unfold SeqAt.shaped; rw [PyData.canLay0, canLay_tups, PyData.depth]
  have := depth_tups ks
  rw [decide_eq_true (by omega)]; rfl
/-- what is in -/
def inV (h : VH) (x y : VV) : Option Bool := match dOf h y with
  | some a => (keyV x).map fun k => hasK a.1 k
  | none => match x with
    | .int i => (seqV h y).bind fun xs => (intsOf xs).map fun ns => decide (i ∈ ns)
    | .str i => (seqV h y).bind fun xs => (strsOf xs).map fun ns => decide (i ∈ ns)
    | .tup k => (intsV (.tup k)).bind fun k => match y with
      | .lst xs => (tupsOf xs).map fun ks => decide (k ∈ ks)
      | _ => none
    | _ => none
def opIn : Op2 := fun h x y => (inV h x y).map .bl
theorem any_dec {α : Type} [DecidableEq α] (x : α) : ∀ l : List α, (l.any fun y => decide (y = x)) = decide (x ∈ l)
  | [] => rfl
  | y :: l => by
    rw [List.any_cons, any_dec x l]
    by_cases h : y = x
    · subst h; simp
    · simp [h, Ne.symm h]
theorem inV_int {i : Int} {ns : List Int} : L2.inV (.int i) (ns.map V.int) = decide (i ∈ ns) := by
  unfold L2.inV
  rw [List.any_map, ← any_dec]
  rfl
theorem inV_str {i : Str} {ns : List Str} : L2.inV (.str i) (ns.map V.str) = decide (i ∈ ns) := by
  unfold L2.inV
  rw [List.any_map, ← any_dec]
  rfl
theorem flat_ints (ns : List Int) : (ns.map V.int).all flatV = true := by simp [flatV]
theorem flat_strs (ns : List Str) : (ns.map V.str).all flatV = true := by simp [flatV]
section
variable {X : Cx} {W : WX}
theorem inV_cases {c : Ct} {g : Gh} {h : VH} {H : Hp} {v w : VV} {x y : V} {b : Bool} (rh : RH c g h H) (rv : RT c g H v x) (rw' : RT c g H w y) (e : inV h v w = some b) :
    (∃ a o, y = .ref a ∧ DGet H a x o ∧ o.isSome = b) ∨ (∃ p xs, y = .ref p ∧ (SqL c.K H p xs ∨ SqT c.K H p xs) ∧ flatV x = true ∧ xs.all flatV = true ∧ L2.inV x xs = b)
      ∨ ∃ d ds, Dp c.K H x d ∧ Dp c.K H y (.list ds) ∧ SeqAt.shaped d = true ∧ SeqAt.shaped (.list ds) = true ∧ (ds.any fun z => PyData.eqv z d) = b := by
  unfold inV at e
  split at e
  · rename_i a ea
    obtain ⟨k, e1, e2⟩ := Option.map_eq_some_iff.mp e
    obtain ⟨p, us, rfl, hp, hl, rvs⟩ := dOf_get rh rw' ea
    obtain ⟨q, rfl, hb⟩ := keyV_at rv e1
    exact .inl ⟨p, _, rfl, .inr ⟨_, _, _, hp, rfl, hb, rfl⟩, by rw [valV_has hl]; exact e2⟩
  · split at e
    · rename_i i
      obtain ⟨xs, e1, e2⟩ := Option.bind_eq_some_iff.mp e
      obtain ⟨ns, e3, e4⟩ := Option.map_eq_some_iff.mp e2
      obtain ⟨p, us, ep, sq, rvs⟩ := seqV_get rh rw' e1
      have eu := intsOf_rv rvs e3
      subst eu
      rw [int_get rv]
      exact .inr (.inl ⟨p, _, ep, sq, rfl, flat_ints ns, by rw [inV_int]; exact e4⟩)
    · rename_i i
      obtain ⟨xs, e1, e2⟩ := Option.bind_eq_some_iff.mp e
      obtain ⟨ns, e3, e4⟩ := Option.map_eq_some_iff.mp e2
      obtain ⟨p, us, ep, sq, rvs⟩ := seqV_get rh rw' e1
      have eu := strsOf_rv rvs e3
      subst eu
      rw [str_get rv]
      exact .inr (.inl ⟨p, _, ep, sq, rfl, flat_strs ns, by rw [inV_str]; exact e4⟩)
    · rename_i k
      obtain ⟨k', e1, e2⟩ := Option.bind_eq_some_iff.mp e
      split at e2
      · rename_i xs
        obtain ⟨ks, e3, e4⟩ := Option.map_eq_some_iff.mp e2
        have ek := intsV_inv e1
        have ex := tupsOf_inv e3
        subst ex
        have d1 := dp_of _ _ (rv.rv (by rfl)) (by rw [ek]; exact isD_tupI k')
        have d2 := dp_of _ _ (rw'.rv (by rfl)) (by rw [isD]; exact isDs_tups ks)
        have s1 := shaped_tupI k'
        have s2 := shaped_tups ks
        rw [ek, toD_tupI] at d1
        rw [toD, toDs_tups] at d2
        rw [toD_tupI] at s1
        rw [toD, toDs_tups] at s2
        refine .inr (.inr ⟨_, _, d1, d2, s1, s2, ?_⟩)
        rw [← e4, List.any_map]
        have := any_dec k' ks
        refine Eq.trans (congrArg ks.any (funext fun n => eqv_tups n k')) (this.trans ?_)
        congr
      · cases e2
    · cases e
theorem op_din (hu : X.A.units + 1 < cLine) : OpR X (compareOp .In) (fun x y H Q => ∃ a o, y = .ref a ∧ DGet H a x o ∧ Q (.bl o.isSome) H) := by
  intro pins s σ H x y v u Q I rx ry h
  obtain ⟨a, o, rfl, g, q⟩ := h
  obtain rfl : u = Value.ref a := ry
  exact d_in hu I g rx fun s' I' => ⟨.bl o.isSome, H, I', rfl, q⟩
theorem or_in {k : Nat} (hr : Room k X.A) : OpR X (compareOp .In) (Rd2 (ct X) opIn) :=
  OpR.imp (OpR.or (op_din (by have := hr.units; omega)) (OpR.or op_in_seq (op_inD (by have := hr.un; omega)))) fun x y H Q ⟨g, h, v, w, r, rh, rv, rw', e, kk⟩ => by
    obtain ⟨b, e1, e2⟩ := Option.map_eq_some_iff.mp e
    subst e2
    have fin := kk g H _ .refl rh rt_bl
    rcases inV_cases rh rv rw' e1 with ⟨a, o, q1, q2, q3⟩ | ⟨p, xs, q1, q2, q3, q4, q5⟩ | ⟨d, ds, q1, q2, q3, q4, q5⟩
    · exact .inl ⟨a, o, q1, q2, by rw [q3]; exact fin⟩
    · exact .inr (.inl ⟨p, xs, q1, q2, q3, q4, by rw [q5]; exact fin⟩)
    · exact .inr (.inr ⟨d, ds, q1, q2, q3, q4, by rw [q5]; exact fin⟩)
/-! min, int -/
/-! new lists as roots -/
abbrev OpL := VH → List VV → Option (List VV)
def newO (o : Option (List VV)) (h : VH) : Res VV := match o with
  | some xs => .ok (.obj h.length) (h ++ [.fl xs])
  | none => .no
def eNewO (op : OpL) (a : AF) : EF := fun ρ h => (a ρ h).bind fun v h1 => newO (op h1 v) h1
def lList : OpL := fun h vs => match vs with
  | [v] => seqV h v
  | _ => none
/-- [..] * n as a root -/
def repO (v w : VV) : Option (List VV) := match v, w with
  | .lst xs, .int k => if -(2 ^ 63) ≤ k ∧ k < 2 ^ 63 ∧ xs.length * k.toNat ≤ SZ then some (List.replicate k.toNat xs).flatten else none
  | _, _ => none
def eRepO (a b : EF) : EF := fun ρ h => (a ρ h).bind fun v h1 => (b ρ h1).bind fun w h2 => newO (repO v w) h2
/-! list(range(n)) -/
def eListRngO (f : EF) : EF := fun ρ h => (f ρ h).bind fun v h1 => match v with
  | .int n => if 0 ≤ n ∧ n ≤ SZ then .ok (.obj h1.length) (h1 ++ [.fl (rngV 0 n.toNat)]) else .no
  | _ => .no
/-! l.index(x), tuples of ints -/
end
end J
namespace J
open PySem L2
open PyProof.Rows (envOfC)
def eDnew : EF := fun _ h => .ok (.obj h.length) (h ++ [.dT [] []])
/-! methods and classes of the text -/
structure Dm (K : PySem.W.Frag) (x q : Str) (st : Stmt) (dvs : List V) (kws : List (Str × V)) (f : Addr) (fd : FuncData) : Prop where
  F : FunD K x q (defArgs st) (defBody st) (defScope st) dvs kws f fd
/-- a class: what is read of it -/
structure ClsT (K : PySem.W.Frag) (mg : Str → Option Value) (cn : Str) (C : Addr) : Prop where
  m : mg cn = some (.ref C)
  c : Cls K C
section
variable {P : Program} {w : World} {K : PySem.W.Frag} {mg : Str → Option Value} {base : Heap}
theorem fnokM_of {x q : Str} {st : Stmt} {dvs : List V} {kws : List (Str × V)} {f : Addr} {fd : FuncData} {N ps : List Str} {k n m : Nat} {B : SF} (D : Dm K x q st dvs kws f fd) (S : FnScope N ps (defScope st)) (hn : n = N.length) (hp : ps.length ≤ n) (hm : m = ps.length)
    (hbody : ∀ (cdv : Value) (A : Around) (outer : List Env) (s : Shared) (H : Hp) (E : XK), Room k (A.deeper (envOfC q (defScope st) s.heap.objs.size f cdv)) →
      PSs (cxOf (L2N.CX P w) P w K mg base N q (defScope st) f cdv A outer s H E) (defBody st) (tS ⟨K, mg⟩ (fun a d _ H' => E a d H') B)) :
    FnOk P w K mg base (L2N.CX P w) (k + 1) f fd ps (spF ⟨K, mg⟩ m (fnF n B)) := by
  subst hm
  exact fn_ok D.F S hn hp hbody
end
end J
namespace J
open PySem L2
/-! evaluation of what J8 to J27 added -/
section
variable {ρ : VSt} {h : VH}
def frzO (o : Option VO) (n : Nat) (h : VH) : Res VV := match o with
  | some (.fl xs) => .ok (.lst xs) (h.set n (.fzn (.lst xs)))
  | some (.fzn w) => .ok w h
  | some (.dT ks vs) => .ok (.dT ks vs) (h.set n (.fzn (.dT ks vs)))
  | some (.dK ks vs) => .ok (.dK ks vs) (h.set n (.fzn (.dK ks vs)))
  | some (.lo xs) => frzR (.obj n) h
  | some (.ins _ _ _) => frzR (.obj n) h
  | none => .no
theorem a_frzD {f} : eFrzD f ρ h = bnd (f ρ h) frzR (tg _) := nr rfl
theorem frzR_obj {n : Nat} : frzR (.obj n) h = frzO (h[n]?) n h := by
  cases e : h[n]? with
  | none => simp only [frzO, frzR, frzV, e]
  | some o => cases o <;> simp only [frzO, frzR, frzV, e]
theorem frzO_fl {xs n} : frzO (some (.fl xs)) n h = .ok (.lst xs) (h.set n (.fzn (.lst xs))) := nr rfl
theorem frzO_fzn {w n} : frzO (some (.fzn w)) n h = .ok w h := nr rfl
theorem frzR_lst {xs} : frzR (.lst xs) h = .ok (.lst xs) h := nr rfl
theorem frzR_tup {xs} : frzR (.tup xs) h = .ok (.tup xs) h := nr rfl
theorem frzR_int {i} : frzR (.int i) h = .ok (.int i) h := nr rfl
theorem a_newO {op a} : eNewO op a ρ h = bnd (a ρ h) (fun v h1 => newO (op h1 v) h1) (tg _) := nr rfl
theorem newO_some {xs} : newO (some xs) h = .ok (.obj h.length) (h ++ [.fl xs]) := nr rfl
theorem lList_lst {xs} : lList h [.lst xs] = some xs := nr rfl
theorem lList_tup {xs} : lList h [.tup xs] = some xs := nr rfl
def lrO (v : VV) (h1 : VH) : Res VV := match v with
  | .int n => if 0 ≤ n ∧ n ≤ SZ then .ok (.obj h1.length) (h1 ++ [.fl (rngV 0 n.toNat)]) else .no
  | _ => .no
theorem a_listRngO {f} : eListRngO f ρ h = bnd (f ρ h) lrO (tg _) := nr rfl
theorem lrO_int {n : Int} : lrO (.int n) h = if 0 ≤ n ∧ n ≤ SZ then .ok (.obj h.length) (h ++ [.fl (rngV 0 n.toNat)]) else .no := nr rfl
theorem a_repO {a b} : eRepO a b ρ h = bnd (a ρ h) (fun v h1 => bnd (b ρ h1) (fun w h2 => newO (repO v w) h2) (tg _)) (tg _) := nr rfl
theorem repO_lst {xs : List VV} {k : Int} : repO (.lst xs) (.int k) = if -(2 ^ 63) ≤ k ∧ k < 2 ^ 63 ∧ xs.length * k.toNat ≤ SZ then some (List.replicate k.toNat xs).flatten else none := nr rfl
def chkL {α : Type} (o : Option (List VV)) (r : Res α) : Res α := match o with
  | none => .no
  | some _ => r
theorem chkL_some {α : Type} {xs : List VV} {r : Res α} : chkL (some xs) r = r := nr rfl
def lstO (o : Option VO) : Option (List VV) := match o with
  | some (.fl xs) => some xs
  | some (.fzn (.lst xs)) => some xs
  | _ => none
theorem lstOf_obj {n : Nat} : lstOf h (.obj n) = lstO (h[n]?) := by
  unfold lstOf lstO
  rfl
theorem lstO_fl {xs} : lstO (some (.fl xs)) = some xs := nr rfl
theorem lstO_fzn {xs} : lstO (some (.fzn (.lst xs))) = some xs := nr rfl
def lstRO (o : Option VO) : Option (List VV) := match o with
  | some (.lo xs) => some xs
  | some (.fl xs) => some xs
  | some (.fzn (.lst xs)) => some xs
  | _ => none
theorem lstR_obj {n : Nat} : lstR h (.obj n) = lstRO (h[n]?) := by
  cases e : h[n]? with
  | none => simp only [lstR, lstRO, lstOf, e]
  | some o =>
    cases o with
    | fzn w => cases w <;> simp only [lstR, lstRO, lstOf, e]
    | _ => simp only [lstR, lstRO, lstOf, e]
theorem lstRO_fl {xs} : lstRO (some (.fl xs)) = some xs := nr rfl
theorem lstRO_lo {xs} : lstRO (some (.lo xs)) = some xs := nr rfl
theorem lstRO_fzn {xs} : lstRO (some (.fzn (.lst xs))) = some xs := nr rfl
def popO (o : Option VO) (n : Nat) (k : Int) (h : VH) : Res VV := match o with
  | some (.fl xs) => if 0 ≤ k ∧ k < xs.length ∧ k < 2 ^ 62 then (match xs[k.toNat]? with
    | some v => .ok v (h.set n (.fl (xs.eraseIdx k.toNat)))
    | none => .no) else .no
  | _ => .no
def popR (h : VH) (ov iv : VV) : Res VV := match popI h ov iv with
  | some (v, h3) => .ok v h3
  | none => .no
theorem a_pop {fo fi} : ePop fo fi ρ h = bnd (fo ρ h) (fun ov h1 => chkL (lstOf h1 ov) (bnd (fi ρ h1) (fun iv h2 => popR h2 ov iv) (tg _))) (tg _) := by
  unfold ePop
  cases fo ρ h with
  | no => rfl
  | exc => rfl
  | ok ov h1 =>
    show (match lstOf h1 ov with
      | none => Res.no
      | some _ => _) = chkL (lstOf h1 ov) _
    cases lstOf h1 ov with
    | none => rfl
    | some _ => rfl
theorem popR_obj {n : Nat} {k : Int} : popR h (.obj n) (.int k) = popO (h[n]?) n k h := by
  cases e : h[n]? with
  | none => simp only [popR, popI, popO, e]
  | some o =>
    cases o with
    | fl xs =>
      simp only [popR, popI, popO, e]
      by_cases c : 0 ≤ k ∧ k < xs.length ∧ k < 2 ^ 62
      · rw [if_pos c, if_pos c]
        cases xs[k.toNat]? <;> rfl
      · rw [if_neg c, if_neg c]
    | _ => simp only [popR, popI, popO, e]
def appO (o : Option VO) (n : Nat) (h2 : VH) (v : VV) : Res VV := match o with
  | some (.fl xs) => if xs.length ≥ SZ then .no else if v.isObj = true then .ok .non (h2.set n (.lo (xs ++ [v]))) else .ok .non (h2.set n (.fl (xs ++ [v])))
  | some (.lo xs) => if xs.length ≥ SZ then .no else .ok .non (h2.set n (.lo (xs ++ [v])))
  | _ => .no
theorem a_app {o e} : eApp o e ρ h = bnd (o ρ h) (fun ov h1 => chkL (lstR h1 ov) (bnd (e ρ h1) (fun v h2 => appV h2 ov v) (tg _))) (tg _) := by
  unfold eApp
  cases o ρ h with
  | no => rfl
  | exc => rfl
  | ok ov h1 =>
    show (match lstR h1 ov with
      | none => Res.no
      | some _ => _) = chkL (lstR h1 ov) _
    cases lstR h1 ov with
    | none => rfl
    | some _ => rfl
theorem appV_obj {n : Nat} {v : VV} : appV h (.obj n) v = appO (h[n]?) n h v := nr rfl
theorem appO_fl {xs : List VV} {n : Nat} {v : VV} (hl : xs.length < 16777216) (hv : v.isObj = false) : appO (some (.fl xs)) n h v = .ok .non (h.set n (.fl (xs ++ [v]))) := by
  show (if xs.length ≥ 16777216 then _ else _) = _
  rw [if_neg (by omega), if_neg (by rw [hv]; decide)]
def enumI (v : List VV) (h : VH) : Res (List VV) := match v with
  | [.lst xs] => .ok (enum 0 xs) h
  | [.scr xs] => .ok (enum 0 xs) h
  | _ => .no
theorem enumI_lst {xs} : enumI [.lst xs] h = .ok (enum 0 xs) h := nr rfl
theorem s_augI {o i e} : sAugI o i e ρ h = sbd (o ρ h) ρ (fun ov h1 => sbd (i ρ h1) ρ (fun iv h2 => augV e ρ ov iv h2) (tg _)) (tg _) := nr rfl
def augO (fe : EF) (ρ : VSt) (n : Nat) (k : Int) (o : Option VV) (h2 : VH) : SR := match o with
  | some (.int a) => sbd (fe ρ h2) ρ (fun v h3 => match v with
    | .int b => onh (setI h3 (.obj n) (.int k) (.int (a + b))) ρ
    | _ => .no) (tg _)
  | _ => .no
theorem augV_obj {fe n} {k : Int} : augV fe ρ (.obj n) (.int k) h = augO fe ρ n k (opIx h (.obj n) (.int k)) h := by
  unfold augV augO
  rw [if_pos (show (VV.obj n).isObj = true from rfl)]
  rfl
theorem augO_int {fe n} {k a : Int} : augO fe ρ n k (some (.int a)) h = sbd (fe ρ h) ρ (fun v h3 => match v with
    | .int b => onh (setI h3 (.obj n) (.int k) (.int (a + b))) ρ
    | _ => .no) (tg _) := rfl
theorem s_setD {o i e} : sSetD o i e ρ h = sbd (e ρ h) ρ (fun v h1 => sbd (o ρ h1) ρ (fun ov h2 => sbd (i ρ h2) ρ (fun iv h3 => onh (setD h3 ov iv v) ρ) (tg _)) (tg _)) (tg _) := nr rfl
theorem a_dnew : eDnew ρ h = .ok (.obj h.length) (h ++ [.dT [] []]) := nr rfl
def fldR (cn f : Str) (o : Option (Str × List Str × List VV)) (h : VH) : Res VV := match o with
  | some a => if a.1 = cn then lift (lookN a.2.1 a.2.2 f) h else .no
  | none => .no
theorem a_fld {cn f fe} : eFld cn f fe ρ h = bnd (fe ρ h) (fun v h1 => fldR cn f (insOf h1 v) h1) (tg _) := nr rfl
def insO (o : Option VO) : Option (Str × List Str × List VV) := match o with
  | some (.ins c ns vs) => some (c, ns, vs)
  | some (.fzn (.ins c ns vs)) => some (c, ns, vs)
  | _ => none
theorem insOf_obj {n : Nat} : insOf h (.obj n) = insO (h[n]?) := by
  unfold insOf insO
  rfl
theorem insO_ins {c ns vs} : insO (some (.ins c ns vs)) = some (c, ns, vs) := nr rfl
theorem insOf_ins {c ns vs} : insOf h (.ins c ns vs) = some (c, ns, vs) := nr rfl
def methC (cn m : Str) (o : Option (Str × List Str × List VV)) (r : Res VV) : Res VV := match o with
  | some a => if a.1 = cn ∧ lookN a.2.1 a.2.2 m = none then r else .no
  | none => .no
theorem a_meth {cn m n F dws fo fa} : eMeth cn m n F dws fo fa ρ h = bnd (fo ρ h) (fun v h1 => methC cn m (insOf h1 v) (bnd (fa ρ h1) (fun vs h2 => if (v :: (vs ++ dws)).length = n then noX (F (v :: (vs ++ dws)) h2) else .no) (tg _))) (tg _) := by
  unfold eMeth
  cases fo ρ h with
  | no => rfl
  | exc => rfl
  | ok v h1 =>
    show (match insOf h1 v with
      | some a => _
      | none => Res.no) = methC cn m (insOf h1 v) _
    cases insOf h1 v with
    | none => rfl
    | some _ => rfl
theorem noX_ok {α : Type} {a : α} : noX (.ok a h) = .ok a h := nr rfl
theorem a_make {cn n F dws fa} : eMakeZ cn n F dws fa ρ h = bnd (fa ρ h) (fun vs h1 => if (VV.obj h1.length :: (vs ++ dws)).length = n then mkZ h1.length (F (.obj h1.length :: (vs ++ dws)) (h1 ++ [.ins cn [] []])) else .no) (tg _) := nr rfl
theorem s_fldS {cn f fo fe} : sFldS cn f fo fe ρ h = sbd (fe ρ h) ρ (fun v h1 => sbd (fo ρ h1) ρ (fun ov h2 => onh (setF h2 cn f ov v) ρ) (tg _)) (tg _) := nr rfl
def setFO (o : Option VO) (n : Nat) (h : VH) (cn f : Str) (v : VV) : Option VH := match o with
  | some (.ins c ns vs) => if c = cn ∧ ns.length < 1000 then some (h.set n (.ins c (putN ns f) (putW ns vs f v))) else none
  | _ => none
theorem setF_obj {n : Nat} {cn f v} : setF h cn f (.obj n) v = setFO (h[n]?) n h cn f v := nr rfl
theorem a_aApp {n m a b} : aApp n m a b ρ h = bnd (a ρ h) (fun vs h1 => bnd (b ρ h1) (fun ws h2 => if vs.length = n ∧ ws.length = m then .ok (vs ++ ws) h2 else .no) (tg _)) (tg _) := nr rfl
def afterR (r : Res (List VV)) : Res VV := match r with
  | .ok vs h2 => .ok (.obj h2.length) (h2 ++ [.lo vs])
  | _ => .no
theorem afterR_ok {vs : List VV} : afterR (.ok vs h) = .ok (.obj h.length) (h ++ [.lo vs]) := nr rfl
theorem a_lcR {own it b t e} : eLcR own it b t e ρ h = bnd (it ρ h) (fun xs h1 => if xs.length > SZ then .no else afterR (lcGoR b t e (wp ρ own) xs h1)) (tg _) := nr rfl
theorem a_lenSc {own it b fe} : eLenSc own it b fe ρ h = bnd (it ρ h) (fun xs h1 => bnd (noX (accGo b (stSet fe) (wp ρ own) xs h1 [])) (fun a h2 => .ok (.int a.length) h2) (tg _)) (tg _) := nr rfl
theorem a_dc2 {own it b it1 b1 vs1 fk fv} : eDc2 own it b it1 b1 vs1 fk fv ρ h = bnd (it ρ h) (fun xs h1 => bnd (noX (accGo b (stIn it1 b1 vs1 (stDict fk fv)) (wp ρ own) xs h1 ([], []))) (fun a h2 => .ok (.dT a.1 a.2) h2) (tg _)) (tg _) := nr rfl
theorem a_enum {f} : iEnum f ρ h = bnd (f ρ h) enumI (tg _) := nr rfl
end
/-! loops -/
section
variable {α : Type}
theorem lc_map {b : VV → VSt → Option VSt} {t : TF} {e : EF} {ρ : VSt} {h : VH} (f g : α → VV) {ys : List α} (hy : ∀ y ∈ ys, ∃ ρ', b (f y) ρ = some ρ' ∧ t ρ' h = .ok true h ∧ e ρ' h = .ok (g y) h ∧ (g y).isObj = false) : lcGo b t e ρ (ys.map f) h = .ok (ys.map g) h := by
  induction ys with
  | nil => rfl
  | cons y ys ih =>
    obtain ⟨ρ', h1, h2, h3, h4⟩ := hy y List.mem_cons_self
    rw [List.map_cons, lcGo, h1]
    simp only [h2, bind_ok, h3, h4, Bool.false_eq_true, if_false, if_true, ih fun z hz => hy z (List.mem_cons_of_mem _ hz), List.map_cons]
/-- elements that draw, typed -/
theorem lc_draw {β : Type} {b : VV → VSt → Option VSt} {t : TF} {e : EF} {ρ : VSt} (f : α → VV) (g : β → VV) (I : VH → Prop) (P : β → Prop) : ∀ {ys : List α} {h : VH}, I h → (∀ y ∈ ys, ∀ h, I h → ∃ ρ' v h', b (f y) ρ = some ρ' ∧ t ρ' h = .ok true h ∧ e ρ' h = .ok (g v) h' ∧ (g v).isObj = false ∧ I h' ∧ P v) →
    ∃ (vs : List β) (h' : VH), lcGo b t e ρ (ys.map f) h = .ok (vs.map g) h' ∧ I h' ∧ vs.length = ys.length ∧ ∀ v ∈ vs, P v
  | [], h, hi, _ => ⟨[], h, rfl, hi, rfl, fun v hv => by simp at hv⟩
  | y :: ys, h, hi, hx => by
    obtain ⟨ρ', v, h1, e1, e2, e3, e4, hi1, hp⟩ := hx y List.mem_cons_self h hi
    obtain ⟨vs, h2, e5, hi2, hl, hps⟩ := lc_draw f g I P (ys := ys) hi1 fun z hz => hx z (List.mem_cons_of_mem _ hz)
    refine ⟨v :: vs, h2, ?_, hi2, by simp [hl], fun w hw => ?_⟩
    · rw [List.map_cons, lcGo, e1]
      simp only [e2, bind_ok, e3, e4, Bool.false_eq_true, if_false, if_true, e5, List.map_cons]
    · rcases List.mem_cons.mp hw with rfl | hw
      · exact hp
      · exact hps w hw
/-- a loop by what holds behind each first part of the items -/
theorem for_pre {b : VV → VSt → Option VSt} {body : SF} (f : α → VV) (I : List α → VSt → VH → Prop) (ys : List α) {ρ : VSt} {h : VH} (h0 : I [] ρ h)
    (hs : ∀ pre y post, ys = pre ++ y :: post → ∀ ρ h, I pre ρ h → ∃ ρ' ρ2 h2, b (f y) ρ = some ρ' ∧ body ρ' h = .nx ρ2 h2 ∧ I (pre ++ [y]) ρ2 h2) : ∃ ρ2 h2, forGo b body (ys.map f) ρ h = .nx ρ2 h2 ∧ I ys ρ2 h2 := by
  have key : ∀ (post pre : List α), ys = pre ++ post → ∀ ρ h, I pre ρ h → ∃ ρ2 h2, forGo b body (post.map f) ρ h = .nx ρ2 h2 ∧ I ys ρ2 h2 := by
    intro post
    induction post with
    | nil =>
      intro pre e ρ h hi
      rw [List.append_nil] at e
      subst e
      exact ⟨ρ, h, for_nil, hi⟩
    | cons y post ih =>
      intro pre e ρ h hi
      obtain ⟨ρ', ρ2, h2, e1, e2, hi2⟩ := hs pre y post e ρ h hi
      obtain ⟨ρ3, h3, e3, hi3⟩ := ih (pre ++ [y]) (by rw [e]; simp) ρ2 h2 hi2
      refine ⟨ρ3, h3, ?_, hi3⟩
      rw [List.map_cons, for_cons, e1, obd_some, e2, trn_nx, e3]
  exact key ys [] rfl ρ h h0
end
end J
namespace M
open J
/-! sorted lists of ints -/
def leI (a b : Int) : Bool := decide (a ≤ b)
def isort (l : List Int) : List Int := l.mergeSort leI
/-- strictly growing -/
abbrev Inc (l : List Int) : Prop := l.Pairwise (fun a b => a < b)
theorem Inc.le {l : List Int} (h : Inc l) : l.Pairwise (fun a b => a ≤ b) := h.imp fun h => Int.le_of_lt h
theorem Inc.sub {l m : List Int} (h : Inc m) (s : l.Sublist m) : Inc l := List.Pairwise.sublist s h
/-! all parts of a list -/
def allS (l : List Int) : List (List Int) := l.foldl (fun acc p => acc ++ acc.map (fun s => s ++ [p])) [[]]
def subs (l : List Int) : List (List Int) := (allS l).drop 1
/-! faces -/
/-- a face: growing -/
structure Face (f : List Int) : Prop where
  inc : Inc f
  pos : f ≠ []
  le : f.length ≤ 4
  rng : ∀ p ∈ f, 0 ≤ p ∧ p ≤ 15
theorem Face.sub {f s : List Int} (h : Face f) (hs : s.Sublist f) (n : s ≠ []) : Face s := ⟨h.inc.sub hs, n, Nat.le_trans hs.length_le h.le, fun p hp => h.rng p (hs.subset hp)⟩
/-! lists of faces, in order -/
/-- the faces of faces, each once, in order -/
def parts (fs : List (List Int)) : List (List Int) := fs.flatMap fun f => subs (isort f)
/-! few faces -/
def Few (fs : List (List Int)) : Prop := ∃ D : List (List Int), D.length < 61 ∧ ∀ s ∈ parts fs, s ∈ D
theorem Few.low {fs : List (List Int)} (h : Few fs) : (parts fs).eraseDups.length < 61 := by
  obtain ⟨D, hl, hD⟩ := h
  exact Nat.lt_of_le_of_lt (few_of (nodup_eraseDups _) fun x hx => hD x (List.mem_eraseDups.mp hx)) hl
theorem Few.len {fs : List (List Int)} (h : Few fs) : (parts fs).eraseDups.length < 76 := Nat.lt_trans h.low (by decide)
/-! faces told by places -/
end M
namespace M
open J PySem L2
/-! each thing once, in the order in which they come -/
section
variable {α : Type} [DecidableEq α]
def dd (l : List α) : List α := l.foldl (fun a x => if x ∈ a then a else a ++ [x]) []
end
/-! dict keys -/
/-! a web as a value -/
def sz (E : List (List Int)) (k : Nat) : List (List Int) := E.filter fun f => decide (f.length = k)
end M
namespace J
open PySem L2 M
section
variable {ρ : VSt} {h : VH}
theorem fin_low {v : VV} {n : Nat} {h : VH} {t : VH} (hn : h.length = n) (hv : lowV n v = true) (ho : h.all (lowO n) = true) : (SR.ret v (h ++ t)).fin n = .ok v h := by
  show Res.ok v (trim n v (h ++ t)) = _
  unfold trim
  by_cases e : (h ++ t).length = n
  · rw [if_pos e]
    have : t = [] := by
      rw [List.length_append] at e
      exact List.length_eq_zero_iff.mp (by omega)
    rw [this, List.append_nil]
  · rw [if_neg e]
    have : (h ++ t).take n = h := by rw [← hn, List.take_left]
    rw [this, if_pos ⟨hv, ho⟩]
theorem fin_o {v : VV} {o : VO} {t : VH} (hv : lowV 1 v = true) (ho : lowO 1 o = true) : (SR.ret v (o :: t)).fin 1 = .ok v [o] := fin_low (h := [o]) rfl hv (by simp [ho])
/-! sorted -/
theorem rng_eq (n : Nat) : rngV 0 n = (List.range n).map fun (i : Nat) => VV.int (0 + (i : Int)) := nr rfl
theorem sl_lst {xs : List VV} {lo hi : Option Int} : opSl h (.lst xs) lo hi = some (.lst (cut xs lo hi)) := nr rfl
theorem sl_tup {xs : List VV} {lo hi : Option Int} : opSl h (.tup xs) lo hi = some (.tup (cut xs lo hi)) := nr rfl
theorem add_lst {xs ys : List VV} (hl : xs.length + ys.length ≤ 16777216) : opAdd h (.lst xs) (.lst ys) = some (.lst (xs ++ ys)) := by
  show (if xs.length + ys.length ≤ 16777216 then _ else _) = _
  rw [if_pos hl]
theorem add_tup {xs ys : List VV} (hl : xs.length + ys.length ≤ 16777216) : opAdd h (.tup xs) (.tup ys) = some (.tup (xs ++ ys)) := by
  show (if xs.length + ys.length ≤ 16777216 then _ else _) = _
  rw [if_pos hl]
end
end J
namespace J
theorem rngB {n : Int} (h0 : 0 ≤ n) (h1 : n ≤ 1000000) : -(2 ^ 62) ≤ n ∧ n < 2 ^ 62 := ⟨by omega, by omega⟩
end J
namespace J
open PySem L2
/-! dicts with ints or texts as keys, by value -/
abbrev DKA := List Key × List VV
def hasQ (ks : List Key) (k : Key) : Bool := ks.any fun x => decide (x = k)
def putVQ {α : Type} (ks : List Key) (vs : List α) (k : Key) (v : α) : List α := if hasQ ks k = true then (ks.zip vs).map (fun p => if p.1 = k then v else p.2) else vs ++ [v]
def putKQ (ks : List Key) (k : Key) : List Key := if hasQ ks k = true then ks else ks ++ [k]
section
variable {X : Cx} {W : WX}
def eKnew : EF := fun _ h => .ok (.obj h.length) (h ++ [.dK [] []])
/-- d[k] = v, d a root -/
def setK (h : VH) (o i v : VV) : Option VH := match o with
  | .obj n => match h[n]? with
    | some (.dK ks vs) => (keyA i).bind fun k => if v.isObj = true ∨ ks.length ≥ SZ then none else some (h.set n (.dK (putKQ ks k) (putVQ ks vs k v)))
    | _ => none
  | _ => none
def sSetK (o i e : EF) : SF := fun ρ h => (e ρ h).st ρ fun v h1 => (o ρ h1).st ρ fun ov h2 => (i ρ h2).st ρ fun iv h3 => match setK h3 ov iv v with
  | some h4 => .nx ρ h4
  | none => .no
/-! for k in d -/
def iKeysK (f : EF) : AF := fun ρ h => (f ρ h).bind fun v h1 => match v with
  | .dK ks vs => .ok (ks.map keyB) h1
  | _ => .no
end
/-! {k: v for t in xs} -/
def dcGo (b : VV → VSt → Option VSt) (fk fv : EF) (ρ : VSt) : List VV → VH → DKA → Res DKA
  | [], h, a => .ok a h
  | x :: xs, h, a => match b x ρ with
    | none => .no
    | some ρ' => (fk ρ' h).bind fun kv h2 => (fv ρ' h2).bind fun v h3 => match keyA kv with
      | some k => if v.isObj = true then .no else dcGo b fk fv ρ xs h3 (putKQ a.1 k, putVQ a.1 a.2 k v)
      | none => .no
def eDc1 (own : List Nat) (it : AF) (b : VV → VSt → Option VSt) (fk fv : EF) : EF := fun ρ h => (it ρ h).bind fun xs h1 => if xs.length > SZ then .no else match dcGo b fk fv (wp ρ own) xs h1 ([], []) with
  | .ok a h2 => .ok (.dK a.1 a.2) h2
  | _ => .no
end J
namespace J
open PySem PySem.Spec L2 PyProof.Rows
/-! sorted(set(xs)), sorted({..}): ints -/
def leJ (a b : Int) : Bool := decide (a ≤ b)
def srtI (l : List Int) : List Int := l.eraseDups.mergeSort leJ
end J
namespace J
open PySem L2
open PyProof.Rows (IntsAre)
/-! sorted(set(xs)), ints -/
section
variable {X : Cx} {W : WX}
/-! sorted({e for x in xs}) -/
def eSortSc (own : List Nat) (it : AF) (b : VV → VSt → Option VSt) (fe : EF) : EF := fun ρ h => (it ρ h).bind fun xs h1 => (noX (accGo b (stSet fe) (wp ρ own) xs h1 [])).bind fun a h2 => if a.length < 64 then .ok (.lst ((srtI a).map .int)) h2 else .no
/-! xs.insert(i, e), xs a root -/
def insI (h : VH) (o i v : VV) : Option VH := match o, i with
  | .obj n, .int k => match h[n]? with
    | some (.fl xs) => if 0 ≤ k ∧ k < 2 ^ 62 ∧ xs.length < SZ ∧ v.isObj = false then some (h.set n (.fl (xs.take k.toNat ++ [v] ++ xs.drop k.toNat))) else none
    | _ => none
  | _, _ => none
def eIns (fo fi fe : EF) : EF := fun ρ h => (fo ρ h).bind fun ov h1 => match lstOf h1 ov with
  | none => .no
  | some _ => (aCons fi (aCons fe aNil) ρ h1).bind fun vs h2 => match vs with
    | [iv, v] => (match insI h2 ov iv v with
      | some h3 => .ok .non h3
      | none => .no)
    | _ => .no
/-! o.m(e, .., k=v) -/
end
end J
namespace J
open PySem L2
/-! [e for .. in .. for .. in .. if ..] -/
def lc2Go (b : VV → VSt → Option VSt) (t : TF) (it1 : AF) (b1 : VV → VSt → Option VSt) (vs1 : List Nat) (t1 : TF) (e : EF) (ρ : VSt) : List VV → VH → List VV → Res (List VV)
  | [], h, acc => .ok acc h
  | x :: xs, h, acc => match b x ρ with
    | none => .no
    | some ρ' => (t ρ' h).bind fun k h1 => if k = true then (it1 ρ' h1).bind fun ys h2 => if acc.length + ys.length > SZ then .no else (lcGo b1 t1 e (wp ρ' vs1) ys h2).bind fun vs h3 => lc2Go b t it1 b1 vs1 t1 e ρ xs h3 (acc ++ vs) else lc2Go b t it1 b1 vs1 t1 e ρ xs h1 acc
def eLc2 (own : List Nat) (it : AF) (b : VV → VSt → Option VSt) (t : TF) (it1 : AF) (b1 : VV → VSt → Option VSt) (vs1 : List Nat) (t1 : TF) (e : EF) : EF := fun ρ h => (it ρ h).bind fun xs h1 => match lc2Go b t it1 b1 vs1 t1 e (wp ρ own) xs h1 [] with
  | .ok vs h2 => .ok (.lst vs) h2
  | _ => .no
end J
namespace J
open PySem L2
/-! [e for x in xs if ..], xs a root that nothing in it changes -/
def rootL (v : VV) (h : VH) : Option (List VV) := match v with
  | .obj n => match h[n]? with
    | some (.fl xs) => some xs
    | _ => none
  | _ => none
def afterP (r : Res (List VV)) (h : VH) : Res VV := match r with
  | .ok vs _ => .ok (.lst vs) h
  | _ => .no
def eLcP (own : List Nat) (fo : EF) (b : VV → VSt → Option VSt) (t : TF) (e : EF) : EF := fun ρ h => (fo ρ h).bind fun v h1 => match rootL v h1 with
  | none => .no
  | some xs => if xs.length > SZ then .no else afterP (lcGo b t e (wp ρ own) xs h1) h1
end J
namespace J
open PySem L2
/-! len(set(xs)), ints -/
end J
namespace J
open PySem L2
/-! dict(zip(xs, ys)), the keys unlike -/
def keysA : List VV → Option (List Key)
  | [] => some []
  | v :: vs => (keyA v).bind fun k => (keysA vs).map fun r => k :: r
def dzM (vs : List VV) : Option VV := match vs with
  | [.lst xs, .lst ys] => (keysA xs).bind fun ks => if ks.Nodup ∧ ks.length = ys.length ∧ ks.length ≤ 1000 then some (.dK ks ys) else none
  | _ => none
def eDictZip (a : AF) : EF := fun ρ h => (a ρ h).bind fun vs h1 => lift (dzM vs) h1
end J
namespace J
open PySem L2 M
/-! evaluation of what J28 to J31 added -/
section
variable {ρ : VSt} {h : VH}
theorem a_knew : eKnew ρ h = .ok (.obj h.length) (h ++ [.dK [] []]) := nr rfl
theorem s_setK {o i e} : sSetK o i e ρ h = sbd (e ρ h) ρ (fun v h1 => sbd (o ρ h1) ρ (fun ov h2 => sbd (i ρ h2) ρ (fun iv h3 => onh (setK h3 ov iv v) ρ) (tg _)) (tg _)) (tg _) := nr rfl
def keysI (v : VV) (h1 : VH) : Res (List VV) := match v with
  | .dK ks vs => .ok (ks.map keyB) h1
  | _ => .no
theorem a_keysK {f} : iKeysK f ρ h = bnd (f ρ h) keysI (tg _) := nr rfl
theorem keysI_dK {ks vs} : keysI (.dK ks vs) h = .ok (ks.map keyB) h := nr rfl
def afterK (r : Res DKA) : Res VV := match r with
  | .ok a h2 => .ok (.dK a.1 a.2) h2
  | _ => .no
theorem a_dc1 {own it b fk fv} : eDc1 own it b fk fv ρ h = bnd (it ρ h) (fun xs h1 => if xs.length > SZ then .no else afterK (dcGo b fk fv (wp ρ own) xs h1 ([], []))) (tg _) := nr rfl
theorem a_sortSc {own it b fe} : eSortSc own it b fe ρ h = bnd (it ρ h) (fun xs h1 => bnd (noX (accGo b (stSet fe) (wp ρ own) xs h1 [])) (fun a h2 => if a.length < 64 then .ok (.lst ((srtI a).map .int)) h2 else .no) (tg _)) (tg _) := nr rfl
def insM (o : Option VH) : Res VV := match o with
  | some h3 => .ok .non h3
  | none => .no
def insR (h2 : VH) (ov : VV) (vs : List VV) : Res VV := match vs with
  | [iv, v] => insM (insI h2 ov iv v)
  | _ => .no
theorem a_ins {fo fi fe} : eIns fo fi fe ρ h = bnd (fo ρ h) (fun ov h1 => chkL (lstOf h1 ov) (bnd (aCons fi (aCons fe aNil) ρ h1) (fun vs h2 => insR h2 ov vs) (tg _))) (tg _) := by
  unfold eIns
  cases fo ρ h with
  | no => rfl
  | exc => rfl
  | ok ov h1 =>
    show (match lstOf h1 ov with
      | none => Res.no
      | some _ => _) = chkL (lstOf h1 ov) _
    cases lstOf h1 ov with
    | none => rfl
    | some _ => rfl
theorem a_lc2 {own it b t it1 b1 vs1 t1 e} : eLc2 own it b t it1 b1 vs1 t1 e ρ h = bnd (it ρ h) (fun xs h1 => afterL (lc2Go b t it1 b1 vs1 t1 e (wp ρ own) xs h1 [])) (tg _) := nr rfl
theorem frzO_dK {ks vs n} : frzO (some (.dK ks vs)) n h = .ok (.dK ks vs) (h.set n (.fzn (.dK ks vs))) := nr rfl
theorem frzR_dK {ks vs} : frzR (.dK ks vs) h = .ok (.dK ks vs) h := nr rfl
def lcP (own : List Nat) (b : VV → VSt → Option VSt) (t : TF) (e : EF) (ρ : VSt) (h1 : VH) (o : Option (List VV)) : Res VV := match o with
  | none => .no
  | some xs => if xs.length > SZ then .no else afterP (lcGo b t e (wp ρ own) xs h1) h1
theorem a_lcP {own fo b t e} : eLcP own fo b t e ρ h = bnd (fo ρ h) (fun v h1 => lcP own b t e ρ h1 (rootL v h1)) (tg _) := nr rfl
theorem lcP_some {own b t e xs} : lcP own b t e ρ h (some xs) = if xs.length > SZ then .no else afterP (lcGo b t e (wp ρ own) xs h) h := nr rfl
def rootO (o : Option VO) : Option (List VV) := match o with
  | some (.fl xs) => some xs
  | _ => none
theorem rootL_obj {n : Nat} : rootL (.obj n) h = rootO (h[n]?) := by
  cases e : h[n]? with
  | none => simp only [rootL, rootO, e]
  | some o => cases o <;> simp only [rootL, rootO, e]
theorem rootO_fl {xs} : rootO (some (.fl xs)) = some xs := nr rfl
theorem a_dictZip {a : AF} : eDictZip a ρ h = bnd (a ρ h) (fun vs h1 => lift (dzM vs) h1) (tg _) := nr rfl
/-! points led -/
end
end J
namespace J
open PySem L2
open PyProof.Rows (envOfC)
/-! refusals: own exception classes over one own base whose __init__ sets word and at -/
structure XcK (K : PySem.W.Frag) (C : Addr) : Prop where
  o : OexC K C
  nw : PySem.W.findIn K (.ref C) "word" = some none
  na : PySem.W.findIn K (.ref C) "at" = some none
def weH (H : Hp) (e C dx : Addr) (w v : V) : Hp := upd (upd (upd H dx (exd dx [("word", w)])) e (exo e C (some dx))) dx (exd dx [("at", v), ("word", w)])
def spWE (K : PySem.W.Frag) : Sp := fun vs H Q _ => ∃ (e C : Addr) (w v : V), vs = [.ref e, w, v] ∧ XcK K C ∧ H e = some (exo e C none) ∧ ∀ dx, H dx = none → dx ≠ e → Q .non (weH H e C dx w v)
def spOX (K : PySem.W.Frag) (x : Str) : Sp := fun vs H Q _ => ∃ (e C : Addr) (v : V), vs = [.ref e, v] ∧ XcK K C ∧ H e = some (exo e C none) ∧ ∀ dx, H dx = none → dx ≠ e → Q .non (weH H e C dx (.str x) v)
section
variable {P : Program} {w : World} {K : PySem.W.Frag} {mg : Str → Option Value} {base : Heap} {q : Str} {params : Arguments} {body : List Stmt} {scope : Scope} {dvs : List V} {kws : List (Str × V)} {f : Addr} {fd : FuncData} {k : Nat}
theorem we_fn {p1 p2 p3 p4 p5 p6 p7 p8 : Pos} (F : FunD K "__init__" q params body scope dvs kws f fd) (S : FnScope ["self", "word", "at"] ["self", "word", "at"] scope)
    (hb : body = [.Assign [.Attribute (.Name "self" p1) "word" p2] (.Name "word" p3) p4, .Assign [.Attribute (.Name "self" p5) "at" p6] (.Name "at" p7) p8])
    (v0 : Vis scope "self") (v1 : Vis scope "word") (v2 : Vis scope "at") : FnOk P w K mg base (L2N.CX P w) (k + 1) f fd ["self", "word", "at"] (spWE K) := by
  subst hb
  refine F.ok S (fun vs H Q E h => by obtain ⟨e, C, a, b, rfl, _⟩ := h; rfl) fun cdv A outer s H vs Q E hr h => ?_
  refine ⟨_, pss_cons (ps_ost (pe_var (i := 0) rfl v0) (pe_var (i := 1) rfl v1)) (pss_one (ps_ost (pe_var (i := 0) rfl v0) (pe_var (i := 2) rfl v2))), ?_⟩
  obtain ⟨e, C, a, b, rfl, xc, he, k⟩ := h
  refine ⟨a, rfl, .ref e, rfl, e, C, rfl, xc.o, xc.nw, .inl ⟨he, fun dx hd ne => ?_⟩⟩
  refine ⟨b, rfl, .ref e, rfl, e, C, rfl, xc.o, xc.na, .inr ⟨dx, [("word", a)], upd_same, by rw [upd_ne ne, upd_same], by simp, ?_⟩⟩
  exact k dx hd ne
end
section
variable {X : Cx} {W : WX}
/-- B.__init__(e, ..), B an own class -/
theorem pe_binit {pl : Sem Bool} {k : Nat} {B f : Addr} {fd : FuncData} {ps : List Str} {sp : Sp} {b : Str} {e : Expr} {es : List Expr} {ta : TA} {p1 p2 pos : Pos} (hg : Gl X b) (hm : X.mg b = some (.ref B)) (rd : ClX.CRead X.K B (.type "type")) (cv : PySem.W.findCls X.K (.ref B) (.type "type") "__init__" = some (.val (.ref f)))
    (hk : PySem.W.keepIn X.K (.ref f) = true) (F : FnOk X.prog X.w X.K X.mg X.base (L2N.CX X.prog X.w) k f fd ps sp) (hr : Room k X.A) (hb : Binds X.K fd ps []) (ha : PA X (e :: es) ta)
    (hc : eval (.Call (.Attribute (.Name b p1) "__init__" p2) (e :: es) [] pos) X.env = (do
      let ov ← eval (.Name b p1) X.env
      standAt p2.atName
      let (f, first) ← holding [ov] (getMethod ov "__init__" pl)
      callWith pos f first (backTo pos (starEach (e :: es) X.env)) (backToKw pos (keywordEach [] X.env))) := by rfl)
    (hdb : (b == ("__debug__" : Str)) = false := by decide) (he : starEach (e :: es) X.env = (false, eval e X.env) :: starEach es X.env := by rfl) (hpl : (backTo pos (starEach es X.env)).any (·.1) = false := by rfl) :
    PE X (.Call (.Attribute (.Name b p1) "__init__" p2) (e :: es) [] pos) (fun σ H Q => ta σ H fun vs H1 => sp vs H1 Q X0) := by
  refine ⟨fun pins s σ H Q I h => ?_⟩
  refine PySem.W.methodCall_KW (pl := pl) (ld_glob I hg hm ?_ hdb) hc
  refine PySem.W.method_cls I.kIn rd.ga (ClX.getcval_ok I rd ⟨cv, (show RelV (.ref f) (.ref f) from rfl)⟩ fun s1 I1 => ?_)
  refine PySem.W.callWith_K (h₀ := X.base) I1.ok.mod.kin hk (thn (ha.run pos pins s1 σ H _ I1 h) fun us s2 ⟨vs, H2, I2, r, q⟩ => ⟨I2.kIn, ?_⟩) he hpl
  have hl : us.length = ps.length := by rw [← r.length]; exact F.len _ _ _ _ q
  have bb := hb s2 us I2.kIn (by rw [List.append_nil]; exact hl)
  rw [List.append_nil] at bb
  refine wpAny_call (codeAny_mono (F.run X.A X.stack s2 H2 ⟨us, []⟩ us vs Q X0 hr I2.env0 bb r q) fun rr s' hq => ?_)
  cases rr with
  | error er => exact (cx_no hq).elim
  | ok fl =>
    cases fl with
    | ret u => exact I2.after hq
    | next => exact False.elim hq
    | brk => exact False.elim hq
    | cont => exact False.elim hq
end
section
variable {P : Program} {w : World} {K : PySem.W.Frag} {mg : Str → Option Value} {base : Heap} {q : Str} {params : Arguments} {body : List Stmt} {scope : Scope} {dvs : List V} {kws : List (Str × V)} {f fB B : Addr} {fd fdB : FuncData} {k : Nat}
/-- an own class's __init__(self, at): WebError.__init__(self, x, at) -/
theorem ox_fn {x : Str} {p1 p2 p3 p4 p5 p6 p7 : Pos} {kk : Nat} (F : FunD K "__init__" q params body scope dvs kws f fd) (S : FnScope ["self", "at"] ["self", "at"] scope)
    (hb : body = [.Expr (.Call (.Attribute (.Name "WebError" p1) "__init__" p2) [.Name "self" p3, .Constant (.str x) kk p4, .Name "at" p5] [] p6) p7])
    (v0 : Vis scope "self") (v1 : Vis scope "at") (gl : scope.names.lookup ("WebError" : Str) = some NameKind.globalImplicit) (hm : mg "WebError" = some (.ref B)) (rd : ClX.CRead K B (.type "type")) (cv : PySem.W.findCls K (.ref B) (.type "type") "__init__" = some (.val (.ref fB)))
    (hk : PySem.W.keepIn K (.ref fB) = true) (FB : FnOk P w K mg base (L2N.CX P w) k fB fdB ["self", "word", "at"] (spWE K)) (hbB : Binds K fdB ["self", "word", "at"] [])
    (hc : ∀ env : Env, ∃ pl : Sem Bool, eval (.Call (.Attribute (.Name "WebError" p1) "__init__" p2) [.Name "self" p3, .Constant (.str x) kk p4, .Name "at" p5] [] p6) env = (do
      let ov ← eval (.Name "WebError" p1) env
      standAt p2.atName
      let (f, first) ← holding [ov] (getMethod ov "__init__" pl)
      callWith p6 f first (backTo p6 (starEach [.Name "self" p3, .Constant (.str x) kk p4, .Name "at" p5] env)) (backToKw p6 (keywordEach [] env)))) : FnOk P w K mg base (L2N.CX P w) (k + 1) f fd ["self", "at"] (spOX K x) := by
  subst hb
  refine F.ok S (fun vs H Q E h => by obtain ⟨e, C, b, rfl, _⟩ := h; rfl) fun cdv A outer s H vs Q E hr h => ?_
  obtain ⟨pl, hpl⟩ := hc (envOfC q scope s.heap.objs.size f cdv)
  refine ⟨_, pss_one (ps_expr (pe_binit (X := cxOf (L2N.CX P w) P w K mg base ["self", "at"] q scope f cdv A outer s H E) (pl := pl) gl hm rd cv hk FB hr hbB (pa_cons (pe_var (i := 0) rfl v0) (pa_cons pe_str (pa_cons (pe_var (i := 1) rfl v1) pa_nil))) hpl)), ?_⟩
  obtain ⟨e, C, b, rfl, xc, he, k⟩ := h
  refine ⟨.ref e, rfl, b, rfl, ?_⟩
  exact ⟨e, C, .str x, b, rfl, xc, he, k⟩
end
theorem takesN0 {X : Cx} : L2N.Takes X (fun _ _ _ _ => False) := fun _ _ x => by
  obtain ⟨_, _, _, _, _, _, _, _, _, _, _, _, _, _, _, _, z⟩ := x
  exact z.elim
/-- a refusal's class that can be made -/
structure OkX (P : Program) (w : World) (K : PySem.W.Frag) (mg : Str → Option Value) (base : Heap) (k : Nat) (x : Str) : Prop where
  ex : ∃ (C f : Addr) (fd : FuncData) (ds : List Value), mg x = some (.ref C) ∧ XcK K C ∧ PySem.W.findIn K (.ref C) "__init__" = some (some (.ref f)) ∧ PySem.W.typeIn K (.ref f) = some (.type "function") ∧
    FnOk P w K mg base (L2N.CX P w) k f fd ["self", "at"] (spOX K x) ∧ Binds K fd ["self", "at"] [] ∧ Binds K fd ["self", "at"] ds ∧ Vals [.int (-1)] ds
section
variable {X : Cx} {W : WX}
theorem weH_end {H : Hp} {e C dx : Addr} {w v : V} {O : HO} (he : H e = none) (ne : dx ≠ e) : upd (del (weH (upd H e (exo e C none)) e C dx w v) e) dx O = upd H dx O := by
  funext b
  by_cases h1 : b = dx
  · rw [h1, upd_same, upd_same]
  · rw [upd_ne h1, upd_ne h1]
    by_cases h2 : b = e
    · rw [h2, del_same, he]
    · rw [del_ne h2]
      unfold weH
      rw [upd_ne h1, upd_ne h2, upd_ne h1, upd_ne h2]
/-- the class is called -/
theorem mk_run {k : Nat} {C f : Addr} {fd : FuncData} {x : Str} {ds : List Value} {dvs : List V} (xc : XcK X.K C) (iC : PySem.W.findIn X.K (.ref C) "__init__" = some (some (.ref f))) (tI : PySem.W.typeIn X.K (.ref f) = some (.type "function"))
    (F : FnOk X.prog X.w X.K X.mg X.base (L2N.CX X.prog X.w) k f fd ["self", "at"] (spOX X.K x)) (hr : Room (k + 1) X.A) (hb : Binds X.K fd ["self", "at"] ds) (hd : Vals dvs ds)
    {pins : List (Addr × Obj)} {σ : St} {H : Hp} {Q : XK} {s : Shared} {us : List Value} {vs : List V} {v : V} (I : Inv X pins σ H s) (r : Vals vs us) (hv : vs ++ dvs = [v]) (q : ∀ d, H d = none → Q (.ref C) (some d) (upd H d (.xd [("at", v), ("word", .str x)]))) :
    wpAny (model X.prog X.w) X.A (call (.ref C) us) (L2N.MkP X pins σ Q) X.xe s := by
  obtain ⟨nm, qn, N, bs, bm, sn, sub, ab, col, dd, k0, k1, k2, k3, k5, hC, hbm⟩ := xc.o.cls
  obtain ⟨hp, g, dr, tk, os⟩ := s
  let e := hp.objs.size + 1
  let hp2 := (hp.push (PySem.W.kdv_tup us)).push (PySem.HandSPX.excO C hp.objs.size)
  have he : hp.objs.size ≤ e := Nat.le_succ _
  have hn : H e = none := I.hok.fresh he
  have kk : ∀ b o, hp.get? b = some o → hp2.get? b = some o := fun b o z => Heap.get?_push_of_some _ (Heap.get?_push_of_some _ z)
  have hget : hp2.get? e = some (PySem.HandSPX.excO C hp.objs.size) := by
    show ((hp.push (PySem.W.kdv_tup us)).push (PySem.HandSPX.excO C hp.objs.size)).get? (hp.objs.size + 1) = _
    heap_get
  have I2 : Inv X pins σ (upd H e (exo e C none)) ⟨hp2, g, dr, tk, os⟩ := I.laid (t' := tk) (a := e) (o := exo e C none) (h' := hp2) kk he (exo_ok hget)
  have r2 : Vals (V.ref e :: (vs ++ dvs)) (Value.ref e :: (us ++ ds)) := .cons rfl (r.append hd)
  have hl : (Value.ref e :: us ++ ds).length = ["self", "at"].length := by
    have z := r2.length
    rw [hv] at z
    exact z.symm
  have hus : us.length ≤ sizeLine := by
    have z := congrArg List.length hv
    rw [List.length_append, Paired.length r] at z
    rw [PySem.sizeLine_eq]
    simp at z
    omega
  have hsp : spOX X.K x (.ref e :: (vs ++ dvs)) (upd H e (exo e C none)) (fun u H2 => u = .non ∧ ∃ (d : Addr) (fs : List (Str × V)), H2 e = some (exo e C (some d)) ∧ H2 d = some (exd d fs) ∧ H d = none ∧ Q (.ref C) (some d) (upd (del H2 e) d (.xd fs))) X0 := by
    refine ⟨e, C, v, by rw [hv], xc, upd_same, fun dx hdx ne => ⟨rfl, dx, [("at", v), ("word", .str x)], ?_, ?_, ?_, ?_⟩⟩
    · unfold weH; rw [upd_ne (Ne.symm ne), upd_same]
    · unfold weH; rw [upd_same]
    · rw [upd_ne ne] at hdx; exact hdx
    · rw [weH_end hn ne]
      rw [upd_ne ne] at hdx
      exact q dx hdx
  have run := F.run _ X.stack ⟨hp2, g, dr, tk, os⟩ _ ⟨Value.ref e :: us, []⟩ (Value.ref e :: (us ++ ds)) _ _ X0 (hr.make C us []) (I2.env0.make C us []) (hb _ (Value.ref e :: us) I2.kIn hl) r2 hsp
  refine wpAny_call (PySem.HandSPX.call_own PySem.F.excBase_ValueError (fun Y => PySem.HandSPX.refsVE_contains Y bm hbm) (I.kIn _ _ hC) (PySem.W.looks_findIn I.kIn iC) (fun self => PySem.W.bind_fn I.kIn self tI) hus (codeAny_mono run fun rr s' hq => ?_))
  cases rr with
  | error er => exact (cx_no hq).elim
  | ok fl =>
    cases fl with
    | ret u =>
      obtain ⟨v2, H2, os2, bare2, un2, hok2, rv, ev, d, fs, ea, ed, hd1, q2⟩ := hq
      subst ev
      obtain ⟨h2, g2, d2, t2, os'⟩ := s'
      obtain ⟨t0, G, J, kG, ge, hoe, na⟩ := mk_end0 (d2 := d2) (t2 := t2) I he kk un2 hok2 os2 bare2 ea ed hd1
      refine ⟨rv, e, _, _, ⟨G, g2, d2, t2, os'⟩, _, .ref C, some d, rfl, J, kG, ge, hoe, ⟨rfl, rfl, fun vs z => ?_⟩, rfl, rfl, na, rfl, bare2, raises_own xc.o.exC xc.o.tyC, q2⟩
      cases z
      rfl
    | next => exact False.elim hq
    | brk => exact False.elim hq
    | cont => exact False.elim hq
def sRaise0 (x : Str) : SF := fun ρ h => .exc x ["at", "word"] [.int (-1), .str x] ρ h
def sRaise1 (x : Str) (fe : EF) : SF := fun ρ h => (fe ρ h).st ρ fun v h1 => match v with
  | .int i => .exc x ["at", "word"] [.int i, .str x] ρ h1
  | _ => .no
theorem raise_end {g : Gh} {ρ : VSt} {h : VH} {H : Hp} {σ : St} {x : Str} {i : Int} {C : Addr} {D : Ends} (hm : X.mg x = some (.ref C)) (rh : RH (ct X) g h H) (rs : RS (ct X) g H ρ σ) (p : PS1 (ct X) W g H D (.exc x ["at", "word"] [.int i, .str x] ρ h)) (d : Addr) (hd : H d = none) :
    W (.ref C) (some d) σ (upd H d (.xd [("at", V.int i), ("word", V.str x)])) := by
  have st : Stp g H g (upd H d (.xd [("at", V.int i), ("word", V.str x)])) := .junk rh hd
  exact p g _ σ C d [.int i, .str x] st (rh.junk hd) (rs.stp st) hm ⟨upd_same, (fun z => by obtain ⟨o, e⟩ := rh.fz d z; rw [hd] at e; cases e), (fun z => by obtain ⟨o, e⟩ := rh.root z; rw [hd] at e; cases e)⟩ rfl (RVs.cons (rv_int _ _ _ _) (RVs.one (by rw [RV])))
theorem js_raise1 {k : Nat} {x : Str} {e : Expr} {fe : EF} {p1 p2 pos : Pos} (O : OkX X.prog X.w X.K X.mg X.base k x) (hr : Room (k + 1) X.A) (hc : X.calm = true) (hg : Gl X x) (tk : L2N.Takes X W) (he : PE X e (tE (ct X) W fe)) (hdb : (x == ("__debug__" : Str)) = false := by decide)
    (hs : starEach [e] X.env = (false, eval e X.env) :: starEach [] X.env := by rfl) (hpl : (backTo p2 (starEach [] X.env)).any (·.1) = false := by rfl) :
    PS X (.Raise (some (.Call (.Name x p1) [e] [] p2)) none pos) (tS (ct X) W (sRaise1 x fe)) := by
  obtain ⟨C, f, fd, ds, hm, xc, iC, tI, F, b0, b1, hv⟩ := O.ex
  refine PS.mono (L2N.ps_raise (W := W) (t := fun σ H Q => tE (ct X) W fe σ H fun v H1 => ∀ d, H1 d = none → Q (.ref C) (some d) (upd H1 d (.xd [("at", v), ("word", .str x)]))) hc tk (fun pins s σ H Q I h => ?_)) fun D σ H ⟨g, ρ, h, rh, rs, p⟩ => ?_
  · refine wpAny_Call_Name_kw (ld_glob I hg hm ?_ hdb)
    refine PySem.W.callWith_K (h₀ := X.base) I.ok.mod.kin xc.o.kC (thn ((pa_cons he pa_nil hs).run p2 pins s σ H (fun vs H1 => ∃ v, vs = [v] ∧ ∀ d, H1 d = none → Q (.ref C) (some d) (upd H1 d (.xd [("at", v), ("word", .str x)]))) I ?_) fun us s1 ⟨vs, H1, I1, r1, v, ev, q⟩ => ⟨I1.kIn, ?_⟩) hs hpl
    · obtain ⟨g, ρ, h0, rh, rs, p⟩ := h
      exact ⟨g, ρ, h0, rh, rs, p.imp fun u H1 z => ⟨u, rfl, z⟩⟩
    · subst ev
      exact mk_run (us := us) (vs := [v]) (dvs := []) xc iC tI F hr b0 .nil I1 r1 rfl q
  · unfold sRaise1 at p
    refine ⟨g, ρ, h, rh, rs, (Pst.st (R := RT (ct X)) rs p).imp fun u H1 ⟨g1, v, h1, st, rh1, rs1, rv1, p1⟩ => ?_⟩
    cases v with
    | int i =>
      have z := int_get rv1
      subst z
      exact raise_end hm rh1 rs1 p1
    | _ => exact p1.elim
end
end J
namespace J
open PySem L2
open PyProof.Rows (envOfC)
/-! methods and classes that let refusals out -/
abbrev Wc (E : XK) : WX := fun a d _ H' => E a d H'
def eMethX (cn m : Str) (n : Nat) (F : FF) (dws : List VV) (fo : EF) (fa : AF) : EF := fun ρ h => (fo ρ h).bind fun v h1 => match insOf h1 v with
  | some a => if a.1 = cn ∧ lookN a.2.1 a.2.2 m = none then (fa ρ h1).bind fun vs h2 => if (v :: (vs ++ dws)).length = n then F (v :: (vs ++ dws)) h2 else .no else .no
  | none => .no
def mkX (n0 : Nat) (r : Res VV) : Res VV := match r with
  | .ok .non h' => if n0 ≤ h'.length ∧ (h'.take n0).all (lowO n0) = true then (match dzV h' n0 8 (.obj n0) with
    | some w => .ok w (h'.take n0)
    | none => .no) else .no
  | .exc x ns vs h' => .exc x ns vs h'
  | _ => .no
def eMakeX (cn : Str) (n : Nat) (F : FF) (dws : List VV) (fa : AF) : EF := fun ρ h => (fa ρ h).bind fun vs h1 => if (VV.obj h1.length :: (vs ++ dws)).length = n then mkX h1.length (F (.obj h1.length :: (vs ++ dws)) (h1 ++ [.ins cn [] []])) else .no
end J
namespace J
open PySem L2
open PyProof.Rows (envOfC)
/-! within an except suite -/
/-- into a comprehension's block within an except suite -/
theorem blk_enterH {X : Cx} {pins : List (Addr × Obj)} {s : Shared} {σ : St} {H : Hp} {Q : VK} {node tg iter : Expr} {ifs : List Expr} {gs : List Comprehension} {scope : Scope} {own : List (Str × Nat)} {pos' : Pos} {wi : TI} {new : Sem Value} {o0 : Obj} {O : Addr → HO}
    (L : It → Addr → Hp → Prop) (hcl : clausesOf node = ⟨tg, iter, ifs, 0⟩ :: gs) (hN : X.N.Nodup) (I : Inv X pins σ H s) (hi : L2H.PIH X tg iter wi) (ok : BlkOk X.N X.env.scope scope own) (hs : ∀ x, foldedSetIterable iter X.env x = pure x)
    (hnew : ∀ (s : Shared) (E Q : Value → Shared → Prop), Q (.ref s.heap.objs.size) { s with heap := s.heap.push o0 } → wpAny (model X.prog X.w) X.A new Q E s)
    (hO : ∀ (h : Heap) (G : Hp), sysModules < h.objs.size → ObjOk X.prog X.w G (h.push o0) h.objs.size (O h.objs.size))
    (hst : ∀ (it acc : Value) (env : Env) (R : Result → Shared → Prop) (s : Shared), codeAny (model X.prog X.w) X.A (.compLoop node 0 it acc env) R s →
      wpAny (model X.prog X.w) X.A (pyIter it) (fun it' s' => codeAny (model X.prog X.w) X.A (.compLoop node 0 it' acc env) R s') (notedBy (model X.prog X.w) X.A env fun x s' => R (.error x) s') s → codeAny (model X.prog X.w) X.A (.compStart node 0 it acc env) R s)
    (h : wi σ H fun Jt H1 => ∀ D, H1 D = none → L Jt D (upd H1 D (O D)))
    (loop : ∀ (s3 : Shared) (H3 : Hp) (C : Addr) (cl : List (Str × Addr)) (fp : List Addr) (it D : Addr) (tn : Nat → Heap → Prop) (Jt : It) (s4 : Shared) (R : Result → Shared → Prop), L Jt D H3 → Inv (X.blk s3 H3 scope (compEnvC scope cl C X.env) fp) [] (wipe σ (own.map (·.2))) H3 s4 →
      (∀ G' s', Inv (X.blk s3 H3 scope (compEnvC scope cl C X.env) fp) [] (wipe σ (own.map (·.2))) G' s' → ∀ q ∈ X.pn, s'.heap.get? q.1 = some q.2 ∧ G' q.1 = none ∧ q.1 ≠ C ∧ q.1 ∉ frs X.stack ∧ (∀ b ∈ fp, q.1 ≠ b) ∧ ∀ v, q.2.data ≠ .cell v) →
      L2H.TurnH X.prog X.w X.K tg Jt fp it tn → tn 0 s4.heap → (∀ b ∈ fp, H3 b = none) → (∀ (b : Addr) (G : Hp), b ∈ fp → G b = none → FpOk (X.blk s3 H3 scope (compEnvC scope cl C X.env) fp) [] G b) →
      (∀ G s', Inv (X.blk s3 H3 scope (compEnvC scope cl C X.env) fp) [] (wipe σ (own.map (·.2))) G s' → Q (.ref D) G → R (.ok .next) s') →
      codeAny (model X.prog X.w) X.A (.compLoop node 0 (.ref it) (.ref D) (compEnvC scope cl C X.env)) R s4) :
    wpAny (model X.prog X.w) X.A (comprehension node scope X.env pos' new false (eval iter X.env) none) (EP X pins σ Q) X.xe s := by
  have hfree : ∀ y ∈ scope.names, y.2 = .free → ∃ c, X.env.cells.lookup y.1 = some c := by
    intro y hy e
    exact (ok.free y hy e).elim (fun k => I.ok.has _ (.inl k)) (fun k => I.ok.has _ (.inr k))
  refine wpAny_comprehension_free (use := none) hcl hs (closure_ok hfree) ok.kind (by intro y hy e; rw [ok.uniq y hy, e]) (thn (hi.run pins s σ H _ I h) fun xv s1 hx => thn hx fun itv s2 h2 => ?_)
  obtain ⟨it, fp, tn, Jt, H2, e, I2, T, st2, f2, lp⟩ := h2
  subst e
  refine hnew s2 _ _ (newEnv_comp ?_)
  have nD : H2 s2.heap.objs.size = none := I2.hok.fresh (Nat.le_refl _)
  have lp' := lp s2.heap.objs.size nD
  have I3 : Inv X pins σ (upd H2 s2.heap.objs.size (O s2.heap.objs.size)) { s2 with heap := s2.heap.push o0 } :=
    I2.laid (t' := s2.toks) (fun b o e => Heap.get?_push_of_some _ e) (Nat.le_refl _) (hO _ _ I2.big)
  have old : ∀ b ∈ fp, b < s2.heap.objs.size := by
    intro b hb
    obtain ⟨o, e, _⟩ := T.obj _ _ st2 b hb
    exact Heap.lt_size e
  have f3 : ∀ b ∈ fp, FpOk X pins (upd H2 s2.heap.objs.size (O s2.heap.objs.size)) b ∧ b < (s2.heap.push o0).objs.size := by
    intro b hb
    refine ⟨⟨?_, (f2 b hb).2⟩, by rw [Heap.size_push]; exact Nat.lt_succ_of_lt (old b hb)⟩
    rw [upd_ne (Nat.ne_of_lt (old b hb))]
    exact (f2 b hb).1
  have st3 : tn 0 (s2.heap.push o0) := T.keep _ _ _ st2 fun b _ o e => Heap.get?_push_of_some _ e
  have I4 := block_start I3 ok hN f3
  generalize hH3 : upd H2 s2.heap.objs.size (O s2.heap.objs.size) = H3 at I3 I4 f3 lp'
  have f3' : ∀ b ∈ fp, FpOk X pins H3 b ∧ b < ({ s2 with heap := s2.heap.push o0 } : Shared).heap.objs.size := f3
  have st3' : tn 0 ({ s2 with heap := s2.heap.push o0 } : Shared).heap := st3
  generalize ({ s2 with heap := s2.heap.push o0 } : Shared) = s3 at I3 I4 f3' st3' ⊢
  generalize s2.heap.objs.size = D at lp' ⊢
  clear f3 st3 nD hH3
  have st4 : tn 0 (pushCells (s3.heap.push { cls := .type "dict", data := .dict #[] }) scope.names) := T.keep _ _ _ st3' fun b _ o e => pushCells_keeps _ _ _ _ (Heap.get?_push_of_some _ e)
  have nfp : ∀ b ∈ fp, H3 b = none := fun b hb => (f3' b hb).1.1
  have stat : ∀ (b : Addr) (G : Hp), b ∈ fp → G b = none → FpOk (X.blk s3 H3 scope (compEnvC scope (cellsFrom (s3.heap.objs.size + 1) scope.names (cloFrom X.env.cells scope.names [])) s3.heap.objs.size X.env) fp) [] G b := by
    intro b G hb gn
    refine ⟨gn, (I4.ok.exf b hb).1, I4.ok.exfs b hb, .inl hb, fun x c e => (I4.ok.exf b hb).2 x c e, fun p hp => ?_⟩
    cases (show p ∈ ([] : List (Addr × Obj)) ++ [] from hp)
  have held : ∀ G' s', Inv (X.blk s3 H3 scope (compEnvC scope (cellsFrom (s3.heap.objs.size + 1) scope.names (cloFrom X.env.cells scope.names [])) s3.heap.objs.size X.env) fp) [] (wipe σ (own.map (·.2))) G' s' → ∀ q ∈ X.pn, s'.heap.get? q.1 = some q.2 ∧ G' q.1 = none ∧ q.1 ≠ s3.heap.objs.size ∧ q.1 ∉ frs X.stack ∧ (∀ b ∈ fp, q.1 ≠ b) ∧ ∀ v, q.2.data ≠ .cell v := by
    intro G' s' I' q hq
    have P := I3.pin q (List.mem_append_left _ hq)
    have nst : q.1 ∉ frs X.stack := fun hm => (List.mem_cons.mp (I3.stkSub q.1 hm)).elim P.2.2.1 P.2.2.2.1
    have nfp' : ∀ b ∈ fp, q.1 ≠ b := fun b hb => (f3' b hb).1.2.2.2.2.2 q (List.mem_append_left _ hq)
    have nex : q.1 ∉ fp := fun z => nfp' _ z rfl
    exact ⟨I'.base.keep q.1 q.2 P.1 P.2.1 nst nex, I'.base.free q.1 q.2 P.1 P.2.1 nex, Nat.ne_of_lt (Heap.lt_size P.1), nst, nfp', P.2.2.2.2⟩
  have go := loop s3 H3 s3.heap.objs.size (cellsFrom (s3.heap.objs.size + 1) scope.names (cloFrom X.env.cells scope.names [])) fp it D tn Jt _ (compPost (model X.prog X.w) X.A X.xe none (EP X pins σ Q) (.ref D) s3.heap.objs.size) lp' I4 held T st4 nfp stat fun G s' I5 q => ?_
  · exact hst _ _ _ _ _ go (T.self X.A 0 _ _ _ st4 go)
  · have cL : (X.blk s3 H3 scope (compEnvC scope (cellsFrom (s3.heap.objs.size + 1) scope.names (cloFrom X.env.cells scope.names [])) s3.heap.objs.size X.env) fp).env.locals = s3.heap.objs.size := rfl
    have I6 : Inv X pins σ G s' := I3.call' (ch := fp) I5.os I5.base I5.hok I5.bare fun b hb => by
      obtain ⟨-, q1, q2, q3, q4, q5⟩ := (f3' b hb).1
      exact ⟨q3, q1, q4, q5⟩
    have nC : G s3.heap.objs.size = none := by
      rw [← cL]; exact I5.free
    obtain ⟨m, hn, _⟩ := I5.loc
    rw [cL] at hn
    obtain ⟨q0, q1, q2, q3, q4, q5⟩ := I3.fpOk (H' := G) (Nat.le_refl _) nC
    exact ⟨m, hn, fun h' sb => ⟨.ref D, G, I6.turned (t' := s'.toks) (fun b o hb e => (sb.2 b hb).trans e) q0 q1 q3 q4 q5, rfl, q⟩⟩
abbrev pin1 (Y : Cx) (p : Addr × Obj) : Cx := { Y with pn := p :: Y.pn }
/-- the same state, with a thing that is held -/
theorem inv_pn {Y : Cx} {pins : List (Addr × Obj)} {σ : St} {H : Hp} {s : Shared} {p : Addr × Obj} (I : Inv Y pins σ H s) (h : s.heap.get? p.1 = some p.2 ∧ H p.1 = none ∧ p.1 ≠ Y.env.locals ∧ p.1 ∉ Y.fs ∧ ∀ v, p.2.data ≠ .cell v) : Inv (pin1 Y p) pins σ H s :=
  ⟨⟨I.ok.mod, I.ok.kind, I.ok.glob, I.ok.blt, I.ok.above, I.ok.inj, I.ok.has, I.ok.cab, I.ok.hd, I.ok.frames, I.ok.stk, I.ok.exf, I.ok.bs, I.ok.bsz, I.ok.noex, I.ok.exfs, I.ok.funs, I.ok.frf⟩, I.os, I.bare, I.base, I.loc, I.cell, I.free, I.freeC, fun q hq => by
    rcases List.mem_cons.mp (show q ∈ p :: (Y.pn ++ pins) from hq) with e | e
    · rw [e]; exact h
    · exact I.pin q e, I.hok, I.len⟩
theorem inv_unpn {Y : Cx} {pins : List (Addr × Obj)} {σ : St} {H : Hp} {s : Shared} {p : Addr × Obj} (I : Inv (pin1 Y p) pins σ H s) : Inv Y pins σ H s :=
  ⟨⟨I.ok.mod, I.ok.kind, I.ok.glob, I.ok.blt, I.ok.above, I.ok.inj, I.ok.has, I.ok.cab, I.ok.hd, I.ok.frames, I.ok.stk, I.ok.exf, I.ok.bs, I.ok.bsz, I.ok.noex, I.ok.exfs, I.ok.funs, I.ok.frf⟩, I.os, I.bare, I.base, I.loc, I.cell, I.free, I.freeC, fun q hq => I.pin q (List.mem_cons_of_mem p hq), I.hok, I.len⟩
/-- a list comprehension within an except suite -/
theorem hot_lc {X : Cx} {elt tg iter : Expr} {ifs : List Expr} {scope : Scope} {own : List (Str × Nat)} {pos : Pos} {wi : TI} {g : TG} {tt : TT} {te : TE} (hc : L2H.HotC X) (hN : X.N.Nodup) (hi : L2H.PIH X tg iter wi) (ok : BlkOk X.N X.env.scope scope own)
    (hg : ∀ (s : Shared) (H : Hp) (C : Addr) (cl : List (Str × Addr)) (fp : List Addr), PG (X.blk s H scope (compEnvC scope cl C X.env) fp) tg g)
    (ht : ∀ (s : Shared) (H : Hp) (C : Addr) (cl : List (Str × Addr)) (fp : List Addr), PTs (X.blk s H scope (compEnvC scope cl C X.env) fp) ifs tt)
    (he : ∀ (s : Shared) (H : Hp) (C : Addr) (cl : List (Str × Addr)) (fp : List Addr), PE (X.blk s H scope (compEnvC scope cl C X.env) fp) elt te) (hs : ∀ x, foldedSetIterable iter X.env x = pure x := by intro _; rfl) :
    PE X (.ListComp elt [⟨tg, iter, ifs, 0⟩] scope pos) (tLc wi g tt te (own.map (·.2))) := by
  refine ⟨fun pins s σ H Q I h => ?_⟩
  rw [eval_ListComp]
  obtain ⟨p, hot, hp⟩ := hc
  refine blk_enterH (O := fun _ => .lst []) (Q := Q) (o0 := { cls := .type "list", data := .seq ([] : List Value).toArray }) (fun Jt D H3 => ∃ W : Nat → Nat → Hp → Prop, (∃ m, W 0 m H3) ∧ ∀ i m H, W i m H → (Jt.stop i H ∧ Q (.ref D) H) ∨ (Jt.go i H ∧ ∃ Nx : Hp → Prop, (∀ H', Nx H' → ∃ m', m' < m ∧ W (i + 1) m' H') ∧ ∀ x H', Jt.yld i H x H' → g x (wipe σ (own.map (·.2))) H' fun σ2 H2 => wipe σ2 (own.map (·.2)) = wipe σ (own.map (·.2)) ∧ tt σ2 H2 fun b H3 =>
    if b = true then te σ2 H3 fun y H4 => ∃ acc, H4 D = some (.lst acc) ∧ acc.length < sizeLine ∧ Nx (upd H4 D (.lst (acc ++ [y]))) else Nx H3)) rfl hN I hi ok hs (fun s E Q q => wpAny_newObj_type q (by show 0 ≤ sizeLine; decide)) ?_ (fun it acc env R s a b => codeAny_compStart_list a b) h ?_
  · intro h0 G _
    exact ⟨Nat.zero_le _, [], 0, .nil, Heap.get?_push_size _ rfl⟩
  · rintro s3 H3 C cl fp it D tn Jt s4 R ⟨W, ⟨m0, w0⟩, turn⟩ I4 held T st4 nfp stat done
    refine compLoop_any (fun m s' => ∃ i H', Inv (X.blk s3 H3 scope (compEnvC scope cl C X.env) fp) [] (wipe σ (own.map (·.2))) H' s' ∧ tn i s'.heap ∧ (∀ b ∈ fp, H' b = none) ∧ W i m H') ?_ m0 ⟨0, H3, I4, st4, nfp, w0⟩
    rintro m s5 ⟨i, H5, I5, st5, n5, w5⟩
    have hpn := held H5 s5 I5 p hp
    have I5p := inv_pn (p := p) I5 ⟨hpn.1, hpn.2.1, hpn.2.2.1, hpn.2.2.2.1, hpn.2.2.2.2.2⟩
    have hc' : L2H.HotC (pin1 (X.blk s3 H3 scope (compEnvC scope cl C X.env) fp) p) := ⟨p, hot, List.mem_cons_self ..⟩
    have stat' : ∀ b ∈ fp, FpOk (pin1 (X.blk s3 H3 scope (compEnvC scope cl C X.env) fp) p) [] H5 b := fun b hb => by
      obtain ⟨q0, q1, q2, q3, q4, q5⟩ := stat b H5 hb (n5 b hb)
      refine ⟨q0, q1, q2, q3, q4, fun q hq => ?_⟩
      have e : q = p := by simpa using hq
      rw [e]
      exact hpn.2.2.2.2.1 b hb
    rcases turn i m H5 w5 with ⟨stop, fin⟩ | ⟨go, Nx, hNx, step⟩
    · refine thnF (T.done (pin1 (X.blk s3 H3 scope (compEnvC scope cl C X.env) fp) p) rfl rfl rfl hc' i [] s5 _ H5 (fun _ _ => False) I5p stat' st5 stop) fun r s6 ⟨hr, I6p⟩ => ?_
      subst hr
      exact done H5 s6 (inv_unpn I6p) fin
    · refine thnF (T.item (pin1 (X.blk s3 H3 scope (compEnvC scope cl C X.env) fp) p) rfl rfl rfl hc' i [] s5 _ H5 (fun _ _ => False) I5p stat' st5 go) fun r s6 ⟨u, hr, h6⟩ => ?_
      subst hr
      refine thnF h6 fun _ s7 ⟨x, H7, I7p, r7, y7, st7, n7⟩ => ?_
      have I7 := inv_unpn I7p
      have I7' := I7.pinned (fun b hb => stat b _ hb (n7 b hb)) (T.obj _ _ st7)
      refine thnF ((hg s3 H3 C cl fp).run _ s7 _ _ _ u _ I7' r7 (step x H7 y7)) fun _ s8 ⟨σ8, H8, I8, hw8, q8⟩ => ?_
      refine thnF ((ht s3 H3 C cl fp).run _ s8 σ8 H8 _ I8 q8) fun b s9 ⟨H9, I9, q9⟩ => ?_
      have turned : ∀ {s' : Shared} {H' : Hp}, Inv (X.blk s3 H3 scope (compEnvC scope cl C X.env) fp) ([] ++ pinsAt fp s7.heap) σ8 H' s' → Nx H' → ∃ m1, m1 < m ∧ ∃ i H', Inv (X.blk s3 H3 scope (compEnvC scope cl C X.env) fp) [] (wipe σ (own.map (·.2))) H' s' ∧ tn i s'.heap ∧ (∀ b ∈ fp, H' b = none) ∧ W i m1 H' := by
        intro s' H' I' nx
        obtain ⟨m', hm, w'⟩ := hNx H' nx
        have still : ∀ b ∈ fp, ∀ o, s7.heap.get? b = some o → s'.heap.get? b = some o ∧ H' b = none := by
          intro b hb o e
          have z := I'.pin (b, o) (List.mem_append_right _ (List.mem_append_right _ (mem_pinsAt hb e)))
          exact ⟨z.1, z.2.1⟩
        have hl : (wipe σ (own.map (·.2))).length = σ8.length := by rw [← hw8, wipe_length]
        refine ⟨m', hm, i + 1, H', (I'.unpinned (pins := [])).weak hl (fun j v e => ?_), T.keep _ _ _ st7 fun b hb o e => (still b hb o e).1, fun b hb => ?_, w'⟩
        · rw [← hw8] at e
          exact (wipe_some e).1
        · obtain ⟨o, e, _⟩ := T.obj _ _ st7 b hb
          exact (still b hb o e).2
      cases b with
      | false =>
        simp only [Bool.false_eq_true, if_false] at q9 ⊢
        exact turned I9 q9
      | true =>
        simp only [if_true] at q9 ⊢
        refine thnF ((he s3 H3 C cl fp).run _ s9 σ8 H9 _ I9 q9) fun z s10 ⟨yv, H10, I10, r10, acc, hD10, hz10, nx⟩ => ?_
        exact app_ok (X := X.blk s3 H3 scope (compEnvC scope cl C X.env) fp) I10 hD10 hz10 r10 fun s11 I11 => turned I11 nx
end J
namespace J
open PySem L2
open PyProof.Rows (envOfC)
theorem PIH.mono {X : Cx} {tg e : Expr} {t t' : TI} (h : L2H.PIH X tg e t) (m : ∀ σ H R, t' σ H R → t σ H R) : L2H.PIH X tg e t' := ⟨fun pins s σ H R I q => h.run pins s σ H R I (m σ H R q)⟩
section
variable {X : Cx} {W : WX}
theorem ji_range1H {tg a : Expr} {f : EF} {p pos : Pos} (hg : Gl X "range") (hm : X.mg "range" = none) (ha : PE X a (tE (ct X) W f)) (hs : starEach [a] X.env = [(false, eval a X.env)] := by rfl) : L2H.PIH X tg (.Call (.Name "range" p) [a] [] pos) (tI (ct X) W (iRange1 f)) :=
  PIH.mono (L2H.pi_range1H hg hm (pa_cons ha pa_nil hs) hs) fun σ H R h => by
    obtain ⟨g, ρ, h0, rh, rs, p⟩ := h
    unfold iRange1 at p
    refine ⟨g, ρ, h0, rh, rs, ?_⟩
    cases e : f ρ h0 with
    | no => rw [e] at p; exact p.elim
    | exc x ns vs h' => rw [e] at p; exact p
    | ok v h1 =>
      rw [e] at p
      cases v with
      | int n =>
        simp only [Res.bind] at p
        by_cases hn : -(2 ^ 62) ≤ n ∧ n < 2 ^ 62
        · rw [if_pos hn] at p
          intro g' H' u st rh' rv
          exact ⟨n, by rw [int_get rv], hn.1, hn.2, p g' H' _ st rh' deliv_rng⟩
        · rw [if_neg hn] at p; exact p.elim
      | _ => exact p.elim
theorem j_lcH {elt tg iter : Expr} {ifs : List Expr} {scope : Scope} {own : List (Str × Nat)} {pos : Pos} {it : AF} {g : TG} {b : VV → VSt → Option VSt} {ft : TF} {fe : EF} (hc : L2H.HotC X) (hN : X.N.Nodup) (hi : L2H.PIH X tg iter (tI (ct X) W it)) (ok : BlkOk X.N X.env.scope scope own)
    (hg : ∀ (s : Shared) (H : Hp) (C : Addr) (cl : List (Str × Addr)) (fp : List Addr), PG (X.blk s H scope (compEnvC scope cl C X.env) fp) tg g) (pat : PatOk X.K g b (own.map (·.2)))
    (ht : ∀ (s : Shared) (H : Hp) (C : Addr) (cl : List (Str × Addr)) (fp : List Addr), PTs (X.blk s H scope (compEnvC scope cl C X.env) fp) ifs (tT (ct X) W0 ft))
    (he : ∀ (s : Shared) (H : Hp) (C : Addr) (cl : List (Str × Addr)) (fp : List Addr), PE (X.blk s H scope (compEnvC scope cl C X.env) fp) elt (tE (ct X) W0 fe)) (hs : ∀ x, foldedSetIterable iter X.env x = pure x := by intro _; rfl) :
    PE X (.ListComp elt [⟨tg, iter, ifs, 0⟩] scope pos) (tE (ct X) W (eLc (own.map (·.2)) it b ft fe)) :=
  PE.mono (hot_lc hc hN hi ok hg ht he hs) fun σ H Q h => by
    exact tLc_of (mk := fun vs h => .ok (.lst vs) h) pat mk_lst h
/-! text.split(sep) -/
def eSplit (o e : EF) : EF := fun ρ h => (o ρ h).bind fun v h1 => match v with
  | .str a => (e ρ h1).bind fun w h2 => (match w with
    | .str b => if (b.length == 0) = false ∧ a.length + 2 ≤ SZ then .ok (.lst ((Txt.split a b).map .str)) h2 else .no
    | _ => .no)
  | _ => .no
theorem rvs_strs {c : Ct} {z : Addr → Prop} {H : Hp} : ∀ ys : List Str, RVs c z H (ys.map VV.str) (ys.map V.str)
  | [] => RVs.nil
  | y :: ys => RVs.cons (by rw [RV]) (rvs_strs ys)
theorem j_split {o e : Expr} {fo fe : EF} {apos pos : Pos} (ho : PE X o (tE (ct X) W fo)) (he : PE X e (tE (ct X) W fe)) (hs : starEach [e] X.env = [(false, eval e X.env)] := by rfl) (hbase : attributeBase o "split" X.env (eval o X.env) = eval o X.env := by rfl) (hline : (apos.endLine == pos.line) = true := by rfl) :
    PE X (.Call (.Attribute o "split" apos) [e] [] pos) (tE (ct X) W (eSplit fo fe)) :=
  PE.mono (pe_split ho he hs hbase hline) fun σ H Q ⟨g, ρ, h0, rh, rs, p⟩ => by
    refine ⟨g, ρ, h0, rh, rs, (Pst.bind (R := RT (ct X)) p).imp fun u H1 ⟨g1, v, h1, st, rh1, rv1, p1⟩ => ?_⟩
    cases v with
    | str a =>
      refine ⟨⟨a, str_get rv1⟩, g1, ρ, h1, rh1, rs.stp st, (Pst.bind (R := RT (ct X)) p1).imp fun u2 H2 ⟨g2, w, h2, st2, rh2, rv2, p2⟩ => ?_⟩
      cases w with
      | str b =>
        simp only at p2
        by_cases cc : (b.length == 0) = false ∧ a.length + 2 ≤ SZ
        · rw [if_pos cc] at p2
          refine ⟨a, b, str_get rv1, by rw [str_get rv2], cc.1, SZ_le cc.2, fun q hq => ?_⟩
          obtain ⟨s1, s2, s3⟩ := new_lst rh2 hq (rvs_strs (Txt.split a b))
          exact p2 _ _ _ s1 s2 s3
        · rw [if_neg cc] at p2; exact p2.elim
      | _ => exact p2.elim
    | _ => exact p1.elim
end
/-! isinstance of the handled exception (which has a dict) -/
section
open PySem.W PySem.Calls PyProof.Rows
variable {prog : Program} {w : World} {A : Around} {E : Value → Shared → Prop} {s : Shared} {K : Frag} {x D : Addr} {ox od : Obj}
theorem ca_exc {Q : Option Value → Shared → Prop} (T : L2.ExcC K D) (X : K.In s.heap) (I : InstAt s.heap x ox D (some od)) (h : Q (some (.ref D)) { s with toks := s.toks + 1 }) : wpAny (model prog w) A (getAttr? (.ref x) "__class__") Q E s := by
  obtain ⟨cdD, hcD, _⟩ := any_some T.hd
  have hf : findObj K D (some od) "__class__" = some (.bind (.builtin "getset_descriptor.__get__") (.builtin "object.__class__")) := findObj_data (by rw [hcD]; rfl) T.ha T.hn T.ht
  obtain ⟨hp, gs, dr, tk, os⟩ := s
  have la := I.type (M := model prog w)
  have lb := looks_findIn (M := model prog w) X T.hg
  have lc := looks_findIn (M := model prog w) X T.hk
  have ld := looks_find (M := model prog w) X I hf
  have isB : Looks (model prog w) hp (isInstance (.ref x) (.type "BaseException")) true := la.andThen (looks_subIn X T.hs)
  have n2 : (onTheHeap (Value.ref D) && Value.builtin "BaseException.__getattribute__" == Value.builtin "object.__getattribute__") = false := by
    have n1 : (Value.builtin "BaseException.__getattribute__" == Value.builtin "object.__getattribute__") = false := by decide +kernel
    rw [n1]; rfl
  unfold getAttr? getAttrBy? getAttrBy
  apply wpAny_bind; apply wpAny_mkText; apply wpAny_bind; apply wpAny_attempt; apply wpAny_holding; apply wpAny_bind
  refine la.at ?_
  apply wpAny_bind
  refine lb.at ?_
  show wpAny _ _ (if (onTheHeap (Value.ref D) && Value.builtin "BaseException.__getattribute__" == Value.builtin "object.__getattribute__") = true then _ else _) _ _ _
  rw [n2, if_neg Bool.false_ne_true]
  unfold getAttrByItsOwn hookBefore
  apply wpAny_bind
  rw [if_pos (show onTheHeap (Value.ref D) = true from rfl)]
  refine lc.at ?_
  apply wpAny_bind; apply wpAny_attempt; apply wpAny_holding
  unfold callGetattribute
  rw [show (false && onTheHeap (Value.builtin "BaseException.__getattribute__")) = false from rfl, if_neg Bool.false_ne_true]
  unfold boundAndCalled
  rw [PySem.F.excAttr_ValueError.ga.bind (.ref x)]
  apply wpAny_bind; apply wpAny_pure
  show wpAny _ _ (call (.builtin "BaseException.__getattribute__") [.ref x, .str "__class__" tk]) _ _ _
  apply wpAny_call
  refine codeAny_call_builtin PySem.F.excAttr_ValueError.ga.plain PySem.F.entry_bexc_ga ?_
  refine @check_slot (model prog w) _ _ ⟨hp, gs, dr, tk + 1, os⟩ "BaseException.__getattribute__" "BaseException" "__getattribute__" (.ref x) [.str "__class__" tk] [] _ (by decide +kernel) (by decide +kernel) isB (PySem.F.args_bexc_ga (.ref x) (.str "__class__" tk)) ?_
  unfold Builtin.«object.__getattribute__»
  apply wpAny_bind
  refine wpAny_of_eq (a := ((Value.ref x : Value), [Value.str "__class__" tk])) (by first | rfl | (simp only [slotArgs]; rfl)) ?_
  apply wpAny_bind; apply wpAny_pure; apply wpAny_bind
  refine la.at ?_
  apply wpAny_bind
  refine ld.at ?_
  show wpAny _ _ (holding [Value.builtin "object.__class__"] (call (.builtin "getset_descriptor.__get__") [.builtin "object.__class__", .ref x, .ref D]) >>= ret) _ _ _
  apply wpAny_bind; apply wpAny_holding; apply wpAny_call
  refine class_get (s := ⟨hp, gs, dr, tk + 1, os⟩) (ox := ox) (od := some od) X I T.hm ?_
  apply wpAny_pure
  show wpAny _ _ (handedOut (.ref D)) _ _ _
  rw [handedOut_of (v := .ref D) rfl]
  first
    | exact wpAny_pure (wpAny_pure h)
    | exact wpAny_pure h
theorem kitx_excD (T : L2.ExcC K D) : KitX K (.ref x) (.ref D) (fun h => ∃ ox od, InstAt h x ox D (some od)) where
  ty := fun _ _ _ ⟨_, _, I⟩ => I.type
  it := fun _ _ X _ => by
    obtain ⟨cdD, hcD, _⟩ := any_some T.hd
    unfold clsIn at hcD
    split at hcD
    · rename_i ho
      intro A' Q' E' s' k q
      unfold isType loadHead
      apply wpAny_bind
      exact wpAny_loadPart (k _ _ (X _ _ ho)) (wpAny_pure q)
    · cases hcD
  ne := fun h tp dd its n sl X htp => by
    obtain ⟨cdD, hcD, _⟩ := any_some T.hd
    apply Bool.eq_false_iff.mpr
    intro q
    have e : D = tp := Value.ref.inj (beq_iff_eq.mp q)
    subst e
    unfold clsIn at hcD
    split at hcD
    · rename_i ho
      have z := (X _ _ ho).symm.trans htp
      cases z
    · cases hcD
  ca := fun X ⟨ox, od, I⟩ k => ca_exc T X I k
end
/-- isinstance(e, c): e held by a pin, its dict at dd -/
def rIsD (Y : Cx) (D a dd : Addr) : List V → Hp → VK → Prop := fun xs H Q => ∃ (c : V) (cv : Value) (b : Bool), xs = [.ref a, c] ∧ (∀ u, RelV c u → u = cv) ∧ PySem.W.kitOne Y.K (.ref D) cv = some b ∧ ((∃ fs, H dd = some (.xd fs)) ∨ ∃ o, Y.s_0.heap.get? dd = some o ∧ dd ∉ Y.ex) ∧ Q (.bl b) H
theorem call_isD {Y : Cx} {a D dd : Addr} {oe : Obj} (hp : (a, oe) ∈ Y.pn) (T : ExcC Y.K D) (hz : Zc (.ref D) (some dd) oe) (hf : ∃ vs, oe.data = .fields vs) : CallR Y (.builtin "isinstance") (rIsD Y D a dd) := by
  intro pins s σ H xs us Q I r h
  obtain ⟨c, cv, b, rfl, hcv, e, hd, q⟩ := h
  cases r with
  | cons rx rr =>
    cases rr with
    | cons rt rr =>
      cases rr
      cases rx
      have ec := hcv _ rt
      subst ec
      have hget := (I.pin (a, oe) (List.mem_append_left _ hp)).1
      obtain ⟨vs, hv⟩ := hf
      have hod : ∃ od, s.heap.get? dd = some od := by
        rcases hd with ⟨fs, hfs⟩ | ⟨o, ho, hx⟩
        · have z : ObjOk Y.prog Y.w H s.heap dd (.xd fs) := I.hok dd _ hfs
          obtain ⟨mA, hns, _⟩ := z
          obtain ⟨o, _, _, e1, _⟩ := hns
          exact ⟨o, e1⟩
        · exact I.base.there dd o ho hx
      obtain ⟨od, hod⟩ := hod
      have J : PySem.W.InstAt s.heap a oe D (some od) := ⟨hget, hz.1, by unfold PySem.W.notCls; rw [hv] <;> rfl, by rw [hz.2]; exact hod⟩
      exact PySem.W.kia_one (kitx_excD T) I.kIn ⟨oe, od, J⟩ e (fun z => nomatch z) fun tk => ⟨.bl b, H, I.kept (t' := tk) fun _ _ z => z, rfl, q⟩
def eIsE (i : Nat) (a : Addr) (b : Bool) : EF := fun ρ h => match ρ[i]? with
  | some (some (.raw a')) => if a' = a then .ok (.bl b) h else .no
  | _ => .no
theorem j_isE {Y : Cx} {W : WX} {a D dd C : Addr} {oe : Obj} {i : Nat} {x y : Str} {b : Bool} {p1 p2 p3 pos : Pos} (hp : (a, oe) ∈ Y.pn) (T : ExcC Y.K D) (hz : Zc (.ref D) (some dd) oe) (hf : ∃ vs, oe.data = .fields vs) (hd : ∃ o, Y.s_0.heap.get? dd = some o) (hx : dd ∉ Y.ex)
    (hg : Gl Y "isinstance") (hm : Y.mg "isinstance" = none) (hN : Y.N[i]? = some x) (hv : Vis Y.env.scope x) (hgy : Gl Y y) (hmy : Y.mg y = some (.ref C)) (hk : PySem.W.kitOne Y.K (.ref D) (.ref C) = some b)
    (h1 : (x == ("__debug__" : Str)) = false := by decide) (h2 : (x == ("__classdict__" : Str)) = false := by decide) (h3 : (y == ("__debug__" : Str)) = false := by decide)
    (he : starEach [.Name x p2, .Name y p3] Y.env = (false, eval (.Name x p2) Y.env) :: starEach [.Name y p3] Y.env := by rfl) :
    PE Y (.Call (.Name "isinstance" p1) [.Name x p2, .Name y p3] [] pos) (tE (ct Y) W (eIsE i a b)) :=
  PE.mono (pe_callB (call_isD hp T hz hf) hg hm (by decide +kernel) (pa_cons (pe_var (i := i) hN hv h1 h2) (pa_cons (pe_glob (v := .ref C) hgy hmy rfl h3) pa_nil)) (by decide) (by decide) he) fun σ H Q ⟨g, ρ, h0, rh, rs, p⟩ => by
    unfold eIsE at p
    split at p
    · rename_i a' er
      split at p
      · rename_i ea
        subst ea
        obtain ⟨u, eu, ru⟩ := rs.get i _ er
        have eu2 : u = .ref a' := by have q := ru.rv rfl; rw [RV] at q; exact q
        subst eu2
        obtain ⟨o, ho⟩ := hd
        exact ⟨.ref a', eu, .ref C, .ref C, b, rfl, fun u r => r, hk, .inr ⟨o, ho, hx⟩, p g H _ .refl rh rt_bl⟩
      · exact p.elim
    · exact p.elim
end J
namespace J
open PySem L2
open PyProof.Rows (envOfC)
/-- x(e, ..) within the except suite, x a def: the exception at p.1 is held, its dict stands at dd -/
def tHot (dd : Addr) (N ps : List Str) (tb : TS) (t : TA) : TE := fun σ H Q => t σ H fun vs H1 => vs.length = ps.length ∧ (∃ fs, H1 dd = some (.xd fs)) ∧ tb { nx := fun _ H' => Q .non H', rt := Q } (L2.start N vs) H1
theorem pe_hot {X : Cx} {k : Nat} {f dd : Addr} {x : Str} {params : Arguments} {body : List Stmt} {scope : Scope} {fd : FuncData} {N ps : List Str} {p : Addr × Obj} {e : Expr} {es : List Expr} {t : TA} {tb : TS} {q pos : Pos} (F : FunD X.K x x params body scope [] [] f fd) (S : FnScope N ps scope) (hm : X.mg x = some (.ref f)) (hg : Gl X x)
    (hr : L2H.RoomH (k + 1) X.A) (hot : L2H.Hot1 X.A p) (hp : p ∈ X.pn) (hb : Binds X.K fd ps []) (ha : PA X (e :: es) t)
    (hbody : ∀ (cdv : Value) (s : Shared) (H : Hp), (∃ o, s.heap.get? dd = some o) → L2H.RoomH k (X.A.deeper (envOfC x scope s.heap.objs.size f cdv)) → PSs (L2H.cxH (L2N.CX X.prog X.w) X.prog X.w X.K X.mg X.base N x scope f cdv X.A X.stack s H X0 p) body tb)
    (hdb : (x == ("__debug__" : Str)) = false := by decide) (he : starEach (e :: es) X.env = (false, eval e X.env) :: starEach es X.env := by rfl) (hpl : (backTo pos (starEach es X.env)).any (·.1) = false := by rfl) :
    PE X (.Call (.Name x q) (e :: es) [] pos) (tHot dd N ps tb t) := by
  refine ⟨fun pins s σ H Q I h => ?_⟩
  have kp := F.kp
  obtain ⟨oc, od, dV, kV, doc, pm, an, cdv, ctv, osl, efd, lk, hcd, _, _⟩ := F.ex
  subst efd
  refine wpAny_Call_Name_kw (ld_glob I hg hm ?_ hdb)
  refine PySem.W.callWith_K (h₀ := X.base) I.ok.mod.kin kp (thn (ha.run pos pins s σ H _ I h) fun us s1 ⟨vs, H1, I1, r, hl, ⟨fs, hfs⟩, qb⟩ => ⟨I1.kIn, ?_⟩) he hpl
  have hdd : ∃ o, s1.heap.get? dd = some o := by
    have z : ObjOk X.prog X.w H1 s1.heap dd (.xd fs) := I1.hok dd _ hfs
    obtain ⟨mA, ⟨o, _, _, e1, _⟩, _⟩ := z
    exact ⟨o, e1⟩
  have P1 := I1.pin p (List.mem_append_left _ hp)
  have held : L2H.PinOk X.stack H1 s1 p := ⟨P1.1, P1.2.1, fun z => (List.mem_cons.mp (I1.stkSub p.1 z)).elim P1.2.2.1 P1.2.2.2.1, P1.2.2.2.2⟩
  have lu : us.length = ps.length := by rw [← r.length]; exact hl
  have bb := hb s1 us I1.kIn (by rw [List.append_nil]; exact lu)
  rw [List.append_nil] at bb
  have e0 := I1.env0
  have KX : X.K.In s1.heap := I1.kIn
  have noL : s1.heap.NoLimit := e0.mod.nolimit.keeps fun b o z => (e0.bs b o z).1
  have kinds : ∀ y ∈ ps.zip us, scope.names.lookup y.1 = some .local ∨ (scope.names.lookup y.1 = some .cell ∧ ((cellsFrom (s1.heap.objs.size + 1) scope.names []).lookup y.1).isSome = true) := by
    rintro ⟨n, v⟩ hy
    exact (S.par n (List.of_mem_zip hy).1).elim .inl fun z => .inr ⟨z, PySem.W.cellsFrom_some _ _ _ (.inl z)⟩
  have run : codeAny (model X.prog X.w) X.A (.call (.ref f) ⟨us, []⟩) (CR (L2N.CX X.prog X.w) X.stack X.prog X.w H1 s1 Q X0) s1 := by
    apply codeAny_call_function hr.depth (KX _ _ lk) rfl S.co S.gen rfl (PySem.W.codeRec_of KX hcd)
    apply bb
    apply wpAny_newFunctionEnv_cells S.kind kinds
    intro env henv s2 ic
    subst henv
    refine ⟨noL.keeps ic.toInCall.keep, codeAny_func ?_⟩
    have pb := hbody cdv s1 H1 hdd (hr.deeper _)
    have I2 := L2H.inv_startH (CX := L2N.CX X.prog X.w) (E := X0) S held e0 hl r ic
    apply wpAny_mono (pb.run [] s2 (L2.start N vs) H1 { nx := fun _ H' => Q .non H', rt := Q } I2 qb)
    · intro fl s3 z
      cases fl with
      | ret u =>
        obtain ⟨v, σ3, H3, I3, rv, q3⟩ := z
        exact ⟨v, H3, I3.os, I3.bare, I3.base, I3.hok, rv, q3⟩
      | next =>
        obtain ⟨σ3, H3, I3, q3⟩ := z
        exact ⟨.non, H3, I3.os, I3.bare, I3.base, I3.hok, rfl, q3⟩
      | brk => obtain ⟨_, _, _, z⟩ := z; exact z.elim
      | cont => obtain ⟨_, _, _, z⟩ := z; exact z.elim
    · exact fun _ _ z => z
  apply wpAny_call
  apply codeAny_mono run
  intro rr s' z
  cases rr with
  | error er => exact (cx_no z).elim
  | ok fl =>
    cases fl with
    | ret u => exact I1.after z
    | next => exact z.elim
    | brk => exact z.elim
    | cont => exact z.elim
end J
namespace J
open PySem L2
def kindNames : List Str := ["BadFace", "Full", "BadSize", "BadRow", "BadRests", "NotShut", "BadMap", "NotFace", "NotNear", "NoFace", "NotFree", "BadName", "Taken", "NoWeb", "NoRow", "BadKind", "Unlike", "Had", "NothingLeft", "BadText"]
def isL (a : Addr) (i k : Nat) : EF := eLst (aCons (eIsE 0 a (i == 4 * k)) (aCons (eIsE 0 a (i == 4 * k + 1)) (aCons (eIsE 0 a (i == 4 * k + 2)) (aCons (eIsE 0 a (i == 4 * k + 3)) aNil))))
def B_kinds (a : Addr) (i : Nat) : SF := sSeq (sSet 1 (isL a i 0)) (sSeq (sSet 1 (eBin opAdd (eVar 1) (isL a i 1))) (sSeq (sSet 1 (eBin opAdd (eVar 1) (isL a i 2))) (sSeq (sSet 1 (eBin opAdd (eVar 1) (isL a i 3))) (sSeq (sSet 1 (eBin opAdd (eVar 1) (isL a i 4)))
  (sSeq (sSet 2 (eC (.str "BadFace Full BadSize BadRow BadRests NotShut BadMap NotFace NotNear NoFace NotFree BadName Taken NoWeb"))) (sSeq (sSet 2 (eSplit (eBin opAdd (eVar 2) (eC (.str " NoRow BadKind Unlike Had NothingLeft BadText"))) (eC (.str " "))))
  (sRet (eLc [3] (iRange1 (eC (.int 20))) (bNm 3) (tVal (eBin opIx (eVar 1) (eVar 3))) (eBin opIx (eVar 2) (eVar 3))))))))))
theorem isE_eval {a : Addr} {b : Bool} {r : VSt} {h : VH} : eIsE 0 a b (some (.raw a) :: r) h = .ok (.bl b) h := by
  unfold eIsE
  simp
theorem isL_eval {a : Addr} {i k : Nat} {r : VSt} {h : VH} : isL a i k (some (.raw a) :: r) h = .ok (.lst [.bl (i == 4 * k), .bl (i == 4 * k + 1), .bl (i == 4 * k + 2), .bl (i == 4 * k + 3)]) h := by
  unfold isL eLst aCons aNil
  simp only [isE_eval, Res.bind]
  rfl
def ksAt (i : Nat) : List VV := (List.range 20).map fun j => VV.bl (i == j)
theorem kinds_first {a : Addr} {i : Nat} {r : VSt} {h : VH} : sSet 1 (isL a i 0) (some (.raw a) :: none :: r) h = .nx (some (.raw a) :: some (.lst ((ksAt i).take 4)) :: r) h := by
  unfold sSet
  rw [isL_eval]
  rfl
theorem kinds_next {a : Addr} {i k : Nat} {xs : List VV} {r : VSt} {h : VH} (hx : xs.length ≤ 20) : sSet 1 (eBin opAdd (eVar 1) (isL a i k)) (some (.raw a) :: some (.lst xs) :: r) h = .nx (some (.raw a) :: some (.lst (xs ++ [.bl (i == 4 * k), .bl (i == 4 * k + 1), .bl (i == 4 * k + 2), .bl (i == 4 * k + 3)])) :: r) h := by
  unfold sSet eBin eVar
  simp only [List.getElem?_cons_succ, List.getElem?_cons_zero, Res.bind]
  rw [isL_eval]
  unfold opAdd
  simp only [Res.bind]
  have z : (24 : Nat) ≤ SZ := by decide
  rw [if_pos (by simp; omega)]
  rfl
def kinds3 : SF := sSeq (sSet 2 (eC (.str "BadFace Full BadSize BadRow BadRests NotShut BadMap NotFace NotNear NoFace NotFree BadName Taken NoWeb"))) (sSeq (sSet 2 (eSplit (eBin opAdd (eVar 2) (eC (.str " NoRow BadKind Unlike Had NothingLeft BadText"))) (eC (.str " "))))
  (sRet (eLc [3] (iRange1 (eC (.int 20))) (bNm 3) (tVal (eBin opIx (eVar 1) (eVar 3))) (eBin opIx (eVar 2) (eVar 3)))))
theorem kinds_rest {a : Addr} {h : VH} : ∀ i, i < 20 → kinds3 [some (.raw a), some (.lst (ksAt i)), none, none] h = .ret (.lst [.str (kindNames.getD i "")]) h
  | 0, _ => by kernel_rfl
  | 1, _ => by kernel_rfl
  | 2, _ => by kernel_rfl
  | 3, _ => by kernel_rfl
  | 4, _ => by kernel_rfl
  | 5, _ => by kernel_rfl
  | 6, _ => by kernel_rfl
  | 7, _ => by kernel_rfl
  | 8, _ => by kernel_rfl
  | 9, _ => by kernel_rfl
  | 10, _ => by kernel_rfl
  | 11, _ => by kernel_rfl
  | 12, _ => by kernel_rfl
  | 13, _ => by kernel_rfl
  | 14, _ => by kernel_rfl
  | 15, _ => by kernel_rfl
  | 16, _ => by kernel_rfl
  | 17, _ => by kernel_rfl
  | 18, _ => by kernel_rfl
  | 19, _ => by kernel_rfl
  | n + 20, hn => absurd hn (by omega)
theorem kinds_eval {a : Addr} {h : VH} {i : Nat} (hi : i < 20) : B_kinds a i [some (.raw a), none, none, none] h = .ret (.lst [.str (kindNames.getD i "")]) h := by
  unfold B_kinds
  unfold sSeq
  simp only [kinds_first]
  rw [kinds_next (by simp [ksAt])]
  simp only
  rw [kinds_next (by simp [ksAt])]
  simp only
  rw [kinds_next (by simp [ksAt])]
  simp only
  rw [kinds_next (by simp [ksAt])]
  simp only
  exact kinds_rest i hi
end J
namespace J
open PySem L2
open PyProof.Rows (envOfC)
/-! _law_refusal(lambda: ..) -/
theorem ext_ok {c : Ct} {g : Gh} {h : VH} {H H1 : Hp} (rh : RH c g h H) (e : LamX.ExtN H H1) (t : LTab c H1) : Stp g H g H1 ∧ RH c g h H1 := by
  have keep : ∀ q, (∃ o, H q = some o) → (∀ ps, H q ≠ some (.tbl ps)) → H1 q = H q := fun q ⟨o, ho⟩ n => by
    rw [ho]
    exact e q o ho (fun ps z => n ps (by rw [ho, z]))
  have hfz : ∀ q, g.fz q → H1 q = H q := fun q z => keep q (rh.fz q z) (rh.nt q (.inl z))
  have hkp : ∀ q, g.kp q → H1 q = H q := fun q z => keep q (rh.kp q z) (rh.nt q (.inr z))
  have hio : ∀ a ∈ g.io, H1 a = H a := fun a z => keep a (rh.root z) (rh.rootNt z)
  have st : Stp g H g H1 := ⟨List.prefix_rfl, fun _ h => h, fun _ h => h, fun q z => .inl (hfz q z), hkp, fun q us z => e q _ z (fun _ y => by cases y)⟩
  refine ⟨st, rh.len, rh.nd, fun n o a h1 h2 => RO.stp st (fun h => h) (hio a (List.mem_of_getElem? h2)) (rh.at' n o a h1 h2), fun q z => ?_, fun q z => ?_, rh.kd, t, fun q z ps => ?_⟩
  · rw [hfz q z]; exact rh.fz q z
  · rw [hkp q z]; exact rh.kp q z
  · rw [z.elim (hfz q) (hkp q)]; exact rh.nt q z ps
theorem or_eqU {X : Cx} (hu : X.A.units + 64 < cLine) : OpR X (compareOp .Eq) (Rd2 (ct X) opEq) :=
  OpR.imp (OpR.or op_eq (op_eqD hu)) fun x y H Q ⟨g, h, v, w, r, rh, rv, rw', e, kk⟩ => by
    obtain ⟨b, e1, e2⟩ := Option.map_eq_some_iff.mp e
    cases e2
    rcases eqD_cases rv rw' e1 with ⟨q1, q2⟩ | ⟨d, e, q1, q2, q3, q4, q5⟩
    · exact .inl ⟨q1, by rw [q2]; exact kk g H _ .refl rh rt_bl⟩
    · exact .inr ⟨d, e, q1, q2, q3, q4, by rw [q5]; exact kk g H _ .refl rh rt_bl⟩
/-- what the written part says of a refusal that is told -/
structure RefC (K : PySem.W.Frag) (mg : Str → Option Value) (WE : Addr) (x : Str) (i : Nat) (C : Addr) : Prop where
  m : mg x = some (.ref C)
  lt : i < 20
  nm : kindNames.getD i "" = x
  ec : ExcC K C
  xf : XfC K C
  nw : PySem.W.findIn K (.ref C) "word" = some none
  na : PySem.W.findIn K (.ref C) "at" = some none
  ex : PySem.W.exmOne K (.ref C) (.ref WE) = some true
  ve : PySem.W.kitOne K (.ref C) (.type "ValueError") = some true
  ks : ∀ j, j < 20 → ∃ Cj, mg (kindNames.getD j "") = some (.ref Cj) ∧ PySem.W.kitOne K (.ref C) (.ref Cj) = some (i == j)
/-- the body of _law_kinds, walked within the except suite -/
def KindsOk (P : Program) (w : World) (K : PySem.W.Frag) (mg : Str → Option Value) (base : Heap) (WE : Addr) (k : Nat) (body : List Stmt) (scope : Scope) (f : Addr) : Prop :=
  ∀ (cdv : Value) (A : Around) (outer : List Env) (s : Shared) (H : Hp) (a C dd : Addr) (oe : Obj) (x : Str) (i : Nat), RefC K mg WE x i C → Zc (.ref C) (some dd) oe → (∃ vs, oe.data = .fields vs) → (∃ o, s.heap.get? dd = some o) → L2H.Hot1 A (a, oe) → L2H.RoomH k (A.deeper (envOfC "_law_kinds" scope s.heap.objs.size f cdv)) →
    PSs (L2H.cxH (L2N.CX P w) P w K mg base ["_law_e", "_law_h", "_law_w", "_law_at"] "_law_kinds" scope f cdv A outer s H X0 (a, oe)) body (tS ⟨K, mg⟩ W0 (B_kinds a i))
/-- the wish at the except suite -/
def tSuite (c : Ct) (WE : Addr) (a : Addr) (cls : Value) (d : Option Addr) : TS := fun D σ H => ∃ (C dd : Addr) (x : Str) (i : Nat) (n : Int) (g : Gh) (h : VH), cls = .ref C ∧ d = some dd ∧ RefC c.K c.mg WE x i C ∧ H dd = some (.xd [("at", .int n), ("word", .str x)]) ∧ RH c g h H ∧ ¬ g.fz dd ∧ dd ∉ g.io ∧
  σ.length = 4 ∧ σ[3]? = some (some (.ref a)) ∧ ∀ g' H' σ' p, Stp g H g' H' → RH c g' h H' → H' p = some (.tup [.str x, .int n]) → σ'.length = 4 → σ'[1]? = some (some (.ref p)) → D.nx σ' H'
theorem kinds_ok : ∀ i, i < 20 → PyData.strOk (kindNames.getD i "") = true := by decide +kernel
theorem eq_strs {h : VH} {x : Str} (hx : PyData.strOk x = true) : opEq h (.lst [.str x]) (.lst [.str x]) = some (.bl true) := by
  have sh : SeqAt.shaped (toD (.lst [.str x])) = true := by
    unfold SeqAt.shaped
    simp [toD, toDs, PyData.canLay0, PyData.canLayAll0, PyData.depth, PyData.depthAll, hx]
  have ev : PyData.eqv (toD (.lst [.str x])) (toD (.lst [.str x])) = true := by
    simp [toD, toDs, PyData.eqv, PyData.eqvAll]
  unfold opEq eqD
  simp only
  rw [if_pos ⟨by simp [isD, isDs], by simp [isD, isDs], sh, sh⟩, ev]; rfl
section
variable {X : Cx}
theorem suite_ok {WE fk : Addr} {k : Nat} {pk : Arguments} {bk : List Stmt} {sk : Scope} {fdk : FuncData} {p1 p2 p3 p4 p5 p6 p7 p8 p9 p10 p11 p12 p13 p14 p15 p16 p17 p18 p19 p20 p21 p22 p23 p24 p25 p26 p27 p28 p29 p30 : Pos} {i1 i2 i3 i4 i5 : Nat}
    (hN : X.N = (["_law_ask", "_law_found", "_law_kinds_here", "_law_e"] : List Str)) (l1 : X.env.scope.names.lookup ("_law_found" : Str) = some NameKind.local) (l2 : X.env.scope.names.lookup ("_law_kinds_here" : Str) = some NameKind.local) (l3 : X.env.scope.names.lookup ("_law_e" : Str) = some NameKind.local)
    (gk : Gl X "_law_kinds") (gi : Gl X "isinstance") (gv : Gl X "ValueError") (mi : X.mg "isinstance" = none) (mv : X.mg "ValueError" = none) (Fk : FunD X.K "_law_kinds" "_law_kinds" pk bk sk [] [] fk fdk) (Sk : FnScope ["_law_e", "_law_h", "_law_w", "_law_at"] ["_law_e"] sk) (mk : X.mg "_law_kinds" = some (.ref fk)) (hbk : Binds X.K fdk ["_law_e"] [])
    (hr : L2H.RoomH (k + 1) X.A) (KB : KindsOk X.prog X.w X.K X.mg X.base WE k bk sk fk) (a : Addr) (oe : Obj) (cls : Value) (d : Option Addr) (pn : List (Addr × Obj)) (hz : L2N.Zn cls d oe) (hf : ∃ vs, oe.data = .fields vs) :
    PSs (X.suite a ((a, oe) :: pn)) [.Assign [.Name "_law_kinds_here" p1] (.Call (.Name "_law_kinds" p2) [.Name "_law_e" p3] [] p4) p5,
      .Assign [.Name "_law_found" p6] (.Tuple [.Constant (.str "other") i1 p7, .UnaryOp .USub (.Constant (.int 1) i2 p8) p9] i3 p10) p11,
      .If (.BoolOp .And [.Compare (.Name "_law_kinds_here" p12) [.Eq] [.List [.Attribute (.Name "_law_e" p13) "word" p14] p15] p16, .Call (.Name "isinstance" p17) [.Name "_law_e" p18, .Name "ValueError" p19] [] p20] p21)
        [.Assign [.Name "_law_found" p22] (.Tuple [.Subscript (.Name "_law_kinds_here" p23) (.Constant (.int 0) i4 p24) p25, .Attribute (.Name "_law_e" p26) "at" p27] i5 p28) p29] [] p30] (tSuite (ct X) WE a cls d) := by
  refine ⟨fun pins s σ H D I pre => ?_⟩
  obtain ⟨C, dd, x, i, n, g, h, rfl, rfl, R, hdd, rh, nf, ni, hl, h3, fin⟩ := pre
  have hzc : Zc (.ref C) (some dd) oe := hz.zc
  have hot : L2H.Hot1 (X.suite a ((a, oe) :: pn)).A (a, oe) := by
    obtain ⟨vs, hv⟩ := hf
    exact ⟨rfl, vs, hv, hz.2.2 vs hv⟩
  have hN' : (X.suite a ((a, oe) :: pn)).N.Nodup := by show X.N.Nodup; rw [hN]; decide +kernel
  have n1 : (X.suite a ((a, oe) :: pn)).N[1]? = some ("_law_found" : Str) := by show X.N[1]? = _; rw [hN]; rfl
  have n2 : (X.suite a ((a, oe) :: pn)).N[2]? = some ("_law_kinds_here" : Str) := by show X.N[2]? = _; rw [hN]; rfl
  have n3 : (X.suite a ((a, oe) :: pn)).N[3]? = some ("_law_e" : Str) := by show X.N[3]? = _; rw [hN]; rfl
  have hrS : L2H.RoomH (k + 1) (X.suite a ((a, oe) :: pn)).A := ⟨hr.dp, hr.un⟩
  have hu : (X.suite a ((a, oe) :: pn)).A.units + 64 < cLine := by have := hr.un; show X.A.units + 64 < cLine; omega
  have d0 := ps_set (X := X.suite a ((a, oe) :: pn)) (i := 2) (pos := p5) (pos' := p1) hN' n2 (.inl l2) (pe_hot (X := X.suite a ((a, oe) :: pn)) (dd := dd) (q := p2) (pos := p4) Fk Sk mk gk hrS hot (List.mem_cons_self ..) hbk (pa_cons (pe_var (i := 3) (pos := p3) n3 (.inl l3)) pa_nil)
    (fun cdv s H hd hr2 => KB cdv _ _ s H a C dd oe x i R hzc hf hd hot hr2)) (hf := .inr l2)
  have d1 := ps_set (X := X.suite a ((a, oe) :: pn)) (i := 1) (pos := p11) (pos' := p6) hN' n1 (.inl l1) (pe_tup (x1 := i3) (pos := p10) (pa_cons (pe_str (j := i1) (pos := p7) (x := "other")) (pa_cons (pe_un (pos := p9) un_neg (pe_int (j := i2) (pos := p8) (i := 1))) pa_nil))) (hf := .inr l1)
  have xw := pe_xf (X := X) (pn := pn) (n := "word") (pos := p14) R.xf R.nw hzc hf (pe_var (i := 3) (pos := p13) n3 (.inl l3))
  have xa := pe_xf (X := X) (pn := pn) (n := "at") (pos := p27) R.xf R.na hzc hf (pe_var (i := 3) (pos := p26) n3 (.inl l3))
  have tv := pt_val (pe_callB (X := X.suite a ((a, oe) :: pn)) (p := p17) (pos := p20) (call_isD (List.mem_cons_self ..) R.ec hzc hf) gi mi (by decide +kernel) (pa_cons (pe_var (i := 3) (pos := p18) n3 (.inl l3)) (pa_cons (pe_bltn (v := .ty "ValueError") (pos := p19) gv mv PyProof.Rows.Boot.«ValueError» rfl) pa_nil)))
  have d2 := ps_if (pos := p30) (PW.pt (pw_and (pos := p21) (pt_cmpR (pos := p16) (or_eqU hu) (pe_var (i := 2) (pos := p12) n2 (.inl l2)) (pe_lst (pos := p15) (pa_cons xw pa_nil)) (nomark _)) (pw_and1 (pos := p21) tv)))
    (pss_one (ps_set (X := X.suite a ((a, oe) :: pn)) (i := 1) (pos := p29) (pos' := p22) hN' n1 (.inl l1) (pe_tup (x1 := i5) (pos := p28) (pa_cons (j_ix (W := W0) (X := X.suite a ((a, oe) :: pn)) (pos := p25) ir_ix (j_var 2 (pe_var (i := 2) (pos := p23) n2 (.inl l2))) (j_int (i := 0) (j := i4) (pos := p24)) (fun _ _ => rfl)) (pa_cons xa pa_nil))) (hf := .inr l1))) pss_nil
  refine (pss_cons d0 (pss_cons d1 (pss_one d2))).run pins s σ H D I ?_
  have lenS : ∀ (i : Nat) (v : Option V), (σ.set i v).length = 4 := fun i v => by rw [List.length_set]; exact hl
  refine ⟨.ref a, h3, rfl, ⟨_, hdd⟩, g.keep dd, [some (.raw a), none, none, none], h, rh.keep hdd nf ni, ⟨rfl, ?_⟩, ?_⟩
  · intro j v e
    match j, e with
    | 0, e =>
      cases e
      exact ⟨.ref a, rfl, RT.of_rv (by rw [RV])⟩
    | 1, e => cases e
    | 2, e => cases e
    | 3, e => cases e
    | j + 4, e => simp at e
  rw [kinds_eval R.lt, R.nm]
  intro g2 H2 u st rh2 rv
  have kp2 : g2.kp dd := st.kp dd (.inr rfl)
  have hdd2 : H2 dd = some (.xd [("at", .int n), ("word", .str x)]) := (st.kH dd (.inr rfl)).trans hdd
  refine ⟨1, rfl, by show 2 ≤ sizeLine; rw [PySem.sizeLine_eq]; decide, fun p hp => ?_⟩
  have st3 : Stp g2 H2 g2 (upd H2 p (.tup [.str "other", .int (-1)])) := .junk rh2 hp
  have rh3 : RH (ct X) g2 h (upd H2 p (.tup [.str "other", .int (-1)])) := rh2.junk hp
  have hdd3 : upd H2 p (.tup [.str "other", .int (-1)]) dd = some (.xd [("at", .int n), ("word", .str x)]) := (st3.kH dd kp2).trans hdd2
  have s2 : ((σ.set 2 (some u)).set 1 (some (V.ref p)))[2]? = some (some u) := by
    rw [List.getElem?_set_ne (by decide), List.getElem?_set_self (by omega)]
  have s3 : ((σ.set 2 (some u)).set 1 (some (V.ref p)))[3]? = some (some (.ref a)) := by
    rw [List.getElem?_set_ne (by decide), List.getElem?_set_ne (by decide)]; exact h3
  have l3' : ((σ.set 2 (some u)).set 1 (some (V.ref p))).length = 4 := by rw [List.length_set, List.length_set]; exact hl
  revert st3 rh3 hdd3
  generalize upd H2 p (.tup [.str "other", .int (-1)]) = H3
  intro st3 rh3 hdd3
  refine ⟨u, s2, .ref a, s3, rfl, rfl, dd, _, .str x, rfl, hdd3, rfl, by show 1 ≤ sizeLine; rw [PySem.sizeLine_eq]; decide, fun p4 hp4 => ?_⟩
  obtain ⟨st4, rh4, rt4⟩ := new_lst (xs := [.str x]) rh3 hp4 (RVs.one (by rw [RV]))
  refine ⟨g2.frz p4, h, .lst [.str x], .lst [.str x], .bl true, rh4, (rv.stp st3).stp st4, rt4, eq_strs (by rw [← R.nm]; exact kinds_ok i R.lt), fun g5 H5 u5 st5 rh5 rv5 => ⟨true, bl_get rv5, ?_⟩⟩
  show (if (true : Bool) = true then _ else _)
  rw [if_pos rfl]
  have kp5 : g5.kp dd := st5.kp dd (st4.kp dd kp2)
  have hdd5 : H5 dd = some (.xd [("at", .int n), ("word", .str x)]) := ((st5.kH dd (st4.kp dd kp2)).trans (st4.kH dd kp2)).trans hdd3
  refine ⟨.ref a, s3, .ty "ValueError", .type "ValueError", true, rfl, fun u r => r, R.ve, .inl ⟨_, hdd5⟩, true, rfl, ?_⟩
  show (if (true : Bool) = true then _ else _)
  rw [if_pos rfl]
  have ru5 : RT (ct X) g5 H5 (.lst [.str x]) u := ((rv.stp st3).stp st4).stp st5
  refine ⟨g5, [none, none, some (.lst [.str x]), none], h, rh5, ⟨l3'.symm, ?_⟩, ?_⟩
  · intro j v e
    match j, e with
    | 0, e => cases e
    | 1, e => cases e
    | 2, e =>
      cases e
      exact ⟨u, s2, ru5⟩
    | 3, e => cases e
    | j + 4, e => simp at e
  intro g6 H6 u6 st6 rh6 rv6
  have e6 := str_get rv6
  subst e6
  have hdd6 : H6 dd = some (.xd [("at", .int n), ("word", .str x)]) := (st6.kH dd kp5).trans hdd5
  refine ⟨.ref a, s3, rfl, rfl, dd, _, .int n, rfl, hdd6, rfl, by show 2 ≤ sizeLine; rw [PySem.sizeLine_eq]; decide, fun p7 hp7 => ?_⟩
  have all : Stp (g.keep dd) H g6 (upd H6 p7 (.tup [.str x, .int n])) := ((((st.trans st3).trans st4).trans st5).trans st6).trans (.junk rh6 hp7)
  refine fin (g6.back g.kp) _ _ p7 all.back ((rh6.junk hp7).back (fun q z => all.kp q (.inl z))) upd_same ?_ ?_
  · rw [List.length_set]; exact l3'
  · rw [List.getElem?_set_self (by omega)]
end
end J
namespace J
open PySem L2
open PyProof.Rows (envOfC)
/-- the context of a lambda's body; what it lets out has no context of its own -/
abbrev lamN (X : Cx) (A : Around) (outer : List Env) (s : Shared) (H : Hp) (E : XK) (scope : Scope) (f c' : Addr) : Cx := (LamX.lamCx X A outer s H E scope f c').wish fun e s' =>
  wpAny (model X.prog X.w) (A.deeper (LamX.lamEnv X scope s.heap.objs.size f c')) (leaving (LamX.lamEnv X scope s.heap.objs.size f c') e) (fun _ s2 => L2N.CX X.prog X.w outer H s E e s2) (fun e2 s2 => L2N.CX X.prog X.w outer H s E e2 s2) s'
theorem pe_actN {X : Cx} {pins : List (Addr × Obj)} {σ : L2.St} {H : Hp} {s : Shared} {Ng : List Str} {qg : Str} {sg : Scope} {gA f c' : Addr} {cdg pm ctv : Value} {params : Arguments} {body : Expr} {scope : Scope} {k i : Nat} {a : Str} {pn : List (Addr × Obj)} {xe : Value → Shared → Prop} {W : WX} {tb : XK → TE} {p1 p2 : Pos}
    (I : Inv X pins σ H s) (L : LamX.LamS X.env.scope scope) (hf : s.heap.get? f = some (PySem.W.kla_obj "<lambda>" (X.env.qual ++ "<lambda>") params body scope (cloFrom X.env.cells scope.names []) pm c' ctv)) (hfn : H f = none) (hfr : f ∉ frs X.stack)
    (hbind : bindArgs (PySem.W.kla_fn "<lambda>" (X.env.qual ++ "<lambda>") params body scope (cloFrom X.env.cells scope.names []) pm (.ref c') ctv) ⟨[], []⟩ = pure [])
    (tk : L2N.Takes ((cxOf C8.CX0 X.prog X.w X.K X.mg X.base Ng qg sg gA cdg X.A X.stack s H C8.E0).tr pn xe) W) (hr : Room (k + 1) (X.A.deeper (envOfC qg sg s.heap.objs.size gA cdg)))
    (hbody : ∀ (A : Around) (outer : List Env) (s : Shared) (H : Hp) (E : XK), Room k (A.deeper (LamX.lamEnv X scope s.heap.objs.size f c')) → PE (lamN X A outer s H E scope f c') body (tb E))
    (hN : Ng[i]? = some a) (hv : Vis sg a) (hd : (a == ("__debug__" : Str)) = false := by decide) (hcd : (a == ("__classdict__" : Str)) = false := by decide) :
    PE ((cxOf C8.CX0 X.prog X.w X.K X.mg X.base Ng qg sg gA cdg X.A X.stack s H C8.E0).tr pn xe) (.Call (.Name a p1) [] [] p2)
      (fun τ G Q => τ[i]? = some (some (.ref f)) ∧ G c' = some (LamX.CodeO c' (X.env.qual ++ "<lambda>")) ∧ tb (fun cls d G' => W cls d τ G') σ G Q) := by
  refine ⟨fun qs s0 τ G Q I0 h => ?_⟩
  obtain ⟨hs, hc, ht⟩ := h
  have rd := (pe_var (pos := p1) (i := i) hN hv hd hcd).run qs s0 τ G (fun v G1 => v = .ref f ∧ G1 = G) I0 ⟨.ref f, hs, rfl, rfl⟩
  refine wpAny_Call_Name_kw (thn rd fun u s1 z => ?_)
  obtain ⟨v, G1, I1, r1, ev, eG⟩ := z
  subst ev
  subst eG
  obtain rfl : u = Value.ref f := r1
  have hf1 : s1.heap.get? f = some (PySem.W.kla_obj "<lambda>" (X.env.qual ++ "<lambda>") params body scope (cloFrom X.env.cells scope.names []) pm c' ctv) := by
    refine I1.base.keep f _ hf hfn hfr fun z => ?_
    cases z
  apply PySem.W.callWith_F0 ⟨_, _, _, _, hf1⟩
  have kept : Un (frs X.stack) [] H G1 s.heap s1.heap := I1.base
  obtain ⟨⟨oc, vs, t, hoc, hdc, hvc⟩, _, _⟩ := I1.hok c' _ hc
  have run : codeAny (model X.prog X.w) (X.A.deeper (envOfC qg sg s.heap.objs.size gA cdg)) (.call (.ref f) ⟨[], []⟩) (CR (L2N.CX X.prog X.w) (envOfC qg sg s.heap.objs.size gA cdg :: X.stack) X.prog X.w G1 s1 Q fun cls d G' => W cls d τ G') s1 := by
    apply PySem.W.kla_callFunE hr.depth hf1 rfl L.co L.gen rfl ⟨c', oc, vs, t, rfl, hoc, hdc, hvc⟩
    rw [hbind]
    apply wpAny_pure
    refine wpAny_newFunctionEnv (fun y hy => (L.own y hy).2) (fun y hy => absurd hy (by simp)) (fun h1 hns hsb => ?_) L.kind
    refine ⟨I1.nolimit.fresh _ hsb, ?_⟩
    show codeAny _ _ (.expr body (LamX.lamEnv X scope s1.heap.objs.size f c')) _ _
    have old : ∀ b o, s1.heap.get? b = some o → h1.get? b = some o := by
      intro b o z
      exact hsb.extBut b o (Nat.ne_of_lt (Heap.lt_size z)) (Heap.get?_push_of_some _ z)
    have J0 := LamX.lam_start2 (E := fun cls d G' => W cls d τ G') (f := f) (c' := c') (tk := s1.toks + ([] : List (Str × Value)).length) I L I1.env0 hr.hd kept hns old
    have J : Inv (lamN X (X.A.deeper (envOfC qg sg s.heap.objs.size gA cdg)) (envOfC qg sg s.heap.objs.size gA cdg :: X.stack) s1 G1 (fun cls d G' => W cls d τ G') scope f c') [] σ G1 { s1 with heap := h1, toks := s1.toks + ([] : List (Str × Value)).length } := J0.wish _
    apply PySem.W.kla_codeExpr
    refine wpAny_mono ((hbody _ _ s1 G1 _ (hr.deeper _)).run [] _ _ G1 Q J ht) (fun v s2 hq => ?_) fun e s2 hq => hq
    obtain ⟨w2, G2, J2, rv, q⟩ := hq
    exact ⟨w2, G2, J2.os, J2.bare, J2.base, J2.hok, rv, q⟩
  apply wpAny_call
  apply codeAny_mono run
  intro rr s2 hq
  cases rr with
  | error e => exact L2N.passAt tk τ qs G1 s1 e s2 I1 hq
  | ok fl =>
    cases fl with
    | ret u => exact I1.after hq
    | next => exact hq.elim
    | brk => exact hq.elim
    | cont => exact hq.elim
def eRef (xs : List Str) (fb : EF) : EF := fun ρ h => match fb ρ h with
  | .no => .no
  | .ok _ h' => .ok (.tup [.str "let", .int (-1)]) (trim h.length .non h')
  | .exc x ns vs h' => if x ∈ xs ∧ ns = (["at", "word"] : List Str) then (match vs with
    | [.int n, .str y] => if y = x then .ok (.tup [.str x, .int n]) (trim h.length .non h') else .no
    | _ => .no) else .no
theorem rt_pair {c : Ct} {g : Gh} {H : Hp} {p : Addr} {x : Str} {n : Int} (e : H p = some (.tup [.str x, .int n])) : RT c g H (.tup [.str x, .int n]) (.ref p) := by
  refine RT.of_rv ?_
  rw [RV]
  exact ⟨p, _, rfl, e, RVs.cons (by rw [RV]) (RVs.one (rv_int _ _ _ _))⟩
theorem ref_run {X : Cx} {W : WX} {xs : List Str} {fb : EF} {WE g0 fk : Addr} {k kk : Nat} {pg pk : Arguments} {bg bk : List Stmt} {sg sk : Scope} {fdg fdk : FuncData} {params : Arguments} {body : Expr} {scope : Scope}
    {p1 p2 p3 p4 p5 p6 p7 p8 p9 p10 p11 p12 p13 p14 p15 p16 p17 p18 p19 p20 p21 p22 p23 p24 p25 p26 p27 p28 p29 p30 q1 q2 q3 q4 q5 q6 q7 q8 q9 q10 q11 q12 q13 q14 : Pos} {i1 i2 i3 i4 i5 i6 i7 i8 : Nat}
    (hm : X.mg "_law_refusal" = some (.ref g0)) (FD : FunD X.K "_law_refusal" "_law_refusal" pg bg sg [] [] g0 fdg) (Sg : FnScope ["_law_ask", "_law_found", "_law_kinds_here", "_law_e"] ["_law_ask"] sg) (hbg : Binds X.K fdg ["_law_ask"] [])
    (ebg : bg = [.Assign [.Name "_law_found" q1] (.Tuple [.Constant (.str "let") i6 q2, .UnaryOp .USub (.Constant (.int 1) i7 q3) q4] i8 q5) q6,
      .Try [.Expr (.Call (.Name "_law_ask" q7) [] [] q8) q9] [.ExceptHandler (some (.Name "WebError" q10)) (some "_law_e") [.Assign [.Name "_law_kinds_here" p1] (.Call (.Name "_law_kinds" p2) [.Name "_law_e" p3] [] p4) p5,
      .Assign [.Name "_law_found" p6] (.Tuple [.Constant (.str "other") i1 p7, .UnaryOp .USub (.Constant (.int 1) i2 p8) p9] i3 p10) p11,
      .If (.BoolOp .And [.Compare (.Name "_law_kinds_here" p12) [.Eq] [.List [.Attribute (.Name "_law_e" p13) "word" p14] p15] p16, .Call (.Name "isinstance" p17) [.Name "_law_e" p18, .Name "ValueError" p19] [] p20] p21)
        [.Assign [.Name "_law_found" p22] (.Tuple [.Subscript (.Name "_law_kinds_here" p23) (.Constant (.int 0) i4 p24) p25, .Attribute (.Name "_law_e" p26) "at" p27] i5 p28) p29] [] p30] q11] [] [] q12,
      .Return (some (.Name "_law_found" q13)) q14])
    (l0 : sg.names.lookup ("_law_ask" : Str) = some NameKind.local) (l1 : sg.names.lookup ("_law_found" : Str) = some NameKind.local) (l2 : sg.names.lookup ("_law_kinds_here" : Str) = some NameKind.local) (l3 : sg.names.lookup ("_law_e" : Str) = some NameKind.local)
    (gk : sg.names.lookup ("_law_kinds" : Str) = some NameKind.globalImplicit) (gi : sg.names.lookup ("isinstance" : Str) = some NameKind.globalImplicit) (gv : sg.names.lookup ("ValueError" : Str) = some NameKind.globalImplicit) (gw : sg.names.lookup ("WebError" : Str) = some NameKind.globalImplicit)
    (mi : X.mg "isinstance" = none) (mv : X.mg "ValueError" = none) (mw : X.mg "WebError" = some (.ref WE)) (Fk : FunD X.K "_law_kinds" "_law_kinds" pk bk sk [] [] fk fdk) (Sk : FnScope ["_law_e", "_law_h", "_law_w", "_law_at"] ["_law_e"] sk) (mk : X.mg "_law_kinds" = some (.ref fk)) (hbk : Binds X.K fdk ["_law_e"] [])
    (KB : KindsOk X.prog X.w X.K X.mg X.base WE kk bk sk fk) (RX : ∀ x ∈ xs, ∃ i C, RefC X.K X.mg WE x i C)
    (hr : Room (k + 2) X.A) (hk : kk ≤ k) (L : LamX.LamS X.env.scope scope)
    (hbind : ∀ (q : Str) (cl : List (Str × Addr)) (pm cv ctv : Value), bindArgs (PySem.W.kla_fn "<lambda>" q params body scope cl pm cv ctv) ⟨[], []⟩ = pure [])
    (hbody : ∀ (A : Around) (outer : List Env) (s : Shared) (H : Hp) (E : XK) (f c' : Addr), Room k (A.deeper (LamX.lamEnv X scope s.heap.objs.size f c')) → PE (lamN X A outer s H E scope f c') body (tE (ct X) (Wc E) fb))
    {pins : List (Addr × Obj)} {s1 : Shared} {σ : St} {H1 : Hp} {Q : VK} {g : Gh} {ρ : VSt} {h0 : VH} {f c' : Addr} {pm2 ctv : Value} (I1 : Inv X pins σ H1 s1) (hf : s1.heap.get? f = some (PySem.W.kla_obj "<lambda>" (X.env.qual ++ "<lambda>") params body scope (cloFrom X.env.cells scope.names []) pm2 c' ctv)) (hfn : H1 f = none) (hfr : f ∉ frs X.stack) (hco : H1 c' = some (LamX.CodeO c' (X.env.qual ++ "<lambda>")))
    (rh1 : RH (ct X) g h0 H1) (rs : RS (ct X) g H1 ρ σ) (pp : Pst (ct X) W σ (RT (ct X)) g H1 Q (eRef xs fb ρ h0)) : wpAny (model X.prog X.w) X.A (call (.ref g0) [.ref f]) (EP X pins σ Q) X.xe s1 := by
  obtain ⟨oc, od, dV, kV, doc, pm, an, cdg, ctv0, osl, efd, lk, hcg, _, _⟩ := FD.ex
  subst efd
  subst ebg
  have run : codeAny (model X.prog X.w) X.A (.call (.ref g0) ⟨[.ref f], []⟩) (CR C8.CX0 X.stack X.prog X.w H1 s1 Q C8.E0) s1 := by
    refine LamX.run_ofS (N := ["_law_ask", "_law_found", "_law_kinds_here", "_law_e"]) (ps := ["_law_ask"]) (us := [.ref f]) (vs := [.ref f]) lk hcg Sg hr I1.env0 (hbg s1 [.ref f] I1.kIn rfl) (.cons rfl .nil) rfl fun hr' => ?_
    generalize hZ : cxOf C8.CX0 X.prog X.w X.K X.mg X.base ["_law_ask", "_law_found", "_law_kinds_here", "_law_e"] "_law_refusal" sg g0 cdg X.A X.stack s1 H1 C8.E0 = Z
    have eN' : Z.N = (["_law_ask", "_law_found", "_law_kinds_here", "_law_e"] : List Str) := by rw [← hZ]; rfl
    have eS : Z.env.scope = sg := by rw [← hZ]; rfl
    have nd : Z.N.Nodup := by rw [eN']; decide +kernel
    have n1 : Z.N[1]? = some ("_law_found" : Str) := by rw [eN']; rfl
    have n3 : Z.N[3]? = some ("_law_e" : Str) := by rw [eN']; rfl
    have v1 : Z.env.scope.names.lookup ("_law_found" : Str) = some NameKind.local := by rw [eS]; exact l1
    have v3 : Z.env.scope.names.lookup ("_law_e" : Str) = some NameKind.local := by rw [eS]; exact l3
    have glob : ∀ y : Str, sg.names.lookup y = some NameKind.globalImplicit → Gl Z y := fun y hy => by rw [← hZ]; exact hy
    have d1 := ps_set (X := Z) (i := 1) (pos := q6) (pos' := q1) nd n1 (.inl v1) (pe_tup (x1 := i8) (pos := q5) (pa_cons (pe_str (j := i6) (pos := q2) (x := "let")) (pa_cons (pe_un (pos := q4) un_neg (pe_int (j := i7) (pos := q3) (i := 1))) pa_nil))) (hf := .inr v1)
    have rZ : L2H.RoomH (kk + 1) Z.A := by
      have z := L2H.roomH_of (hr'.mono (show kk + 1 ≤ k + 1 by omega))
      rw [← hZ]
      exact z
    have d2 := L2N.ps_try_as (X := Z) (x := "WebError") (n := "_law_e") (c := .ref WE) (i := 3) (np := q10) (pos := q12) (pos' := q11) (Wout := fun _ _ _ _ => False) (ts := tSuite (ct X) WE)
      (tb := fun Wi => tDrop fun τ G Q => τ[0]? = some (some (.ref f)) ∧ G c' = some (LamX.CodeO c' (X.env.qual ++ "<lambda>")) ∧ tE (ct X) (Wc fun cls d G' => Wi cls d τ G') fb σ G Q) (body := [.Expr (.Call (.Name "_law_ask" q7) [] [] q8) q9])
      (by rw [← hZ]; rfl) (by rw [← hZ]; rfl) nd n3 v3 ⟨glob _ gw, by decide, .inl (by rw [← hZ]; exact mw)⟩ takesN0
      (fun Wi pn xe tk _ => by
        subst hZ
        exact pss_one (ps_expr (pe_actN (i := 0) (tb := fun E => tE (ct X) (Wc E) fb) I1 L hf hfn hfr (hbind _ _ _ _ _) tk hr' (fun A outer s H E hr2 => hbody A outer s H E f c' hr2) rfl (.inl l0))))
      (fun a oe cls d pn hz hfl => by
        subst hZ
        exact suite_ok (X := cxOf C8.CX0 X.prog X.w X.K X.mg X.base ["_law_ask", "_law_found", "_law_kinds_here", "_law_e"] "_law_refusal" sg g0 cdg X.A X.stack s1 H1 C8.E0) (WE := WE) (k := kk) (p1 := p1) (p2 := p2) (p3 := p3) (p4 := p4) (p5 := p5) (p6 := p6) (p7 := p7) (p8 := p8) (p9 := p9) (p10 := p10) (p11 := p11) (p12 := p12) (p13 := p13) (p14 := p14) (p15 := p15) (p16 := p16) (p17 := p17) (p18 := p18) (p19 := p19) (p20 := p20) (p21 := p21) (p22 := p22) (p23 := p23) (p24 := p24) (p25 := p25) (p26 := p26) (p27 := p27) (p28 := p28) (p29 := p29) (p30 := p30) (i1 := i1) (i2 := i2) (i3 := i3) (i4 := i4) (i5 := i5) rfl l1 l2 l3 gk gi gv mi mv Fk Sk mk hbk rZ KB a oe cls d pn hz hfl)
    refine ⟨_, pss_cons d1 (pss_cons d2 (pss_one (ps_ret (pos := q14) (pe_var (i := 1) (pos := q13) n1 (.inl v1))))), ?_⟩
    refine ⟨1, rfl, by show 2 ≤ sizeLine; rw [PySem.sizeLine_eq]; decide, fun p0 hp0 => ?_⟩
    have st2 : Stp g H1 g (upd H1 p0 (.tup [.str "let", .int (-1)])) := .junk rh1 hp0
    have rh2 : RH (ct X) g h0 (upd H1 p0 (.tup [.str "let", .int (-1)])) := rh1.junk hp0
    refine ⟨rfl, by rw [upd_ne (ne_of_none hco hp0)]; exact hco, g, ρ, h0, rh2, rs.stp st2, ?_⟩
    have hp2 : upd H1 p0 (.tup [.str "let", .int (-1)]) p0 = some (.tup [.str "let", .int (-1)]) := upd_same
    revert st2 rh2 hp2
    generalize upd H1 p0 (.tup [.str "let", .int (-1)]) = H2
    intro st2 rh2 hp2
    unfold eRef at pp
    cases er : fb ρ h0 with
    | no => rw [er] at pp; exact pp
    | ok v h' =>
      rw [er] at pp
      intro g' H' u st rh' rv
      have all : Stp g H1 g' H' := st2.trans st
      obtain ⟨g3, s3, r3, _⟩ := trim_ok rh1 all rh' (rt_non (c := ct X))
      exact ⟨.ref p0, rfl, pp g3 H' _ s3 r3 (rt_pair (st.tp _ _ hp2))⟩
    | exc x ns vs h' =>
      rw [er] at pp
      simp only at pp
      intro g' H' C d us st rh' m e l rvs
      have all : Stp g H1 g' H' := st2.trans st
      by_cases cc : x ∈ xs ∧ ns = (["at", "word"] : List Str)
      · rw [if_pos cc] at pp
        obtain ⟨hx, rfl⟩ := cc
        split at pp
        · rename_i n y
          by_cases ey : y = x
          · rw [if_pos ey] at pp
            subst ey
            rw [RVs] at rvs
            obtain ⟨u1, r1, rfl, a1, rvs⟩ := rvs
            rw [RVs] at rvs
            obtain ⟨u2, r2, rfl, a2, rvs⟩ := rvs
            rw [RVs] at rvs
            subst rvs
            rw [RV] at a1
            rw [RV] at a2
            subst a1
            subst a2
            obtain ⟨i, C0, R⟩ := RX y hx
            have eC : C0 = C := by
              have z := R.m.symm.trans m
              cases z
              rfl
            subst eC
            refine ⟨true, by rw [← hZ]; exact R.ex, fun _ a ha => ?_, fun z => by cases z⟩
            refine ⟨C0, d, y, i, n, g', h', rfl, rfl, R, e.1, rh', e.2.1, e.2.2, rfl, rfl, fun g2 H3 σ' p7 st7 rh7 hp7 hl7 h17 => ?_⟩
            obtain ⟨g3, s3, r3, _⟩ := trim_ok rh1 (all.trans st7) rh7 (rt_non (c := ct X))
            refine ⟨.ref p7, ?_, pp g3 H3 _ s3 r3 (rt_pair hp7)⟩
            rw [List.getElem?_set_ne (by decide)]
            exact h17
          · rw [if_neg ey] at pp; exact pp.elim
        · exact pp.elim
      · rw [if_neg cc] at pp; exact pp.elim
  apply wpAny_call
  apply codeAny_mono run
  intro rr s2 hq2
  cases rr with
  | error e => exact hq2.elim
  | ok fl =>
    cases fl with
    | ret u => exact I1.after hq2
    | next => exact hq2.elim
    | brk => exact hq2.elim
    | cont => exact hq2.elim
end J
namespace J
open PySem L2
open PyProof.Rows (envOfC)
/-- what _law_refusal makes of a lambda, at the def g0 -/
def RefRun (X : Cx) (g0 : Addr) (xs : List Str) (kk : Nat) : Prop := ∀ (W : WX) (fb : EF) (k : Nat) (params : Arguments) (body : Expr) (scope : Scope), Room (k + 2) X.A → kk ≤ k → LamX.LamS X.env.scope scope →
  (∀ (q : Str) (cl : List (Str × Addr)) (pm cv ctv : Value), bindArgs (PySem.W.kla_fn "<lambda>" q params body scope cl pm cv ctv) ⟨[], []⟩ = pure []) →
  (∀ (A : Around) (outer : List Env) (s : Shared) (H : Hp) (E : XK) (f c' : Addr), Room k (A.deeper (LamX.lamEnv X scope s.heap.objs.size f c')) → PE (lamN X A outer s H E scope f c') body (tE (ct X) (Wc E) fb)) →
  ∀ (pins : List (Addr × Obj)) (s1 : Shared) (σ : St) (H1 : Hp) (Q : VK) (g : Gh) (ρ : VSt) (h0 : VH) (f c' : Addr) (pm2 ctv : Value), Inv X pins σ H1 s1 → s1.heap.get? f = some (PySem.W.kla_obj "<lambda>" (X.env.qual ++ "<lambda>") params body scope (cloFrom X.env.cells scope.names []) pm2 c' ctv) → H1 f = none → f ∉ frs X.stack → H1 c' = some (LamX.CodeO c' (X.env.qual ++ "<lambda>")) →
    RH (ct X) g h0 H1 → RS (ct X) g H1 ρ σ → Pst (ct X) W σ (RT (ct X)) g H1 Q (eRef xs fb ρ h0) → wpAny (model X.prog X.w) X.A (call (.ref g0) [.ref f]) (EP X pins σ Q) X.xe s1
structure OkR (P : Program) (w : World) (K : PySem.W.Frag) (mg : Str → Option Value) (base : Heap) (xs : List Str) (kk : Nat) : Prop where
  ex : ∃ g0, mg "_law_refusal" = some (.ref g0) ∧ PySem.W.keepIn K (.ref g0) = true ∧ ∀ X : Cx, X.prog = P → X.w = w → X.K = K → X.mg = mg → X.base = base → RefRun X g0 xs kk
section
variable {X : Cx} {W : WX} {xs : List Str} {fb : EF} {c P : Addr} {k kk : Nat} {params : Arguments} {body : Expr} {scope : Scope}
theorem tabs1 {g : Gh} {h : VH} {H : Hp} (rh : RH (ct X) g h H) (hTab : PySem.W.tabIn X.K lamFn = some (c, P)) (hq : X.env.qual ++ "<lambda>" = lamQ) : LamX.Tabs [(P, X.env.qual ++ "<lambda>")] H := fun q hq' => by
  have e : q = (P, X.env.qual ++ "<lambda>") := by simpa using hq'
  rw [e, hq]
  exact rh.tb c P hTab
theorem tabs2 {H : Hp} (T : LamX.Tabs [(P, X.env.qual ++ "<lambda>")] H) (hTab : PySem.W.tabIn X.K lamFn = some (c, P)) (hq : X.env.qual ++ "<lambda>" = lamQ) : LTab (ct X) H := fun c2 P2 e2 => by
  have e3 := hTab.symm.trans e2
  cases e3
  rw [← hq]
  exact T _ (List.mem_singleton.mpr rfl)
/-- _law_refusal(lambda: ..) -/
theorem j_ref {p lpos pos : Pos} (O : OkR X.prog X.w X.K X.mg X.base xs kk) (hg : Gl X "_law_refusal") (TB : LamX.TabB X.base X.mg c P) (hcode : X.env.code = .ref c) (hTab : PySem.W.tabIn X.K lamFn = some (c, P)) (hq : X.env.qual ++ "<lambda>" = lamQ) (hr : Room (k + 2) X.A) (hk : kk ≤ k) (L : LamX.LamS X.env.scope scope) (hdef : defaultsOf params X.env = ([], []))
    (hbind : ∀ (q : Str) (cl : List (Str × Addr)) (pm cv ctv : Value), bindArgs (PySem.W.kla_fn "<lambda>" q params body scope cl pm cv ctv) ⟨[], []⟩ = pure [])
    (hbody : ∀ (A : Around) (outer : List Env) (s : Shared) (H : Hp) (E : XK) (f c' : Addr), Room k (A.deeper (LamX.lamEnv X scope s.heap.objs.size f c')) → PE (lamN X A outer s H E scope f c') body (tE (ct X) (Wc E) fb)) :
    PE X (.Call (.Name "_law_refusal" p) [.Lambda params body scope lpos] [] pos) (tE (ct X) W (eRef xs fb)) := by
  obtain ⟨g0, hm, kp, run⟩ := O.ex
  refine ⟨fun pins s σ H Q I ⟨g, ρ, h0, rh, rs, pp⟩ => ?_⟩
  refine wpAny_Call_Name_kw (ld_glob I hg hm ?_ (by decide))
  refine PySem.W.callWith_K (h₀ := X.base) I.ok.mod.kin kp ?_ (by rfl) (by rfl)
  show wpAny _ _ (spliced ((false, eval (.Lambda params body scope lpos) X.env) :: backTo pos (starEach [] X.env))) _ _ s
  apply Calls.spliced_cons
  refine LamX.lam_make2 I TB hcode (List.mem_singleton.mpr rfl) (fun q hq' _ => by rw [List.mem_singleton.mp hq']) (tabs1 rh hTab hq) hdef (L.has I.ok) fun f c' pm2 ctv H1 s1 I1 eN T1 hf hfn hfr hco => ?_
  apply Calls.spliced_nil
  refine ⟨I1.kIn, ?_⟩
  obtain ⟨st1, rh1⟩ := ext_ok rh eN (tabs2 T1 hTab hq)
  exact run X rfl rfl rfl rfl rfl W fb k params body scope hr hk L hbind hbody pins s1 σ H1 Q g ρ h0 f c' pm2 ctv I1 hf hfn hfr hco rh1 (rs.stp st1) (Pst.step st1 pp)
end
end J
namespace J
open PySem L2
open PyProof.Rows (envOfC)
section
variable {P : Program} {w : World} {K : PySem.W.Frag} {mg : Str → Option Value} {base : Heap}
theorem fn_okC {x qual : Str} {params : Arguments} {body : List Stmt} {scope : Scope} {f : Addr} {N ps : List Str} {k n : Nat} {B : SF} {oc dV kV doc pm cdv ctv : Value} {od an : Option Addr} {osl : Array (Option Value)} (lk : K.lookup f = some ⟨oc, od, .func (PySem.W.fnOf x qual params body scope dV kV doc pm an cdv ctv), osl⟩) (hcd : PySem.W.codeIn K cdv qual = true)
    (S : FnScope N ps scope) (hn : n = N.length) (hp : ps.length ≤ n)
    (hbody : ∀ (A : Around) (outer : List Env) (s : Shared) (H : Hp) (E : XK), Room k (A.deeper (envOfC qual scope s.heap.objs.size f cdv)) → PSs (cxOf (L2N.CX P w) P w K mg base N qual scope f cdv A outer s H E) body (tS ⟨K, mg⟩ (fun a d _ H' => E a d H') B)) :
    FnOk P w K mg base (L2N.CX P w) (k + 1) f (PySem.W.fnOf x qual params body scope dV kV doc pm an cdv ctv) ps (spF ⟨K, mg⟩ ps.length (fnF n B)) := by
  refine fn_of lk hcd S (fun vs H Q E h => ?_) (fun A outer s H vs Q E hr h => ?_)
  · obtain ⟨g, ws, hh, rh, rt, l, _⟩ := h
    rw [← rt.len]; exact l
  · refine ⟨_, hbody A outer s H E hr, ?_⟩
    obtain ⟨g, ws, hh, rh, rt, l, p⟩ := h
    have rs := rt.start n
    refine ⟨g, ws.map some ++ List.replicate (n - ws.length) none, hh, rh, ?_, ?_⟩
    · rw [hn] at rs ⊢; exact rs
    · unfold fnF at p
      generalize B (ws.map some ++ List.replicate (n - ws.length) none) hh = r at p ⊢
      cases r with
      | no => exact p
      | brk => exact p.elim
      | cnt => exact p.elim
      | nx ρ h' =>
        intro g' H' σ' st rh' rs'
        obtain ⟨g2, s2, rh2, rv2⟩ := trim_ok rh st rh' (rt_non (c := ⟨K, mg⟩))
        exact p g2 H' .non s2 rh2 rv2
      | ret v h' =>
        intro g' H' u st rh' rv
        obtain ⟨g2, s2, rh2, rv2⟩ := trim_ok rh st rh' rv
        exact p g2 H' u s2 rh2 rv2
      | exc x ns vs ρ h' => exact fun g' H' σ' C d us st rh' rs' m e l rv => p g' H' C d us st rh' m e l rv
/-- the def that makes lambdas: its code object is known -/
theorem fn_okL {params : Arguments} {body : List Stmt} {scope : Scope} {dvs : List V} {kws : List (Str × V)} {f c T : Addr} {fd : FuncData} {N ps : List Str} {k n m : Nat} {B : SF} (F : FunD K lamFn lamFn params body scope dvs kws f fd) (hns : PySem.W.nsIn K mainGlobals lamFn = some (some (.ref f))) (hT : PySem.W.tabIn K lamFn = some (c, T))
    (S : FnScope N ps scope) (hn : n = N.length) (hp : ps.length ≤ n) (hm : m = ps.length)
    (hbody : ∀ (A : Around) (outer : List Env) (s : Shared) (H : Hp) (E : XK), Room k (A.deeper (envOfC lamFn scope s.heap.objs.size f (.ref c))) →
      PSs (cxOf (L2N.CX P w) P w K mg base N lamFn scope f (.ref c) A outer s H E) body (tS ⟨K, mg⟩ (fun a d _ H' => E a d H') B)) :
    FnOk P w K mg base (L2N.CX P w) (k + 1) f fd ps (spF ⟨K, mg⟩ m (fnF n B)) := by
  subst hm
  have ec : ∀ cdv A outer s H E, Room k (A.deeper (envOfC lamFn scope s.heap.objs.size f cdv)) → cdv = .ref c → PSs (cxOf (L2N.CX P w) P w K mg base N lamFn scope f cdv A outer s H E) body (tS ⟨K, mg⟩ (fun a d _ H' => E a d H') B) := by
    intro cdv A outer s H E hr e
    subst e
    exact hbody A outer s H E hr
  obtain ⟨oc, od, dV, kV, doc, pm, an, cdv, ctv, osl, efd, lk, hcd, h1, h2⟩ := F.ex
  have e : cdv = .ref c := by
    subst efd
    unfold PySem.W.tabIn at hT
    rw [hns] at hT
    simp only [lk] at hT
    split at hT
    · split at hT
      · split at hT
        · cases hT
          first | rfl | assumption
        · cases hT
      · cases hT
    · cases hT
  subst efd
  exact fn_okC lk hcd S hn hp fun A outer s H E hr => ec cdv A outer s H E hr e
end
/-- what is read of a refusal's class, checked at once -/
def refB (K : PySem.W.Frag) (WE : Addr) (x : Str) (i : Nat) (C : Addr) : Bool :=
  decide (i < 20) && (decide (kindNames.getD i "" = x) && (decide (PySem.W.findIn K (.ref C) "__getattribute__" = some (some (.builtin "BaseException.__getattribute__"))) && (decide (PySem.W.findIn K (.ref C) "__getattr__" = some none) && (decide (PySem.W.subIn K (.ref C) (.type "BaseException") = some true) && (PySem.W.hasDictIn K C && (decide (PySem.W.findIn K (.ref C) "__class__" = some (some (.builtin "object.__class__"))) &&
  (decide (PySem.W.specialIn K (.builtin "object.__class__") "__get__" = some (some (.builtin "getset_descriptor.__get__"))) && (decide (PySem.W.takesIn K (.builtin "object.__class__") = some true) && (decide (PySem.W.mroIn K C (.type "object") = some true) && (decide (PySem.W.findIn K (.ref C) "word" = some none) && (decide (PySem.W.findIn K (.ref C) "at" = some none) &&
  (decide (PySem.W.exmOne K (.ref C) (.ref WE) = some true) && (decide (PySem.W.kitOne K (.ref C) (.type "ValueError") = some true) && (List.range 20).all fun j => match PySem.W.nsIn K mainGlobals (kindNames.getD j "") with
    | some (some (.ref D)) => decide (PySem.W.kitOne K (.ref C) (.ref D) = some (i == j))
    | _ => false)))))))))))))
theorem refB_ok {K : PySem.W.Frag} {mg : Str → Option Value} {h : Heap} {WE C : Addr} {x : Str} {i : Nat} (X : K.In h) (G : h.Ns mainGlobals mg) (m : mg x = some (.ref C)) (b : refB K WE x i C = true) : RefC K mg WE x i C := by
  unfold refB at b
  obtain ⟨b1, b⟩ := Bool.and_eq_true_iff.mp b
  obtain ⟨b2, b⟩ := Bool.and_eq_true_iff.mp b
  obtain ⟨b3, b⟩ := Bool.and_eq_true_iff.mp b
  obtain ⟨b4, b⟩ := Bool.and_eq_true_iff.mp b
  obtain ⟨b5, b⟩ := Bool.and_eq_true_iff.mp b
  obtain ⟨b6, b⟩ := Bool.and_eq_true_iff.mp b
  obtain ⟨b7, b⟩ := Bool.and_eq_true_iff.mp b
  obtain ⟨b8, b⟩ := Bool.and_eq_true_iff.mp b
  obtain ⟨b9, b⟩ := Bool.and_eq_true_iff.mp b
  obtain ⟨b10, b⟩ := Bool.and_eq_true_iff.mp b
  obtain ⟨b11, b⟩ := Bool.and_eq_true_iff.mp b
  obtain ⟨b12, b⟩ := Bool.and_eq_true_iff.mp b
  obtain ⟨b13, b⟩ := Bool.and_eq_true_iff.mp b
  obtain ⟨b14, b⟩ := Bool.and_eq_true_iff.mp b
  refine ⟨m, of_decide_eq_true b1, of_decide_eq_true b2, ⟨of_decide_eq_true b3, of_decide_eq_true b4, of_decide_eq_true b5, b6, of_decide_eq_true b7, of_decide_eq_true b8, of_decide_eq_true b9, of_decide_eq_true b10⟩, ⟨of_decide_eq_true b3, of_decide_eq_true b4, of_decide_eq_true b5, b6⟩, of_decide_eq_true b11, of_decide_eq_true b12, of_decide_eq_true b13, of_decide_eq_true b14, fun j hj => ?_⟩
  have q := List.all_eq_true.mp b j (List.mem_range.mpr hj)
  split at q
  · rename_i D e
    exact ⟨D, PySem.W.mg_of X G e, of_decide_eq_true q⟩
  · cases q
theorem okX_mk {P : Program} {w : World} {K : PySem.W.Frag} {mg : Str → Option Value} {base : Heap} {k : Nat} {x q : Str} {st : Stmt} {C f : Addr} {fd : FuncData} (D : Dm K "__init__" q st [.int (-1)] [] f fd) (hF : FnOk P w K mg base (L2N.CX P w) k f fd ["self", "at"] (spOX K x)) (m : mg x = some (.ref C)) (xc : XcK K C)
    (iC : PySem.W.findIn K (.ref C) "__init__" = some (some (.ref f))) (tI : PySem.W.typeIn K (.ref f) = some (.type "function"))
    (h1 : ∀ (T : Addr) (kV doc pm : Value) (an : Option Addr) (cdv ct : Value) (us its : List Value), us.length = 1 → its.length = 1 →
      ∃ k, bindArgs (PySem.W.fnOf "__init__" q (defArgs st) (defBody st) (defScope st) (.ref T) kV doc pm an cdv ct) ⟨us, []⟩ = seqItems? (.ref T) >>= k ∧ k (some its.toArray) = pure ((["self", "at"] : List Str).zip (us ++ its.drop 0)))
    (h2 : ∀ (T : Addr) (kV doc pm : Value) (an : Option Addr) (cdv ct : Value) (us its : List Value), us.length = 2 → its.length = 1 →
      ∃ k, bindArgs (PySem.W.fnOf "__init__" q (defArgs st) (defBody st) (defScope st) (.ref T) kV doc pm an cdv ct) ⟨us, []⟩ = seqItems? (.ref T) >>= k ∧ k (some its.toArray) = pure ((["self", "at"] : List Str).zip (us ++ its.drop 1))) : OkX P w K mg base k x := by
  obtain ⟨ds, v1, b1⟩ := D.F.binds1 (ps := ["self", "at"]) 1 0 (by simp) rfl h1
  obtain ⟨ds2, v2, b2⟩ := D.F.binds1 (ps := ["self", "at"]) 2 1 (by simp) rfl h2
  cases v2
  exact ⟨C, f, fd, ds, m, xc, iC, tI, hF, b2, b1, v1⟩
end J
namespace J
open PySem L2
open PyProof.Rows (envOfC)
/-! x = [a]; x.append(b): a list of two, as data -/
def sSetApp (i : Nat) (fa fb : EF) : SF := fun ρ h => (fa ρ h).st ρ fun v h1 => (fb (ρ.set i none) h1).st (ρ.set i none) fun w h2 => if (v.isObj || w.isObj) = true then .no else .nx (ρ.set i (some (.lst [v, w]))) h2
end J
namespace J
open PySem L2
variable {ρ : VSt} {h h' : VH}
theorem s_setApp {i fa fb} : sSetApp i fa fb ρ h = sbd (fa ρ h) ρ (fun v h1 => sbd (fb (ρ.set i none) h1) (ρ.set i none) (fun w h2 => if (v.isObj || w.isObj) = true then .no else .nx (ρ.set i (some (.lst [v, w]))) h2) (tg _)) (tg _) := nr rfl
theorem s_raise0 {x} : sRaise0 x ρ h = .exc x ["at", "word"] [.int (-1), .str x] ρ h := nr rfl
theorem ref_exc {xs : List Str} {fb : EF} {x : Str} {n : Int} (e : fb ρ h = .exc x ["at", "word"] [.int n, .str x] h') (hx : x ∈ xs) : eRef xs fb ρ h = .ok (.tup [.str x, .int n]) (trim h.length .non h') := by
  unfold eRef
  rw [e]
  simp only
  simp [hx]
theorem ref_ok {xs : List Str} {fb : EF} {v : VV} (e : fb ρ h = .ok v h') : eRef xs fb ρ h = .ok (.tup [.str "let", .int (-1)]) (trim h.length .non h') := by
  unfold eRef
  rw [e]
end J
namespace J
open PySem L2
open PyProof.Rows (envOfC)
/-! == and != of instances, by the class's own __eq__ -/
section
variable {X : Cx} {W : WX} {k : Nat} {cn : Str} {Fm : FF}
def ownR (ne : Bool) (cn : Str) (F : FF) (v w : VV) (h2 : VH) : Res VV := match insOf h2 v, insOf h2 w with
  | some a, some b => if a.1 = cn ∧ b.1 = cn then (noX (F [v, w] h2)).bind fun r h3 => (match r with
    | .bl r => .ok (.bl (if ne = true then !r else r)) h3
    | _ => .no) else .no
  | _, _ => .no
def eOwn (ne : Bool) (cn : Str) (F : FF) (fa fb : EF) : EF := fun ρ h => (fa ρ h).bind fun v h1 => (fb ρ h1).bind fun w h2 => ownR ne cn F v w h2
end
end J
namespace J
open PySem PySem.Spec L2 PyProof.Rows
section
variable {P : Program} {w : World} {A : Around} {E : Value → Shared → Prop} {s : Shared} {a : Addr} {o : Obj} {es : Array (Int × Value)} {ep : Nat} {t : SetTable}
/-! set(xs) - set(ys) == set(): ints -/
theorem SetR.typeIs {S : Int → Bool} {n : Nat} (R : SetR w s.heap a S n) : s.TypeIs (.ref a) "set" := by
  obtain ⟨o, es, ep, t, ho, hex, r⟩ := R
  exact ⟨o, ho, hex.1⟩
end
end J
namespace J
open PySem PySem.Spec L2 PyProof.Rows
end J
namespace J
open PySem L2
/-! len(x) by the class's own __len__; isinstance(x, own class) -/
def lenR (cn : Str) (F : FF) (v : VV) (h1 : VH) : Res VV := match insOf h1 v with
  | some a => if a.1 = cn then (noX (F [v] h1)).bind fun r h2 => (match r with
    | .int n => if 0 ≤ n ∧ n < 1000000 then .ok (.int n) h2 else .no
    | _ => .no) else .no
  | none => .no
def eLenOwn (cn : Str) (F : FF) (fa : EF) : EF := fun ρ h => (fa ρ h).bind fun v h1 => lenR cn F v h1
/-- is a thing of this kind one of C? -/
def isiK (h : VH) (cn : Str) (cs : List Str) (v : VV) : Option Bool := match insOf h v with
  | some a => if a.1 = cn then some true else if a.1 ∈ cs then some false else none
  | none => match v with
    | .non => some false
    | .int _ => some false
    | .str _ => some false
    | .tup _ => some false
    | .lst _ => some false
    | .dK _ _ => some false
    | _ => none
def eIsiC (cn : Str) (cs : List Str) (fa : EF) : EF := fun ρ h => (fa ρ h).bind fun v h1 => lift ((isiK h1 cn cs v).map .bl) h1
end J
namespace J
open PySem L2
/-! == and != of dicts with ints as values -/
section
variable {X : Cx} {W : WX}
/-! for k, v in d.items() -/
def iItemsK (f : EF) : AF := fun ρ h => (f ρ h).bind fun v h1 => match v with
  | .dK ks vs => .ok ((ks.zip vs).map fun p => .tup [keyB p.1, p.2]) h1
  | _ => .no
end
end J
namespace J
open PySem L2
/-- what isinstance asks of a class, checked at once -/
def isB (K : PySem.W.Frag) (C : Addr) : Bool :=
  decide (PySem.W.findIn K (.ref C) "__class__" = some (some (.builtin "object.__class__"))) && (decide (PySem.W.specialIn K (.builtin "object.__class__") "__get__" = some (some (.builtin "getset_descriptor.__get__"))) && (decide (PySem.W.takesIn K (.builtin "object.__class__") = some true) && (decide (PySem.W.mroIn K C (.type "object") = some true) &&
  (decide (PySem.W.kitOne K (.ref C) (.ref C) = some true) && (["NoneType", "int", "str", "tuple", "list", "dict"] : List String).all fun n => decide (PySem.W.kitOne K (.type n) (.ref C) = some false)))))
/-! list(range(n)), as data -/
def eListRng (f : EF) : EF := fun ρ h => (f ρ h).bind fun v h1 => match v with
  | .int n => if 0 ≤ n ∧ n ≤ SZ then .ok (.lst (rngV 0 n.toNat)) h1 else .no
  | _ => .no
end J
namespace J
open PySem L2
variable {ρ : VSt} {h h' : VH}
theorem a_own {ne c F fa fb} : eOwn ne c F fa fb ρ h = bnd (fa ρ h) (fun v h1 => bnd (fb ρ h1) (fun w h2 => ownR ne c F v w h2) (tg _)) (tg _) := nr rfl
theorem a_lenOwn {c F fa} : eLenOwn c F fa ρ h = bnd (fa ρ h) (fun v h1 => lenR c F v h1) (tg _) := nr rfl
theorem a_isiC {c cs fa} : eIsiC c cs fa ρ h = bnd (fa ρ h) (fun v h1 => lift ((isiK h1 c cs v).map .bl) h1) (tg _) := nr rfl
theorem a_items {fa} : iItemsK fa ρ h = bnd (fa ρ h) (fun v h1 => match v with
  | .dK ks vs => .ok ((ks.zip vs).map fun p => VV.tup [keyB p.1, p.2]) h1
  | _ => .no) (tg _) := nr rfl
theorem a_methX {cn m n F dws fo fa} : eMethX cn m n F dws fo fa ρ h = bnd (fo ρ h) (fun v h1 => methC cn m (insOf h1 v) (bnd (fa ρ h1) (fun vs h2 => if (v :: (vs ++ dws)).length = n then F (v :: (vs ++ dws)) h2 else .no) (tg _))) (tg _) := by
  unfold eMethX
  show Res.bind _ _ = Res.bind _ _
  congr 1
theorem a_makeX {cn n F dws fa} : eMakeX cn n F dws fa ρ h = bnd (fa ρ h) (fun vs h1 => if (VV.obj h1.length :: (vs ++ dws)).length = n then mkX h1.length (F (.obj h1.length :: (vs ++ dws)) (h1 ++ [.ins cn [] []])) else .no) (tg _) := nr rfl
theorem fin_exc {x ns vs} {n : Nat} : (SR.exc x ns vs ρ h).fin n = .exc x ns vs h := nr rfl
def lrD (v : VV) (h1 : VH) : Res VV := match v with
  | .int n => if 0 ≤ n ∧ n ≤ SZ then .ok (.lst (rngV 0 n.toNat)) h1 else .no
  | _ => .no
theorem a_listRng {f} : eListRng f ρ h = bnd (f ρ h) lrD (tg _) := nr rfl
theorem lrD_int {n : Int} : lrD (.int n) h = if 0 ≤ n ∧ n ≤ SZ then .ok (.lst (rngV 0 n.toNat)) h else .no := nr rfl
end J
namespace J
open PySem L2
/-! the head: one run in the kernel, what is leant on told by names -/
def obsL (as : List Addr) (fa : List He.Fa) (fn : List He.DefD) (ex : PySem.W.Frag → Bool) (g : Addr → Option Obj) : He.AlD × Bool := (He.obsD fa fn (He.frT g as), ex (He.frT g as))
/-- what is told of the written part -/
def SaysL (fa : List He.Fa) (fn : List He.DefD) (ex : PySem.W.Frag → Bool) (h : Heap) (K : PySem.W.Frag) : Prop := K.In h ∧ He.SaysD fa fn K ∧ ex K = true
def hookL (as : List Addr) (fa : List He.Fa) (fn : List He.DefD) (ex : PySem.W.Frag → Bool) : PySem.W.Hook where
  α := He.AlD × Bool
  obs s := obsL as fa fn ex s.heap.get?
  val _ := (He.valD fn, true)
  says _ h := ∃ K : PySem.W.Frag, SaysL fa fn ex h K
  of _ _ e := ⟨_, He.frT_in, congrArg (fun z : He.AlD × Bool => z.1) e, congrArg (fun z : He.AlD × Bool => z.2) e⟩
  keeps _ _ _ := fun ⟨K, a, b⟩ k => ⟨K, PySem.W.Frag.In.keeps a k, b⟩
theorem obsL_eq {as : List Addr} {fa : List He.Fa} {fn : List He.DefD} {ex : PySem.W.Frag → Bool} (s : PySem.W.SharedT) : obsL as fa fn ex (HandSHeadRun.getT s) = (hookL as fa fn ex).obs s.abs := by
  show obsL as fa fn ex (HandSHeadRun.getT s) = obsL as fa fn ex s.abs.heap.get?
  rw [show HandSHeadRun.getT s = s.abs.heap.get? from funext (HandSHeadRun.getT_eq s)]
section
variable {fa : List He.Fa} {fn : List He.DefD} {ex : PySem.W.Frag → Bool} {h : Heap} {K : PySem.W.Frag} {mg : Str → Option Value}
theorem SaysL.f (c : SaysL fa fn ex h K) {f : He.Fa} (i : Nat) (e : fa[i]? = some f) : f.ok K = true := c.2.1.fact i e
theorem SaysL.d (c : SaysL fa fn ex h K) {d : He.DefD} (i : Nat) (e : fn[i]? = some d) : ∃ fd, FunD K d.name d.qual d.params d.body d.scope (d.dvs K) (d.kws K) (He.fAd K d.at_) fd := c.2.1.def_ i e
/-- a global's def -/
theorem SaysL.dm (c : SaysL fa fn ex h K) {x : Str} {st : Stmt} {df : List He.Dv} {kw : List (Str × He.Dv)} (i : Nat) (e : fn[i]? = some ⟨(x, none), x, x, defArgs st, defBody st, defScope st, df, kw⟩) : ∃ fd, Dm K x x st (df.map (He.Dv.v K)) (kw.map fun q => (q.1, q.2.v K)) (He.ga K x) fd := by
  obtain ⟨fd, F⟩ := c.d i e
  exact ⟨fd, ⟨F⟩⟩
/-- a method -/
theorem SaysL.mm (c : SaysL fa fn ex h K) {x m q : Str} {st : Stmt} {df : List He.Dv} {kw : List (Str × He.Dv)} (i : Nat) (e : fn[i]? = some ⟨(x, some m), m, q, defArgs st, defBody st, defScope st, df, kw⟩) : ∃ fd, Dm K m q st (df.map (He.Dv.v K)) (kw.map fun q => (q.1, q.2.v K)) (He.ma K (He.ga K x) m) fd := by
  obtain ⟨fd, F⟩ := c.d i e
  exact ⟨fd, ⟨F⟩⟩
theorem SaysL.glo (c : SaysL fa fn ex h K) (G : h.Ns mainGlobals mg) {x : Str} (i : Nat) (e : fa[i]? = some (.glo x)) : mg x = some (.ref (He.ga K x)) := He.glo_ok c.1 G (c.f i e)
theorem SaysL.free (c : SaysL fa fn ex h K) (G : h.Ns mainGlobals mg) {x : Str} (i : Nat) (e : fa[i]? = some (.free x)) : mg x = none := He.free_ok c.1 G (c.f i e)
theorem SaysL.int (c : SaysL fa fn ex h K) (G : h.Ns mainGlobals mg) {x : Str} {z : Int} (i : Nat) (e : fa[i]? = some (.int x z)) : ∃ t, mg x = some (.int z t) := He.int_ok c.1 G (c.f i e)
theorem SaysL.str (c : SaysL fa fn ex h K) (G : h.Ns mainGlobals mg) {x z : Str} (i : Nat) (e : fa[i]? = some (.str x z)) : ∃ t, mg x = some (.str z t) := He.str_ok c.1 G (c.f i e)
theorem SaysL.cls (c : SaysL fa fn ex h K) (G : h.Ns mainGlobals mg) {x : Str} (i j : Nat) (e : fa[i]? = some (.glo x)) (e2 : fa[j]? = some (.cls x)) : ClsT K mg x (He.ga K x) := ⟨c.glo G i e, He.cls_ok (c.f j e2)⟩
end
/-- what is read of an own exception's class, checked at once -/
def xcB (K : PySem.W.Frag) (C : Addr) : Bool :=
  (match K.lookup C with
  | some ⟨.type t, _, .cls cd, sl⟩ => (match cd.mro, sl.toList with
    | .ref D :: bm, [_, _, _, _, some (.builtin n), _] => decide (t = "type") && (decide (D = C) && (decide (n = "ValueError.__new__") && (cd.hasDict && (!cd.hasDel && PySem.HandSPX.refsVE bm))))
    | _, _ => false)
  | _ => false) && (decide (PySem.W.findIn K (.ref C) "__setattr__" = some (some (.builtin "object.__setattr__"))) && (decide (PySem.W.subIn K (.ref C) (.type "BaseException") = some true) && (decide (PySem.W.typeIn K (.ref C) = some (.type "type")) &&
    (PySem.W.keepIn K (.ref C) && (decide (PySem.W.findIn K (.ref C) "word" = some none) && decide (PySem.W.findIn K (.ref C) "at" = some none))))))
theorem xcB_ok {K : PySem.W.Frag} {C : Addr} (b : xcB K C = true) : XcK K C := by
  obtain ⟨b0, b⟩ := Bool.and_eq_true_iff.mp b
  obtain ⟨b1, b⟩ := Bool.and_eq_true_iff.mp b
  obtain ⟨b2, b⟩ := Bool.and_eq_true_iff.mp b
  obtain ⟨b3, b⟩ := Bool.and_eq_true_iff.mp b
  obtain ⟨b4, b⟩ := Bool.and_eq_true_iff.mp b
  obtain ⟨b5, b6⟩ := Bool.and_eq_true_iff.mp b
  refine ⟨⟨?_, of_decide_eq_true b1, of_decide_eq_true b2, of_decide_eq_true b3, b4⟩, of_decide_eq_true b5, of_decide_eq_true b6⟩
  split at b0
  · rename_i t dd cd sl ho
    split at b0
    · rename_i D bm k0 k1 k2 k3 n k5 hm hs
      obtain ⟨c1, c⟩ := Bool.and_eq_true_iff.mp b0
      obtain ⟨c2, c⟩ := Bool.and_eq_true_iff.mp c
      obtain ⟨c3, c⟩ := Bool.and_eq_true_iff.mp c
      obtain ⟨c4, c⟩ := Bool.and_eq_true_iff.mp c
      obtain ⟨c5, c6⟩ := Bool.and_eq_true_iff.mp c
      have c1 := of_decide_eq_true c1
      have c2 := of_decide_eq_true c2
      have c3 := of_decide_eq_true c3
      subst c1 c2 c3
      obtain ⟨nm, bs, mro, ns, qn, hd, sn, sub, ab, col, del⟩ := cd
      have hm : mro = _ := hm
      have c4 : hd = true := c4
      have d5 : del = false := by simpa using c5
      obtain ⟨sl⟩ := sl
      have hs : sl = _ := hs
      subst hm c4 d5 hs
      exact ⟨nm, qn, ns, bs, bm, sn, sub, ab, col, dd, k0, k1, k2, k3, k5, ho, c6⟩
    · cases b0
  · cases b0
/-- a refusal's class and its __init__ -/
def xrB (K : PySem.W.Frag) (WE : Addr) (x : Str) (i : Nat) : Bool :=
  xcB K (He.ga K x) && (refB K WE x i (He.ga K x) && (decide (PySem.W.findIn K (.ref (He.ga K x)) "__init__" = some (some (.ref (He.ma K (He.ga K x) "__init__")))) && decide (PySem.W.typeIn K (.ref (He.ma K (He.ga K x) "__init__")) = some (.type "function"))))
theorem xrB_ok {K : PySem.W.Frag} {WE : Addr} {x : Str} {i : Nat} (b : xrB K WE x i = true) : XcK K (He.ga K x) ∧ refB K WE x i (He.ga K x) = true ∧ PySem.W.findIn K (.ref (He.ga K x)) "__init__" = some (some (.ref (He.ma K (He.ga K x) "__init__"))) ∧ PySem.W.typeIn K (.ref (He.ma K (He.ga K x) "__init__")) = some (.type "function") := by
  obtain ⟨b0, b⟩ := Bool.and_eq_true_iff.mp b
  obtain ⟨b1, b⟩ := Bool.and_eq_true_iff.mp b
  obtain ⟨b2, b3⟩ := Bool.and_eq_true_iff.mp b
  exact ⟨xcB_ok b0, b1, of_decide_eq_true b2, of_decide_eq_true b3⟩
/-- the base of the refusals -/
def weB (K : PySem.W.Frag) : Bool := PySem.W.readsIn K (He.ga K "WebError") (.type "type") && (decide (PySem.W.specialIn K (.ref (He.ga K "WebError")) "__getattribute__" = some (some (.builtin "type.__getattribute__"))) &&
  (match PySem.W.findCls K (.ref (He.ga K "WebError")) (.type "type") "__init__" with
  | some (.val (.ref f)) => decide (f = He.ma K (He.ga K "WebError") "__init__")
  | _ => false))
theorem weB_ok {K : PySem.W.Frag} (b : weB K = true) : PySem.W.readsIn K (He.ga K "WebError") (.type "type") = true ∧ PySem.W.specialIn K (.ref (He.ga K "WebError")) "__getattribute__" = some (some (.builtin "type.__getattribute__")) ∧ PySem.W.findCls K (.ref (He.ga K "WebError")) (.type "type") "__init__" = some (.val (.ref (He.ma K (He.ga K "WebError") "__init__"))) := by
  obtain ⟨b0, b⟩ := Bool.and_eq_true_iff.mp b
  obtain ⟨b1, b2⟩ := Bool.and_eq_true_iff.mp b
  refine ⟨b0, of_decide_eq_true b1, ?_⟩
  split at b2
  · rename_i f e
    rw [e, of_decide_eq_true b2]
  · cases b2
/-- the law's code object and its empty table -/
def tabB (K : PySem.W.Frag) : Bool := match PySem.W.tabIn K lamFn with
  | some (_, T) => (K.lookup T).isNone
  | none => false
theorem tabB_ok {K : PySem.W.Frag} (b : tabB K = true) : ∃ c T, PySem.W.tabIn K lamFn = some (c, T) ∧ K.lookup T = none := by
  unfold tabB at b
  split at b
  · rename_i c T e
    exact ⟨c, T, e, by simpa using b⟩
  · cases b
theorem walk_L {l : PySem.W.OpenLaw} {n k : Nat} {q : Program} {loose : List Str} {XP : (Str → Option Value) → Heap → Prop} {d : DefRec} {x : Str} {Fm : FF} {fs : List He.Fa} {fn : List He.DefD} {ex : PySem.W.Frag → Bool}
    (hn : l.most = some n) (hn2 : n ≤ sizeLine) (hdf : d.params.defaults = []) (hr : Room k PySem.callerA) (hrec : ((PyProof.Rows.recsOf q).find? fun e => e.name == lamFn).isSome = true) (hd : d.name = "law")
    (F : ∀ (w : World) (mg : Str → Option Value) (fa : Addr) (h : Heap) (K : PySem.W.Frag), SaysL fs fn ex h K → h.Ns mainGlobals mg → mg "law" = some (.ref fa) →
      ∃ (fd : FuncData) (cc P : Addr), PySem.W.tabIn K lamFn = some (cc, P) ∧ K.lookup P = none ∧ (∀ (s : Shared) (u : Value), BindsTo s fd ⟨[u], []⟩ [(x, u)]) ∧
        ∀ base : Heap, K.In base → base.Ns mainGlobals mg → LamX.TabB base mg cc P → FnOk l.prog w K mg base (L2N.CX l.prog w) k fa fd [x] (spF ⟨K, mg⟩ 1 Fm))
    (hF : ∀ ns : List Int, ns.length ≤ n → (∀ z ∈ ns, Builtin.Int.intBits z ≤ 1048576) → ∃ h', Fm [.scr (ns.map VV.int)] [] = .ok (.bl true) h') {as : List Addr} :
    PySem.W.WalkO q loose XP (hookL as fs fn ex).says l.row.toRowW d [] (fun f vs => PySem.call f vs) := by
  refine Att.attach_callB hn hdf fun w s₀ s₁ mg mb fa o pm cd doc a vs ns G Y ho hd1 hcd hmg hobj hints hlen hbits hg => ?_
  rw [hd] at hmg
  obtain ⟨K, Y⟩ : ∃ K, SaysL fs fn ex _ K := Y
  obtain ⟨fd, cc, P, hT, nT, hb, hF'⟩ := F w mg fa _ K Y G.T.g hmg
  obtain ⟨dL, hL⟩ := Option.isSome_iff_exists.mp hrec
  obtain ⟨C, hP⟩ := PySem.W.tab_of G.T Y.1 hL hT
  have one : ∀ p ∈ [(cc, P)], p = (cc, P) := fun p hp => by simpa using hp
  exact LamX.law_callTs (cs := [(cc, P)]) Y.1 G.T.g G.T.b G.T.builtins G.T.nolimit hg (fun p hp => (one p hp) ▸ hP) (fun p hp => (one p hp) ▸ nT) (fun p hp => (one p hp) ▸ C) G.T.bmain hobj hints (Nat.le_trans hlen hn2) hr
    (fun base KB GB TB => hF' base KB GB (TB (cc, P) (List.mem_singleton_self _))) hb (fun H hH hS => law_sp (fun c2 P2 e2 => by
      have e3 := hT.symm.trans e2
      cases e3
      exact LamX.TabS.nil (hH (cc, P) (List.mem_singleton_self _))) hS (hF ns hlen hbits)) fun H e s' => cx_no
end J
namespace J
open PySem L2
/-! {k: v, l: w} with tuples as keys -/
end J
namespace J
open PySem L2
end J
namespace J
open PySem L2
/-! dict(d), a new root -/
def dcp (v : VV) (h1 : VH) : Res VV := match v with
  | .dK ks vs => .ok (.obj h1.length) (h1 ++ [.dK ks vs])
  | _ => .no
def eDictD (f : EF) : EF := fun ρ h => (f ρ h).bind dcp
/-! sorted(set(t)), t a tuple of ints -/
variable {ρ : VSt} {h h' : VH}
theorem a_dictD {f} : eDictD f ρ h = bnd (f ρ h) dcp (tg _) := nr rfl
theorem dcp_dK {ks vs} : dcp (.dK ks vs) h = .ok (.obj h.length) (h ++ [.dK ks vs]) := nr rfl
end J
namespace J
open PySem L2
open PyProof.Rows (envOfC)
/-! {k: v for t in xs}, xs data or a root that nothing in it changes -/
def seqP (v : VV) (h : VH) : Option (List VV) := match v with
  | .lst xs => some xs
  | .obj n => match h[n]? with
    | some (.fl xs) => some xs
    | _ => none
  | _ => none
def eDcP (own : List Nat) (fo : EF) (b : VV → VSt → Option VSt) (fk fv : EF) : EF := fun ρ h => (fo ρ h).bind fun v h1 => match seqP v h1 with
  | none => .no
  | some xs => if xs.length > SZ then .no else match dcGo b fk fv (wp ρ own) xs h1 ([], []) with
    | .ok a h2 => .ok (.dK a.1 a.2) h2
    | _ => .no
section
variable {X : Cx} {W : WX}
/-! xs[::-1] -/
def eRev (f : EF) : EF := fun ρ h => (f ρ h).bind fun v h1 => match lstOf h1 v with
  | some xs => .ok (.lst xs.reverse) h1
  | none => .no
/-! x.clear() of a root -/
def eClr (o : EF) : EF := fun ρ h => (o ρ h).bind fun ov h1 => match ov with
  | .obj n => (match h1[n]? with
    | some (.fl _) => .ok .non (h1.set n (.fl []))
    | _ => .no)
  | _ => .no
/-! root != data -/
def opNeL : Op2 := fun h v w => (lstOf h v).bind fun xs => (eqD (.lst xs) w).map fun b => .bl (!b)
theorem or_neL {k : Nat} (hr : Room k X.A) : OpR X (compareOp .NotEq) (Rd2 (ct X) opNeL) :=
  OpR.imp (op_neD hr.units) fun x y H Q ⟨g, h, v, w, r, rh, rv, rw', e, kk⟩ => by
    obtain ⟨xs, e0, eB⟩ := Option.bind_eq_some_iff.mp e
    obtain ⟨b, e1, e2⟩ := Option.map_eq_some_iff.mp eB
    cases e2
    obtain ⟨p, us, eu, sq, rvs⟩ := lstOf_get rh rv e0
    unfold eqD at e1
    split at e1
    · rename_i q; cases q
    · rename_i q; cases q
    · rename_i q; cases q
    split at e1
    · rename_i hd
      cases e1
      have d1 := hd.1
      rw [isD] at d1
      refine ⟨_, _, ?_, dp_of _ _ (rw'.rv (noObj hd.2.1)) hd.2.1, hd.2.2.1, hd.2.2.2, kk g H _ .refl rh rt_bl⟩
      rw [eu, toD]
      exact .lst sq (dps_of xs us rvs d1)
    · cases e1
/-! dict(xs), xs a list of pairs with unlike keys -/
/-! == of an instance and a dict, by the class's own __eq__ -/
variable {k : Nat} {cn : Str} {Fm : FF}
def ownD (cn : Str) (F : FF) (v w : VV) (h2 : VH) : Res VV := match insOf h2 v, w with
  | some a, .dK ks vs => if a.1 = cn then (noX (F [v, .dK ks vs] h2)).bind fun r h3 => (match r with
    | .bl r => .ok (.bl r) h3
    | _ => .no) else .no
  | _, _ => .no
def eOwnD (cn : Str) (F : FF) (fa fb : EF) : EF := fun ρ h => (fa ρ h).bind fun v h1 => (fb ρ h1).bind fun w h2 => ownD cn F v w h2
end
end J
namespace J
open PySem L2 M
/-! evaluation of what J56 added -/
section
variable {ρ : VSt} {h : VH}
def dcS (o : Option (List VV)) (k : List VV → Res VV) : Res VV := match o with
  | none => .no
  | some xs => k xs
theorem dcS_some {xs : List VV} {k : List VV → Res VV} : dcS (some xs) k = k xs := nr rfl
theorem a_dcP {own fo b fk fv} : eDcP own fo b fk fv ρ h = bnd (fo ρ h) (fun v h1 => dcS (seqP v h1) fun xs => if xs.length > SZ then .no else afterK (dcGo b fk fv (wp ρ own) xs h1 ([], []))) (tg _) := nr rfl
theorem seqP_lst {xs : List VV} : seqP (.lst xs) h = some xs := nr rfl
def revR (o : Option (List VV)) (h1 : VH) : Res VV := match o with
  | some xs => .ok (.lst xs.reverse) h1
  | none => .no
theorem a_rev {f} : eRev f ρ h = bnd (f ρ h) (fun v h1 => revR (lstOf h1 v) h1) (tg _) := nr rfl
theorem revR_lst {xs : List VV} {h2 : VH} : revR (lstOf h2 (.lst xs)) h = .ok (.lst xs.reverse) h := nr rfl
def clrO (o : Option VO) (n : Nat) (h1 : VH) : Res VV := match o with
  | some (.fl _) => .ok .non (h1.set n (.fl []))
  | _ => .no
def clrR (v : VV) (h1 : VH) : Res VV := match v with
  | .obj n => clrO h1[n]? n h1
  | _ => .no
theorem a_clr {f} : eClr f ρ h = bnd (f ρ h) clrR (tg _) := by
  unfold eClr
  cases f ρ h with
  | no => rfl
  | exc => rfl
  | ok ov h1 =>
    cases ov <;> rfl
theorem clrR_obj {n : Nat} : clrR (.obj n) h = clrO h[n]? n h := nr rfl
theorem clrO_fl {xs : List VV} {n : Nat} : clrO (some (.fl xs)) n h = .ok .non (h.set n (.fl [])) := nr rfl
theorem a_ownD {cn F fa fb} : eOwnD cn F fa fb ρ h = bnd (fa ρ h) (fun v h1 => bnd (fb ρ h1) (fun w h2 => ownD cn F v w h2) (tg _)) (tg _) := nr rfl
end
end J
namespace J
open PySem L2
open PyProof.Rows (envOfC)
/-! for v in d.values(), d's keys tuples -/
/-! the same over the small heap -/
section
variable {X : Cx} {W : WX}
def iValsD (f : EF) : AF := fun ρ h => (f ρ h).bind fun v h1 => match v with
  | .dT ks vs => .ok vs h1
  | _ => .no
end
end J
namespace J
open PySem L2
/-! the roots that one turn of a loop made are forgotten at its end -/
def lowS (n : Nat) (ρ : VSt) : VSt := ρ.map fun o => match o with
  | some v => if lowV n v = true then some v else none
  | none => none
def sTrim (B : SF) : SF := fun ρ h => match B ρ h with
  | .nx ρ' h' => .nx (lowS h.length ρ') (trim h.length .non h')
  | r => r
theorem lowS_at {n : Nat} {ρ : VSt} {i : Nat} {v : VV} (e : (lowS n ρ)[i]? = some (some v)) : ρ[i]? = some (some v) ∧ lowV n v = true := by
  unfold lowS at e
  rw [List.getElem?_map] at e
  obtain ⟨o, e1, e2⟩ := Option.map_eq_some_iff.mp e
  cases o with
  | none => cases e2
  | some w =>
    by_cases c : lowV n w = true
    · simp only [c, if_true] at e2
      cases e2
      exact ⟨e1, c⟩
    · simp only [c, if_false] at e2
      cases e2
theorem trim_at {c : Ct} {g g' : Gh} {h h' : VH} {H H' : Hp} (rh : RH c g h H) (st : Stp g H g' H') (rh' : RH c g' h' H') :
    ∃ g2, Stp g H g2 H' ∧ RH c g2 (trim h.length .non h') H' ∧ ∀ v u, lowV h.length v = true → RT c g' H' v u → RT c g2 H' v u := by
  by_cases e : h'.length = h.length ∨ ¬ (h'.take h.length).all (lowO h.length) = true
  · refine ⟨g', st, ?_, fun v u _ r => r⟩
    unfold trim
    rcases e with e | e
    · rw [if_pos e]; exact rh'
    · by_cases e2 : h'.length = h.length
      · rw [if_pos e2]; exact rh'
      · rw [if_neg e2, if_neg (fun z => e z.2)]; exact rh'
  · have e1 : ¬ h'.length = h.length := fun z => e (.inl z)
    have e2 : (h'.take h.length).all (lowO h.length) = true := by
      by_cases c : (h'.take h.length).all (lowO h.length) = true
      · exact c
      · exact absurd (.inr c) e
    have eio : g'.io.take h.length = g.io := by
      obtain ⟨l, hl⟩ := st.io
      rw [← hl, ← rh.len, List.take_left]
    have hle : h.length ≤ h'.length := by
      obtain ⟨l, hl⟩ := st.io
      have := congrArg List.length hl
      rw [List.length_append, rh.len, rh'.len] at this
      omega
    let g2 : Gh := { io := g.io, fz := g'.fz, kp := g'.kp }
    have low : ∀ v u, lowV h.length v = true → RT c g' H' v u → RT c g2 H' v u := fun v u l r => RT.low (g' := g2) (n := h.length) eio.symm rfl l r
    have lows : ∀ {vs us}, vs.all (lowV h.length) = true → RTs c g' H' vs us → RTs c g2 H' vs us := fun l r => RTs.low (g' := g2) (n := h.length) eio.symm rfl l r
    refine ⟨g2, ⟨List.prefix_rfl, st.fz, st.kp, st.fH, st.kH, st.tp⟩, ?_, low⟩
    unfold trim
    rw [if_neg e1, if_pos ⟨rfl, e2⟩]
    refine ⟨?_, rh.nd, ?_, rh'.fz, rh'.kp, ?_, rh'.tb, rh'.nt⟩
    · show g.io.length = _
      rw [List.length_take, rh.len]; omega
    · intro n o a h1 h2
      have hn : n < h.length := by
        have := (List.getElem?_eq_some_iff.mp h1).1
        rw [List.length_take] at this; omega
      have k1 : h'[n]? = some o := by rw [List.getElem?_take_of_lt hn] at h1; exact h1
      have k2 : g'.io[n]? = some a := by
        have z : g.io[n]? = some a := h2
        rw [← eio, List.getElem?_take_of_lt hn] at z
        exact z
      have ro := rh'.at' n o a k1 k2
      have lo : lowO h.length o = true := List.all_eq_true.mp e2 o (List.mem_of_getElem? h1)
      cases o with
      | lo xs =>
        obtain ⟨q1, us, q3, q4⟩ := ro
        exact ⟨q1, us, q3, lows lo q4⟩
      | ins x ns vs =>
        obtain ⟨q1, C, dx, us, q3, q4, q5, q6⟩ := ro
        exact ⟨q1, C, dx, us, q3, q4, q5, lows lo q6⟩
      | _ => exact ro
    · intro q z
      refine ⟨(rh'.kd q z).1, fun y => (rh'.kd q z).2 ?_⟩
      have y : q ∈ g.io := y
      rw [← eio] at y
      exact List.mem_of_mem_take y
theorem pss_trim {X : Cx} {W : WX} {body : List Stmt} {B : SF} (hb : PSs X body (tS (ct X) W B)) : PSs X body (tS (ct X) W (sTrim B)) :=
  PSs.mono hb fun D σ H ⟨g, ρ, h, rh, rs, p⟩ => by
    refine ⟨g, ρ, h, rh, rs, ?_⟩
    unfold sTrim at p
    generalize B ρ h = r at p ⊢
    cases r with
    | nx ρ' h' =>
      intro g' H' σ' st rh' rs'
      obtain ⟨g2, st2, rh2, low⟩ := trim_at rh st rh'
      refine p g2 H' σ' st2 rh2 ⟨?_, fun i v e => ?_⟩
      · unfold lowS
        rw [List.length_map]; exact rs'.len
      · obtain ⟨e1, l⟩ := lowS_at e
        obtain ⟨u, a, b⟩ := rs'.get i v e1
        exact ⟨u, a, low v u l b⟩
    | _ => exact p
end J
namespace J
open PySem L2
open PyProof.Rows (envOfC)
/-! dict(zip(t, xs)), t a tuple: the pairs are held, so zip makes each anew -/
end J
namespace J
open PySem L2
/-! dict(zip(t, xs)), t a tuple, the keys unlike -/
def dzMT (vs : List VV) : Option VV := match vs with
  | [.tup xs, .lst ys] => (keysA xs).bind fun ks => if ks.Nodup ∧ ks.length = ys.length ∧ ks.length ≤ 1000 then some (.dK ks ys) else none
  | _ => none
def eDictZipT (a : AF) : EF := fun ρ h => (a ρ h).bind fun vs h1 => lift (dzMT vs) h1
end J
namespace J
open PySem L2 M
/-! evaluation of what J57 added -/
section
variable {ρ : VSt} {h : VH}
def valsD (v : VV) (h1 : VH) : Res (List VV) := match v with
  | .dT _ vs => .ok vs h1
  | _ => .no
theorem a_valsD {f} : iValsD f ρ h = bnd (f ρ h) valsD (tg _) := nr rfl
theorem sTrim_nx {B : SF} {ρ' : VSt} {h' : VH} (e : B ρ h = .nx ρ' h') : sTrim B ρ h = .nx (lowS h.length ρ') (trim h.length .non h') := by unfold sTrim; rw [e]
theorem a_dictZipT {a : AF} : eDictZipT a ρ h = bnd (a ρ h) (fun vs h1 => lift (dzMT vs) h1) (tg _) := nr rfl
theorem valsD_dT {ks vs} : valsD (.dT ks vs) h = .ok vs h := nr rfl
end
end J
namespace J
open PySem L2
open PyProof.Rows (IntsAre)
/-! max(list of ints, default=int) -/
def maxZ : List Int → Int → Int
  | [], d => d
  | x :: xs, _ => xs.foldl max x
def cMaxD (h : VH) (vs ws : List VV) : Option VV := match vs, ws with
  | [v], [.int d] => (lstOf h v).bind fun xs => (intsOf xs).map fun ns => .int (maxZ ns d)
  | _, _ => none
def eMaxD (a k : AF) : EF := fun ρ h => (a ρ h).bind fun vs h1 => (k ρ h1).bind fun ws h2 => lift (cMaxD h2 vs ws) h2
end J
namespace J
open PySem L2
open PySem.Spec
open PyProof.Rows hiding St
/-! list comprehensions of three clauses. One lemma (clause_loop) serves the loop of each clause, another (enter_block) the way into the block. -/
end J
namespace J
open PySem L2
/-! three clauses over the small heap -/
def lc3Go (b : VV → VSt → Option VSt) (t : TF) (it1 : AF) (b1 : VV → VSt → Option VSt) (vs1 : List Nat) (t1 : TF) (it2 : AF) (b2 : VV → VSt → Option VSt) (vs2 : List Nat) (t2 : TF) (e : EF) (ρ : VSt) : List VV → VH → List VV → Res (List VV)
  | [], h, acc => .ok acc h
  | x :: xs, h, acc => match b x ρ with
    | none => .no
    | some ρ' => (t ρ' h).bind fun k h1 => if k = true then (it1 ρ' h1).bind fun ys h2 => (lc2Go b1 t1 it2 b2 vs2 t2 e (wp ρ' vs1) ys h2 acc).bind fun vs h3 => lc3Go b t it1 b1 vs1 t1 it2 b2 vs2 t2 e ρ xs h3 vs else lc3Go b t it1 b1 vs1 t1 it2 b2 vs2 t2 e ρ xs h1 acc
def eLc3 (own : List Nat) (it : AF) (b : VV → VSt → Option VSt) (t : TF) (it1 : AF) (b1 : VV → VSt → Option VSt) (vs1 : List Nat) (t1 : TF) (it2 : AF) (b2 : VV → VSt → Option VSt) (vs2 : List Nat) (t2 : TF) (e : EF) : EF := fun ρ h => (it ρ h).bind fun xs h1 => match lc3Go b t it1 b1 vs1 t1 it2 b2 vs2 t2 e (wp ρ own) xs h1 [] with
  | .ok vs h2 => .ok (.lst vs) h2
  | _ => .no
end J
namespace J
open PySem L2
open PySem.Spec
open PyProof.Rows hiding St
/-! x = [e for .. in .. for .. in .. for .. in ..] -/
end J
namespace J
open PySem L2
/-! {k: v for t in xs}, the keys tuples -/
section
variable {X : Cx} {W : WX}
def eDc1T (own : List Nat) (it : AF) (b : VV → VSt → Option VSt) (fk fv : EF) : EF := fun ρ h => (it ρ h).bind fun xs h1 => (noX (accGo b (stDict fk fv) (wp ρ own) xs h1 ([], []))).bind fun a h2 => .ok (.dT a.1 a.2) h2
end
end J
namespace J
open PySem L2
/-! a, b = a list -/
end J
namespace J
open PySem L2
/-! len(set(t)), t a tuple of ints -/
end J
namespace J
open PySem L2
open PySem.Spec
open PyProof.Rows hiding St
/-! some statements taken together, so that the roots that they made may be forgotten behind them -/
end J
namespace J
open PySem L2
/-! max(xs), a list of ints that is not empty -/
end J
namespace J
open PySem L2
/-! sorted(xs) whose list is a root -/
end J
namespace J
open PySem L2
/-! for i, x in enumerate(xs), xs a root that may be read while the loop runs -/
end J
namespace J
open PySem L2
/-! a call that only looks at lists which are roots: for as long as it runs all roots are frozen, afterwards they are roots again -/
end J
namespace J
open PySem L2
open AutoSeq1 (wpAny_loadPart')
/-! enumerate(a tuple) -/
end J
namespace J
open PySem L2
/-! xs * n as data -/
end J
namespace J
open PySem L2
/-! dict(a list of pairs), the keys ints or texts and unlike -/
end J
namespace J
open PySem PySem.Spec L2 PyProof.Rows
/-! min(t), t a tuple of ints that is not empty -/
end J
namespace J
open PySem L2
/-! texts: str(x), int(text), sep.join(..), text.split(sep), f'..', a sign in a text -/
def strV : VV → Option Str
  | .int i => if i.natAbs.log2 < 1920 then some (toString i) else none
  | .str a => some a
  | _ => none
def cStr : OpN := fun _ vs => match vs with
  | [v] => (strV v).map .str
  | _ => none
def cIntS : OpN := fun _ vs => match vs with
  | [.str a] => if a.length ≤ 640 then (PySem.intText? a).map .int else none
  | _ => none
section
variable {X : Cx} {W : WX}
theorem cr_strJ : CallR X (.type "str") (RdN (ct X) cStr) :=
  CallR.imp (CallR.or call_str_int SkE.call_str_str) fun xs H Q ⟨g, h, vs, r, rh, rv, e, kk⟩ => by
    unfold cStr at e
    split at e
    · obtain ⟨y, e1, e2⟩ := Option.map_eq_some_iff.mp e
      subst e2
      obtain ⟨u, q, rfl, ra, rfl⟩ := rv
      unfold strV at e1
      split at e1
      · split at e1
        · rename_i i cc
          cases e1
          exact .inl ⟨i, by rw [int_get ra], cc, kk g H _ .refl rh rt_str⟩
        · cases e1
      · rename_i a
        cases e1
        exact .inr ⟨_, by rw [str_get ra], kk g H _ .refl rh rt_str⟩
      · cases e1
    · cases e
theorem cr_intS : CallR X (.type "int") (RdN (ct X) cIntS) :=
  CallR.imp call_int_str fun xs H Q ⟨g, h, vs, r, rh, rv, e, kk⟩ => by
    unfold cIntS at e
    split at e
    · rename_i a
      split at e
      · rename_i cc
        obtain ⟨n, e1, e2⟩ := Option.map_eq_some_iff.mp e
        subst e2
        obtain ⟨u, q, rfl, ra, rfl⟩ := rv
        exact ⟨a, n, by rw [str_get ra], e1, cc, kk g H _ .refl rh rt_int⟩
      · cases e
    · cases e
def joinR (a : Str) (w : VV) (h : VH) : Res VV := match (seqV h w).bind strsOf with
  | some ys => if (ys.map (·.length)).sum + ys.length * a.length ≤ 16777216 then .ok (.str (Txt.join a ys)) h else .no
  | none => .no
def strR (v : VV) (k : Str → Res VV) : Res VV := match v with
  | .str a => k a
  | _ => .no
def eJoin (fo fe : EF) : EF := fun ρ h => (fo ρ h).bind fun v h1 => strR v fun a => (fe ρ h1).bind fun w h2 => joinR a w h2
theorem j_join {o e : Expr} {fo fe : EF} {apos pos : Pos} (ho : PE X o (tE (ct X) W fo)) (he : PE X e (tE (ct X) W fe)) (hs : starEach [e] X.env = [(false, eval e X.env)] := by rfl) (hbase : attributeBase o "join" X.env (eval o X.env) = eval o X.env := by rfl) (hline : (apos.endLine == pos.line) = true := by rfl) :
    PE X (.Call (.Attribute o "join" apos) [e] [] pos) (tE (ct X) W (eJoin fo fe)) :=
  PE.mono (pe_join ho he hs hbase hline) fun σ H Q ⟨g, ρ, h0, rh, rs, p⟩ => by
    refine ⟨g, ρ, h0, rh, rs, (Pst.bind (R := RT (ct X)) p).imp fun u H1 ⟨g1, v, h1, st, rh1, rv1, p1⟩ => ?_⟩
    cases v with
    | str a =>
      refine ⟨⟨a, str_get rv1⟩, g1, ρ, h1, rh1, rs.stp st, (Pst.bind (R := RT (ct X)) p1).imp fun u2 H2 ⟨g2, w, h2, st2, rh2, rv2, p2⟩ => ?_⟩
      unfold joinR at p2
      split at p2
      · rename_i ys ey
        split at p2
        · rename_i cc
          obtain ⟨xs, e1, e2⟩ := Option.bind_eq_some_iff.mp ey
          obtain ⟨q, us, rfl, sq, rvs⟩ := seqV_get rh2 rv2 e1
          have eu := strsOf_rv rvs e2
          subst eu
          exact ⟨a, q, ys, str_get rv1, rfl, sq, cc, p2 g2 H2 _ .refl rh2 rt_str⟩
        · exact p2.elim
      · exact p2.elim
    | _ => exact p1.elim
/-! f-strings -/
def fmtR (v : VV) (h : VH) : Res VV := match strV v with
  | some y => if y.length ≤ SZ then .ok (.str y) h else .no
  | none => .no
def eFmt (f : EF) : EF := fun ρ h => (f ρ h).bind fmtR
/-- the parts of an f-string -/
def catR (acc : Str) (v : VV) (k : Str → Res VV) : Res VV := strR v fun y => if (acc ++ y).length ≤ SZ then k (acc ++ y) else .no
def joinedGo : List EF → Str → EF
  | [], acc => fun _ h => .ok (.str acc) h
  | f :: fs, acc => fun ρ h => (f ρ h).bind fun v h1 => catR acc v fun a => joinedGo fs a ρ h1
def eJoined (fs : List EF) : EF := joinedGo fs Str.empty
/-! a sign in a text -/
def opInS (ne : Bool) : Op2 := fun _ x y => match x, y with
  | .str a, .str z => match a.cps.toList with
    | [c] => some (.bl (ne ^^ decide (c ∈ z.cps.toList)))
    | _ => none
  | _, _ => none
theorem or_inS : OpR X (compareOp .In) (Rd2 (ct X) (opInS false)) :=
  OpR.imp op_in_sign fun x y H Q ⟨g, h, v, w, r, rh, rv, rw', e, kk⟩ => by
    unfold opInS at e
    split at e
    · rename_i a z
      split at e
      · rename_i c ec
        cases e
        have ea : a = ⟨#[c]⟩ := by
          cases a with
          | mk q =>
            have : q = #[c] := by
              apply Array.ext'
              exact ec
            rw [this]
        rw [Bool.false_xor] at kk
        exact ⟨c, z, by rw [str_get rv, ea], str_get rw', kk g H _ .refl rh rt_bl⟩
      · cases e
    · cases e
end
end J
namespace J
open PySem L2
/-! one, *others = a tuple -/
theorem star_list {P : Program} {w : World} {A : Around} {E : Value → Shared → Prop} {s : Shared} {l : Addr} {items : Array Value} {x : Value} {xs : List Value} {Q : List Value → Shared → Prop} (ht : s.heap.IsList l items) (hh : A.handled = none) (hx : items.toList = x :: xs) (hz : items.size ≤ 16384)
    (h : ∀ (h1 : Heap) (tk : Nat), (∀ b o, s.heap.get? b = some o → h1.get? b = some o) → Q [x, .ref h1.objs.size] { s with heap := h1.push { cls := .type "list", data := .seq xs.toArray }, toks := tk }) : wpAny (model P w) A (unpackItems (.ref l) 2 (some 1)) Q E s := by
  have ne : l ≠ s.heap.objs.size := by
    obtain ⟨o, e, _⟩ := ht
    exact Nat.ne_of_lt (Heap.lt_size e)
  have sz : items.size = xs.length + 1 := by
    have := congrArg List.length hx
    rw [Array.length_toList, List.length_cons] at this
    exact this
  unfold unpackItems notIterableAtAll
  refine wpAny_bind (wpAny_bind (wpAny_specialOf ht.typeIs PySem.F.slot_list_iter.lookup (wpAny_pure ?_)))
  rw [if_neg Bool.false_ne_true]
  refine wpAny_bind (wpAny_holding (wpAny_pyIter_list ht ?_))
  refine wpAny_bind (wpAny_holding (PySem.W.kun_draw ne 1 0 _ _ ⟨_, Heap.get?_push_size _ rfl, rfl, rfl⟩ (ht.push _) (by omega) fun g1 i1 s1 => ?_))
  have t1 : g1.IsList l items := (ht.push _).extBut s1.extBut ne
  have e1 : (items.toList.drop 0).take 1 = [x] := by rw [hx]; rfl
  have e2 : items.toList.drop 1 = xs := by rw [hx]; rfl
  rw [e1]
  show wpAny _ _ (if ([x] : List Value).length < 1 then _ else _) _ _ _
  rw [if_neg (by simp)]
  have i1' := i1
  have t1' := t1
  obtain ⟨oi, hoi, _⟩ := i1'
  obtain ⟨ol, hol, _⟩ := t1'
  refine wpAny_bind (wpAny_holding (PySem.W.kun_collect (s := { s with heap := g1 }) (T := "list_iterator") (k := 1) (.inr (.inr (.inl rfl))) (Walks.list (A := A.in1) hh s.heap.objs.size l ne items) (fun j u z => z.1.typeIs) (by omega) ⟨i1, t1⟩ (Heap.lt_size hoi) (Heap.lt_size hol) (fun g2 tk k2 => ?_) (by rw [sizeLine_eq]; omega)))
  rw [e2]
  show wpAny _ _ (if xs.length < 2 - 1 - 1 then _ else _) _ _ _
  rw [if_neg (by omega)]
  show wpAny _ _ (newList (xs.take (xs.length - 0)) >>= fun d => pure ([x] ++ [d] ++ xs.drop (xs.length - 0))) _ _ _
  rw [Nat.sub_zero, List.take_length, List.drop_length]
  refine wpAny_bind (wpAny_newList (wpAny_pure (h g2 tk fun b o e => ?_)) (by rw [sizeLine_eq]; omega))
  have nb : b ≠ s.heap.objs.size := Nat.ne_of_lt (Heap.lt_size e)
  exact k2 b o nb (s1.extBut b o nb (Heap.get?_push_of_some _ e))
section
variable {X : Cx} {W : WX}
def gStarL (K : PySem.W.Frag) (t : TGs) : TG := fun v σ H Q => ∃ a x xs, v = .ref a ∧ SqL K H a (x :: xs) ∧ xs.length ≤ 10000 ∧ ∀ l, H l = none → t [x, .ref l] σ (upd H l (.lst xs)) Q
theorem pg_starL {e1 e2 : Expr} {p pos : Pos} {k : Nat} {t : TGs} (hc : X.calm = true) (h : PGs X [e1, e2] t) (hn : (assignEach [e1, .Starred e2 p] X.env).length = 2 := by rfl) (hst : (assignEach [e1, .Starred e2 p] X.env).findIdx? (·.1) = some 1 := by rfl)
    (hm : (assignEach [e1, .Starred e2 p] X.env).map (·.2) = (assignEach [e1, e2] X.env).map (·.2) := by rfl) : PG X (.Tuple [e1, .Starred e2 p] k pos) (gStarL X.K t) := by
  refine ⟨fun pins s σ H v u Q I r hw => ?_⟩
  obtain ⟨a, x, xs, ev, hq, hl, hw⟩ := hw
  subst ev
  cases r
  obtain ⟨its, rv, ⟨ob, m, ho, hcl, hdi, hda⟩, hz⟩ := I.list hq
  cases rv with
  | @cons _ y _ ys rx rxs =>
    have hlen := rxs.length
    rw [PyProof.Rows.assign_Tuple]
    refine wpAny_bind (wpAny_standAt ?_)
    unfold unpack
    rw [hn, hst, hm]
    refine wpAny_bind (wpAny_holding (star_list (items := (y :: ys).toArray) ⟨ob, ho, hcl, m, hda⟩ (I.ok.hd hc) (x := y) (xs := ys) (by simp) (by simp; omega) fun h1 tk kp => ?_))
    have I1 : Inv X pins σ H { s with heap := h1, toks := tk } := I.kept kp
    have fr := I1.hok.fresh (Nat.le_refl _)
    have I2 := I1.laid (a := h1.objs.size) (o := .lst xs) (h' := h1.push { cls := .type "list", data := .seq ys.toArray }) (t' := tk) (fun b o q => Heap.get?_push_of_some _ q) (Nat.le_refl _) ⟨by rw [sizeLine_eq]; omega, ys, _, rxs, Heap.get?_push_size _ rfl⟩
    exact h.run pins _ σ _ [x, .ref h1.objs.size] _ Q I2 (.cons rx (.cons rfl .nil)) (hw _ fr)
def sStar (i j : Nat) (f : EF) : SF := fun ρ h => (f ρ h).st ρ fun v h1 => match v with
  | .tup (x :: xs) => if xs.length ≤ 10000 then .nx ((ρ.set i (some x)).set j (some (.lst xs))) h1 else .no
  | _ => .no
def sStarL (i j : Nat) (f : EF) : SF := fun ρ h => (f ρ h).st ρ fun v h1 => match v with
  | .lst (x :: xs) => if xs.length ≤ 10000 then .nx ((ρ.set i (some x)).set j (some (.lst xs))) h1 else .no
  | _ => .no
theorem js_starL {x1 x2 : Str} {p1 p2 : Pos} {e : Expr} {f : EF} {i j : Nat} {k : Nat} {p pos' pos : Pos} (hc : X.calm = true) (he : PE X e (tE (ct X) W f)) (h1 : PG X (.Name x1 p1) (gName i)) (h2 : PG X (.Name x2 p2) (gName j))
    (hn : (assignEach [.Name x1 p1, .Starred (.Name x2 p2) p] X.env).length = 2 := by rfl) (hst : (assignEach [.Name x1 p1, .Starred (.Name x2 p2) p] X.env).findIdx? (·.1) = some 1 := by rfl) (hm : (assignEach [.Name x1 p1, .Starred (.Name x2 p2) p] X.env).map (·.2) = (assignEach [.Name x1 p1, .Name x2 p2] X.env).map (·.2) := by rfl)
    (hs : swapsWithSole [.Tuple [.Name x1 p1, .Starred (.Name x2 p2) p] k pos'] e pos.line X.env = pure false := by rfl) (hw : swappedStores [.Tuple [.Name x1 p1, .Starred (.Name x2 p2) p] k pos'] e X.env = pure none := by rfl) (ha : (assignEach [.Tuple [.Name x1 p1, .Starred (.Name x2 p2) p] k pos'] X.env).map (·.2) = [assign (.Tuple [.Name x1 p1, .Starred (.Name x2 p2) p] k pos') X.env] := by rfl) :
    PS X (.Assign [.Tuple [.Name x1 p1, .Starred (.Name x2 p2) p] k pos'] e pos) (tS (ct X) W (sStarL i j f)) :=
  PS.mono (ps_asg he (pg_starL (t := gCons (gName i) (gCons (gName j) gNil)) hc (pgs_cons h1 (pgs_cons h2 pgs_nil)) hn hst hm) hs hw ha) fun D σ H ⟨g, ρ, h, rh, rs, q⟩ => by
    refine ⟨g, ρ, h, rh, rs, (Pst.st (R := RT (ct X)) rs q).imp fun u H1 ⟨g1, v, h1, st, rh1, rs1, rv1, q1⟩ => ?_⟩
    split at q1
    · rename_i x xs
      split at q1
      · rename_i cc
        obtain ⟨a, us, rfl, hq, rvs⟩ := lstOf_get rh1 rv1 (xs := x :: xs) rfl
        rw [RVs] at rvs
        obtain ⟨w, ws, e0, r0, rr⟩ := rvs
        subst e0
        refine ⟨a, w, ws, rfl, hq, by have := rr.len; omega, fun l hl => ?_⟩
        obtain ⟨s1, s2, s3⟩ := new_lst rh1 hl rr
        have pat := pats_cons (pat_nm (K := X.K) i) (pats_cons (pat_nm (K := X.K) j) pats_nil)
        refine pat.run (ct X) _ h1 _ ρ σ [x, .lst xs] [w, .ref l] _ rfl s2 (rs1.stp s1) ⟨w, [.ref l], rfl, (RT.of_rv r0).stp s1, .ref l, [], rfl, s3, rfl⟩ rfl _ fun σ' rs' _ _ => ?_
        exact q1 _ _ σ' s1 s2 rs'
      · exact q1.elim
    · exact q1.elim
end
end J
namespace J
open PySem L2
/-! lists of roots: written at a place, two places exchanged; o[i] -= e; a root gone through while it may be changed -/
theorem RTs.put {c : Ct} {g : Gh} {H : Hp} {v : VV} {u : V} (q : RT c g H v u) : ∀ {vs : List VV} {us : List V} {i : Nat}, RTs c g H vs us → RTs c g H (vs.set i v) (us.set i u)
  | [], us, i, h => by
    obtain rfl : us = [] := h
    simp only [List.set_nil]
    rfl
  | x :: xs, us, i, h => by
    obtain ⟨y, r, rfl, a, b⟩ := h
    cases i with
    | zero => exact ⟨u, r, rfl, q, b⟩
    | succ i => exact ⟨y, _, rfl, a, RTs.put q b⟩
end J
namespace J
open PySem L2
/-! an expression that only looks: for as long as it is evaluated all roots are frozen, afterwards they are roots again -/
mutual
def flatV : VV → Bool
  | .non => true
  | .bl _ => true
  | .int _ => true
  | .str _ => true
  | .tup xs => flatVs xs
  | _ => false
def flatVs : List VV → Bool
  | [] => true
  | x :: xs => flatV x && flatVs xs
end
end J
namespace J
open PySem L2
/-! one, two, *others = a tuple -/
end J
namespace J
open PySem L2
/-! a list of whole numbers in a tuple of such lists -/
end J
namespace J
open PySem L2
variable {ρ : VSt} {h h' : VH}
def jnR (v : VV) (r : Res VV) : Res VV := match v with
  | .str a => r.bind fun w h2 => joinR a w h2
  | _ => .no
def spR (v : VV) (r : Res VV) : Res VV := match v with
  | .str a => r.bind fun w h2 => (match w with
    | .str b => if (b.length == 0) = false ∧ a.length + 2 ≤ SZ then .ok (.lst ((Txt.split a b).map .str)) h2 else .no
    | _ => .no)
  | _ => .no
theorem a_join {fo fe} : eJoin fo fe ρ h = bnd (fo ρ h) (fun v h1 => jnR v (fe ρ h1)) (tg _) := nr rfl
theorem jnR_str {a r} : jnR (.str a) r = bnd r (fun w h2 => joinR a w h2) (tg _) := nr rfl
theorem joinR_lst {a : Str} {ys : List Str} (hb : (ys.map (·.length)).sum + ys.length * a.length ≤ 16777216) : joinR a (.lst (ys.map VV.str)) h = .ok (.str (Txt.join a ys)) h := by
  have e : strsOf (ys.map VV.str) = some ys := by
    induction ys with
    | nil => rfl
    | cons y ys ih =>
      simp only [List.map_cons, List.sum_cons, List.length_cons] at hb
      rw [List.map_cons, strsOf, ih (by rw [Nat.add_mul] at hb; omega)]
      rfl
  unfold joinR
  rw [show (seqV h (.lst (ys.map VV.str))).bind strsOf = some ys from e]
  simp only
  rw [if_pos hb]
theorem a_split {fo fe} : eSplit fo fe ρ h = bnd (fo ρ h) (fun v h1 => spR v (fe ρ h1)) (tg _) := nr rfl
theorem spR_ok {a b : Str} (hb : (b.length == 0) = false) (ha : a.length + 2 ≤ SZ) : spR (.str a) (.ok (.str b) h) = .ok (.lst ((Txt.split a b).map .str)) h := by
  show (if (b.length == 0) = false ∧ a.length + 2 ≤ SZ then Res.ok (VV.lst ((Txt.split a b).map .str)) h else .no) = _
  rw [if_pos ⟨hb, ha⟩]
theorem a_fmt {f} : eFmt f ρ h = bnd (f ρ h) fmtR (tg _) := nr rfl
theorem a_joined {fs} : eJoined fs ρ h = joinedGo fs Str.empty ρ h := nr rfl
theorem jd_nil {acc} : joinedGo [] acc ρ h = .ok (.str acc) h := nr rfl
theorem jd_cons {f fs acc} : joinedGo (f :: fs) acc ρ h = bnd (f ρ h) (fun v h1 => catR acc v fun a => joinedGo fs a ρ h1) (tg _) := nr rfl
theorem str_int {i : Int} (hi : i.natAbs.log2 < 1920) : cStr h [.int i] = some (.str (toString i)) := by
  show ((if i.natAbs.log2 < 1920 then some (toString i : Str) else none).map VV.str) = _
  rw [if_pos hi]
  rfl
def starT (i j : Nat) (ρ : VSt) (v : VV) (h1 : VH) : SR := match v with
  | .tup (x :: xs) => if xs.length ≤ 10000 then .nx ((ρ.set i (some x)).set j (some (.lst xs))) h1 else .no
  | _ => .no
def starL (i j : Nat) (ρ : VSt) (v : VV) (h1 : VH) : SR := match v with
  | .lst (x :: xs) => if xs.length ≤ 10000 then .nx ((ρ.set i (some x)).set j (some (.lst xs))) h1 else .no
  | _ => .no
theorem s_star {i j f} : sStar i j f ρ h = sbd (f ρ h) ρ (fun v h1 => starT i j ρ v h1) (tg _) := nr rfl
theorem s_starL {i j f} : sStarL i j f ρ h = sbd (f ρ h) ρ (fun v h1 => starL i j ρ v h1) (tg _) := nr rfl
theorem starL_lst {i j x xs} (hx : xs.length ≤ 10000) : starL i j ρ (.lst (x :: xs)) h = .nx ((ρ.set i (some x)).set j (some (.lst xs))) h := by
  show (if xs.length ≤ 10000 then SR.nx ((ρ.set i (some x)).set j (some (.lst xs))) h else .no) = _
  rw [if_pos hx]
theorem inS_sign {c : Nat} {z : Str} : opInS false h (.str ⟨#[c]⟩) (.str z) = some (.bl (decide (c ∈ z.cps.toList))) := by
  show some (VV.bl (false ^^ decide (c ∈ z.cps.toList))) = _
  rw [Bool.false_xor]
theorem int_text {a : Str} {n : Int} (hl : a.length ≤ 640) (e : PySem.intText? a = some n) : cIntS h [.str a] = some (.int n) := by
  show (if a.length ≤ 640 then (PySem.intText? a).map VV.int else none) = _
  rw [if_pos hl, e]
  rfl
end J
namespace J
open PySem L2
open PyProof.Rows (envOfC IntsAre AllBare)
/-! defs that are entered where nothing is being told as text (no guard runs): what repr and str of a list want -/
end J
namespace J
open PySem L2
open PyProof.Rows (envOfC)
end J
namespace J
open PySem L2
open PyProof.Rows (envOfC)
/-! repr(x), str(x) by the class's own; str of a list of faces, such a list in an f-string; x != a list -/
/-- the text of one instance -/
def txR (cn : Str) (F : FF) (v : VV) (h1 : VH) : Res VV := match insOf h1 v with
  | some a => if a.1 = cn then (noX (F [v] h1)).bind fun r h2 => (match r with
    | .str t => .ok (.str t) h2
    | _ => .no) else .no
  | none => .no
def eTxt (cn : Str) (F : FF) (fa : EF) : EF := fun ρ h => (fa ρ h).bind fun v h1 => txR cn F v h1
end J
namespace J
open PySem PySem.Spec PyProof.Rows L2
open PyProof.Rows (IsTup)
/-! str of a list of faces (tuples of small ints), such a list in an f-string -/
def smI : List VV → Option (List Int)
  | [] => some []
  | .int i :: r => if i.natAbs < 1000000 then (smI r).map (i :: ·) else none
  | _ => none
def smF : List VV → Option (List (List Int))
  | [] => some []
  | .tup xs :: r => (smI xs).bind fun f => (smF r).map (f :: ·)
  | _ => none
def pdI (f : List Int) : List PyData := f.map PyData.int
def pdF (fs : List (List Int)) : List PyData := fs.map fun f => .tuple (pdI f)
def txF (fs : List (List Int)) : Str := PyData.shown (.list (pdF fs))
def lstTx (h : VH) (v : VV) : Option Str := (lstOf' h v).bind fun xs => (smF xs).bind fun fs => if (txF fs).length ≤ SZ then some (txF fs) else none
section
variable {X : Cx} {W : WX} {k : Nat}
def fmtLR (v : VV) (h : VH) : Res VV := match lstTx h v with
  | some t => .ok (.str t) h
  | none => .no
def eFmtL (f : EF) : EF := fun ρ h => (f ρ h).bind fmtLR
end
end J
namespace J
open PySem L2
open PyProof.Rows (envOfC)
/-! x != a list, by the class's own __eq__ -/
section
variable {X : Cx} {W : WX} {k : Nat} {cn : Str} {Fm : FF}
def neLR (cn : Str) (F : FF) (v w : VV) (h2 : VH) : Res VV := match insOf h2 v, lstOf' h2 w with
  | some a, some _ => if a.1 = cn then (noX (F [v, w] h2)).bind fun r h3 => (match r with
    | .bl r => .ok (.bl (!r)) h3
    | _ => .no) else .no
  | _, _ => .no
def eOwnNeL (cn : Str) (F : FF) (fa fb : EF) : EF := fun ρ h => (fa ρ h).bind fun v h1 => (fb ρ h1).bind fun w h2 => neLR cn F v w h2
end
end J
namespace J
open PySem L2
/-! a class made without arguments, its default an empty tuple of the module -/
def EmpT (K : PySem.W.Frag) (a : Addr) : Prop := ∃ (o : Obj) (n : Nat), K.lookup a = some o ∧ o.cls = .type "tuple" ∧ o.data = .seq #[] n
theorem EmpT.sq {K : PySem.W.Frag} {H : Hp} {a : Addr} (e : EmpT K a) : SqT K H a [] := by
  obtain ⟨o, n, e1, e2, e3⟩ := e
  exact .inr ⟨o, #[], n, e1, e2, e3, by show 0 ≤ _; omega, .nil⟩
end J
namespace J
open PySem L2
variable {ρ : VSt} {h h' : VH}
theorem a_txt {cn : Str} {F : FF} {fa : EF} : eTxt cn F fa ρ h = bnd (fa ρ h) (fun v h1 => txR cn F v h1) (tg _) := nr rfl
theorem a_fmtL {f : EF} : eFmtL f ρ h = bnd (f ρ h) fmtLR (tg _) := nr rfl
theorem a_ownNeL {cn : Str} {F : FF} {fa fb : EF} : eOwnNeL cn F fa fb ρ h = bnd (fa ρ h) (fun v h1 => bnd (fb ρ h1) (fun w h2 => neLR cn F v w h2) (tg _)) (tg _) := nr rfl
end J
/-! exceptions that leave a list comprehension -/
namespace PySem
namespace XLc
open HandSPX
theorem note_frame {x : Value} {e1 e2 : Env} (h : e1.frame = e2.frame) : noteFrame x e1 = noteFrame x e2 := by
  unfold noteFrame frameOf
  rw [h]
theorem pass_frame {α : Type} {t : String} {x : Value} {e1 e2 : Env} (h : e1.frame = e2.frame) : (passOn t x e1 : Sem α) = passOn t x e2 := by
  unfold passOn
  rw [h]
section
variable {M : Model} {A : Around} {E : Value → Shared → Prop} {s : Shared} {Z : Obj → Prop} {base : Heap} {env : Env} {outer l : List Env} {L C e : Addr}
/-- noted elsewhere, then by this frame -/
theorem looks_elsewhere {Q : Unit → Shared → Prop} (hZ : PXN.Steady1 Z) (hfr : A.frames = some (env :: outer)) (hf : env.frame = some L) (hne : C ≠ L) (hfl : HeldZ base (env :: outer) e Z C s.heap)
    (hQ : ∀ h', HeldZ base (env :: outer) e Z L h' → s.heap.UpToSlots h' → Q () { s with heap := h' }) : wpAny M A (noteFrame (.ref e) env) Q E s := by
  obtain ⟨hkb, hen, hl, oe, vs, T, oT, ts, he, hz, hd, h1, hnT, hTe, hT, hdT, h3⟩ := hfl
  have off : ∀ b, b ≠ T → (s.heap.update T (Obj.mapFields (·.setIfInBounds 3 Value.none))).get? b = s.heap.get? b := fun b hb => Heap.get?_update_other _ _ (Ne.symm hb)
  have rcd : ∀ b o, s.heap.get? b = some o → (∀ vs, o.data ≠ .fields vs) → b ≠ T := fun b o hb hnf q => by
    subst q
    rw [hT] at hb; cases hb
    exact hnf ts hdT
  unfold noteFrame
  simp only [hf]
  refine wpAny_bind (wpAny_field he hd h1 ?_)
  rw [if_pos (show (Value.ref T != Value.none) = true from by simp)]
  refine wpAny_bind (wpAny_field hT hdT h3 ?_)
  rw [if_neg (show ¬ ((rawInt C == rawInt L) = true) from fun z => hne (Int.ofNat.inj (by simpa [rawInt] using z)))]
  refine wpAny_bind (wpAny_setField hT hdT (Array.getElem?_eq_some_iff.mp h3).1 ?_)
  refine PXN.wpAny_entryZ hZ hfr (hl.of_keeps fun b o hb hnf => ⟨o, (off b (rcd b o hb hnf)).trans hb, rfl⟩) hf ((off e (Ne.symm hTe)).trans he)
    (fun b o hb => (off b fun q => by subst q; rw [hnT] at hb; cases hb).trans (hkb b o hb)) hen hd (Array.getElem?_eq_some_iff.mp h1).1 hz fun h' hN => ?_
  exact hQ h' ⟨hN.1, hen, hN.2.1, hN.2.2.1⟩ fun b o hb hnf => hN.2.2.2 b o ((off b (rcd b o hb hnf)).trans hb) hnf
end
end XLc
end PySem
namespace J
open PySem PySem.Spec PyProof.Rows L2
section
variable {X : Cx} {pins : List (Addr × Obj)} {σ : L2.St} {H : Hp} {s : Shared} {C : Addr}
/-- the heap without a block's names -/
theorem hide1 (I : L2.Inv X pins σ H s) (f : FpOk X pins H C) (hex : X.ex = []) : L2.Inv X pins σ H { s with heap := PySem.W.hideAll s.heap [C] } := by
  obtain ⟨f0, f1, f2, f3, f4, f5⟩ := f
  have f3' : X.s_0.heap.objs.size ≤ C := f3.elim (fun z => by rw [hex] at z; cases z) id
  have kp : ∀ b o, b ≠ C → s.heap.get? b = some o → (PySem.W.hideAll s.heap [C]).get? b = some o := fun b o hb e => PySem.W.hideAll_get _ e (by simpa using hb)
  have old : ∀ b o, X.s_0.heap.get? b = some o → b ≠ C := fun b o e z => by
    have := Heap.lt_size e
    rw [z] at this
    exact Nat.lt_irrefl _ (Nat.lt_of_lt_of_le this f3')
  have tr : ∀ b u, H b = some u → b ≠ C := fun b u e z => by rw [z, f0] at e; cases e
  refine ⟨I.ok, I.os, I.bare, ⟨fun b o e n h1 h2 => kp b o (old b o e) (I.base.keep b o e n h1 h2), fun b o e n h1 h2 => ?_, I.base.free, fun b o e h2 => ?_, I.base.tups, I.base.frzs, I.base.tbls⟩, ?_, fun y c e => ?_, I.free, I.freeC, fun p hp => ?_, fun b u e => ?_, I.len⟩
  · obtain ⟨sl, q⟩ := I.base.slot b o e n h1 h2
    exact ⟨sl, kp b _ (old b o e) q⟩
  · obtain ⟨o', q⟩ := I.base.there b o e h2
    exact ⟨o', kp b _ (old b o e) q⟩
  · obtain ⟨m, ⟨o, es, ep, e, d, r⟩, hl⟩ := I.loc
    refine ⟨m, ⟨o, es, ep, kp _ o (Ne.symm f1) e, d, r⟩, fun i y v e1 e2 e3 => ?_⟩
    obtain ⟨u, r, q⟩ := hl i y v e1 e2 e3
    refine ⟨u, r, q.imp id fun ⟨k, c, ec, o, eo, ed⟩ => ⟨k, c, ec, o, kp c o (f4 y c ec) eo, ed⟩⟩
  · obtain ⟨v, o, eo, ed⟩ := I.cell y c e
    exact ⟨v, o, kp c o (f4 y c e) eo, ed⟩
  · obtain ⟨e, r⟩ := I.pin p hp
    exact ⟨kp _ _ (f5 p hp) e, r⟩
  · refine (I.hok b u e).stay (fun d o hd q => kp d o ?_ q) (fun _ q => q) fun _ _ q => q
    rcases hd with rfl | z
    · exact tr _ u e
    · exact tr d _ z
theorem frames_same {h h' B : Heap} : ∀ {l : List Env}, h.FunFrames B l → (∀ b ∈ frs l, h'.get? b = h.get? b) → h'.FunFrames B l
  | [], _, _ => trivial
  | env :: l, ⟨hk, ⟨L, o, hf, hn, ho, hd⟩, r⟩, k => ⟨hk, ⟨L, o, hf, hn, by rw [k L (List.mem_filterMap.mpr ⟨env, List.mem_cons_self, hf⟩)]; exact ho, hd⟩, frames_same r fun b hb => by
    obtain ⟨e, he, q⟩ := List.mem_filterMap.mp hb
    exact k b (List.mem_filterMap.mpr ⟨e, List.mem_cons_of_mem _ he, q⟩)⟩
/-- the block's names let go: the exception is held over the ground without them -/
theorem held_hide {Z : Obj → Prop} {a L oL : Addr} {B : Heap} {h1 h' : Heap} {oC : Obj} (bC : B.get? C = some oC) (nF : C ∉ frs X.stack) (hh : HandSPX.HeldZ B X.stack a Z L h1) (sb : Heap.SameBut C h1 h') : HandSPX.HeldZ (PySem.W.hideAll B [C]) X.stack a Z L h' := by
  obtain ⟨k1, k2, k3, oe, vs, T, oT, ts, he, hz, hd, e1, hnT, hTe, hT, hdT, h3⟩ := hh
  have aC : a ≠ C := fun z => by rw [z, bC] at k2; cases k2
  have tC : T ≠ C := fun z => by rw [z, bC] at hnT; cases hnT
  have gB : ∀ b o, (PySem.W.hideAll B [C]).get? b = some o → B.get? b = some o ∧ b ≠ C := fun b o e => ⟨PySem.W.of_hideAll _ e, fun z => by
    rw [z, PySem.W.hideAll_none [C] (List.mem_singleton.mpr rfl)] at e; cases e⟩
  have hB : ∀ b, B.get? b = none → (PySem.W.hideAll B [C]).get? b = none := fun b e => by
    cases q : (PySem.W.hideAll B [C]).get? b with
    | none => rfl
    | some o => rw [(gB b o q).1] at e; cases e
  refine ⟨fun b o e => ?_, hB a k2, ?_, oe, vs, T, oT, ts, (sb.2 a aC).trans he, hz, hd, e1, hB T hnT, hTe, (sb.2 T tC).trans hT, hdT, h3⟩
  · obtain ⟨q, bc⟩ := gB b o e
    rw [sb.2 b bc]; exact k1 b o q
  · refine funFrames_none (base := B) ?_ fun b hb => hB b (k3.mem hb).1
    exact frames_same k3 fun b hb => sb.2 b fun z => nF (by rw [← z]; exact hb)
/-- .. and is in X's air -/
theorem xe_out {Wx : WX} {cls : Value} {d : Option Addr} {a : Addr} {B : Heap} {s' : Shared} (I : L2.Inv X pins σ H s) (f : FpOk X pins H C) (hex : X.ex = []) (nb : ∀ b o, s.heap.get? b = some o → b ∉ frs X.stack → B.get? b = some o)
    (up : (PySem.W.hideAll s.heap [C]).UpToSlots s'.heap) (hh : HandSPX.HeldZ (PySem.W.hideAll B [C]) X.stack a (L2N.Zn cls d) X.env.locals s'.heap) (na : H a = none) (os : s'.os = s.os) (ag : AllBare s'.gens) (w : Wx cls d σ H) : L2N.XE X Wx (.ref a) s' := by
  refine ⟨a, PySem.W.hideAll B [C], { s with heap := PySem.W.hideAll s.heap [C] }, pins, σ, H, cls, d, rfl, hide1 I f hex, fun b o e hb => ?_, up, .inr (.inr hh), na, os, ag, w⟩
  have e2 : s.heap.get? b = some o := PySem.W.of_hideAll _ e
  refine PySem.W.hideAll_get _ (nb b o e2 hb) fun z => ?_
  rw [List.mem_singleton.mp z, PySem.W.hideAll_none [C] (List.mem_singleton.mpr rfl)] at e
  cases e
end
end J
namespace J
open PySem L2
/-- the loop of a comprehension whose elements may raise -/
theorem lc_runX {Wz : Value → Option Addr → Hp → Prop} {c : Ct} {own : List Nat} {b : VV → VSt → Option VSt} {fe : EF} {tg : TG} {J : It} {xs : List VV} {ρ : VSt} {σ : St} {g : Gh} {h : VH} {H1 : Hp} {D : Addr} {Q : VK} {K : PySem.W.Frag}
    (ek : c.K = K) (pat : PatOk K tg b own) (dl : Deliv c g H1 xs J) (hsz : xs.length ≤ SZ) (rh : RH c g h H1) (rs : RS c g H1 ρ σ) (hD : H1 D = none)
    (fin : match lcGo b tTrue fe (wp ρ own) xs h with
      | .ok vs h' => ∀ g' H' us, Stp g H1 g' H' → RH c g' h' H' → H' D = some (.lst us) → ¬ g'.fz D → D ∉ g'.io → ¬ g'.kp D → RVs c g'.fz H' vs us → Q (.ref D) H'
      | .exc x ns vs h' => ∀ g' H' C d us, Stp g H1 g' H' → RH c g' h' H' → c.mg x = some (.ref C) → (H' d = some (.xd (ns.zip us)) ∧ ¬ g'.fz d ∧ d ∉ g'.io) → ns.length = us.length → RVs c g'.fz H' vs us → Wz (.ref C) (some d) H'
      | .no => False) :
    ∃ Wv : Nat → Nat → Hp → Prop, (∃ m, Wv 0 m (upd H1 D (.lst []))) ∧ ∀ i m H, Wv i m H →
      (J.stop i H ∧ Q (.ref D) H) ∨ (J.go i H ∧ ∃ Nx : Hp → Prop, (∀ H', Nx H' → ∃ m', m' < m ∧ Wv (i + 1) m' H') ∧ ∀ x H', J.yld i H x H' → tg x (wipe σ own) H' fun σ2 H2 => wipe σ2 own = wipe σ own ∧ tYes σ2 H2 fun bb H3 =>
        if bb = true then tE c (fun a d _ H => Wz a d H) fe σ2 H3 fun y H4 => ∃ acc, H4 D = some (.lst acc) ∧ acc.length < sizeLine ∧ Nx (upd H4 D (.lst (acc ++ [y]))) else Nx H3) := by
  -- the invariant
  let P : Nat → Hp → Prop := fun i H => ∃ (gi : Gh) (hi : VH) (acc : List VV) (us : List V), acc.length ≤ i ∧ Stp g H1 gi H ∧ RH c gi hi H ∧ H D = some (.lst us) ∧ ¬ gi.fz D ∧ D ∉ gi.io ∧ ¬ gi.kp D ∧ RVs c gi.fz H acc us ∧
    (match lcGo b tTrue fe (wp ρ own) (xs.drop i) hi with
      | .ok vs h' => ∀ g' H' us, Stp gi H g' H' → RH c g' h' H' → H' D = some (.lst us) → ¬ g'.fz D → D ∉ g'.io → ¬ g'.kp D → RVs c g'.fz H' (acc ++ vs) us → Q (.ref D) H'
      | .exc x ns vs h' => ∀ g' H' C d us, Stp gi H g' H' → RH c g' h' H' → c.mg x = some (.ref C) → (H' d = some (.xd (ns.zip us)) ∧ ¬ g'.fz d ∧ d ∉ g'.io) → ns.length = us.length → RVs c g'.fz H' vs us → Wz (.ref C) (some d) H'
      | .no => False)
  refine ⟨fun i m H => m = xs.length - i ∧ i ≤ xs.length ∧ P i H, ⟨xs.length, by simp, Nat.zero_le _, ?_⟩, ?_⟩
  · refine ⟨g, h, [], [], Nat.le_refl _, .junk rh hD, rh.junk hD, upd_same, fun z => ?_, fun z => ?_, fun z => ?_, RVs.nil, ?_⟩
    · obtain ⟨o, e⟩ := rh.fz D z; rw [hD] at e; cases e
    · obtain ⟨o, e⟩ := rh.root z; rw [hD] at e; cases e
    · obtain ⟨o, e⟩ := rh.kp D z; rw [hD] at e; cases e
    · rw [List.drop_zero]
      generalize lcGo b tTrue fe (wp ρ own) xs h = r at fin ⊢
      cases r with
      | ok vs h' =>
        intro g' H' us st
        rw [List.nil_append]
        exact fin g' H' us ((Stp.junk rh hD).trans st)
      | no => exact fin
      | exc x ns vs h' => exact fun g' H' C d us st => fin g' H' C d us ((Stp.junk rh hD).trans st)
  · rintro i m H ⟨rfl, hi, gi, hh, acc, us, hacc, st, rhi, hDl, nf, ni, nk, rvs, fin⟩
    by_cases hlt : i < xs.length
    · refine .inr ⟨dl.go gi H st.f i hlt, P (i + 1), fun H' p' => ⟨xs.length - (i + 1), by omega, rfl, hlt, p'⟩, fun x H' y => ?_⟩
      have ed : xs.drop i = xs[i] :: xs.drop (i + 1) := List.drop_eq_getElem_cons hlt
      have rhk : RH c (gi.keep D) hh H := rhi.keep hDl nf ni
      have stk : Stp g H1 (gi.keep D) H := st.trans .keep
      obtain ⟨g1, st1, rh1, rt1⟩ := dl.yld (gi.keep D) H stk.f i xs[i] hh (List.getElem?_eq_getElem hlt) rhk x H' y
      rw [ed] at fin
      unfold lcGo at fin
      cases e : b xs[i] (wp ρ own) with
      | none => rw [e] at fin; exact fin.elim
      | some ρ' =>
        rw [e] at fin
        simp only at fin
        have rs1 : RS c g1 H' (wp ρ own) (wipe σ own) := ((rs.wipe own).stp stk).stp st1
        refine pat.run c g1 hh H' _ _ _ _ ρ' ek rh1 rs1 rt1 e _ fun σ2 rs2 o2 l2 => ⟨?_, ?_⟩
        · refine wipe_same (l2.trans (wipe_length _ _)) fun j hj => (o2 j hj).trans (wipe_out hj)
        · refine Eq.mpr (if_pos (e := P (i + 1) H') (rfl : true = true)) ?_
          obtain ⟨H2, eH2⟩ : ∃ H2, H2 = H' := ⟨_, rfl⟩
          subst eH2
          have st2 : Stp g1 H2 g1 H2 := .refl
          have rh2 := rh1
          have fin : match (Res.ok true hh : Res Bool).bind (fun k h1 => if k = true then (fe ρ' h1).bind fun v h2 => if v.isObj = true then .no else (lcGo b tTrue fe (wp ρ own) (xs.drop (i + 1)) h2).bind fun vs h3 => .ok (v :: vs) h3 else lcGo b tTrue fe (wp ρ own) (xs.drop (i + 1)) h1) with
            | .ok vs h' => ∀ g' H' us, Stp gi H g' H' → RH c g' h' H' → H' D = some (.lst us) → ¬ g'.fz D → D ∉ g'.io → ¬ g'.kp D → RVs c g'.fz H' (acc ++ vs) us → Q (.ref D) H'
            | .exc x ns vs h' => ∀ g' H' C d us, Stp gi H g' H' → RH c g' h' H' → c.mg x = some (.ref C) → (H' d = some (.xd (ns.zip us)) ∧ ¬ g'.fz d ∧ d ∉ g'.io) → ns.length = us.length → RVs c g'.fz H' vs us → Wz (.ref C) (some d) H'
            | .no => False := fin
          have hD2 : H2 D = some (.lst us) := by rw [st1.kH D (.inr rfl)]; exact hDl
          have kD2 : g1.kp D := st1.kp D (.inr rfl)
          have s12 : Stp (gi.keep D) H g1 H2 := st1
          refine ⟨g1, ρ', hh, rh2, rs2.stp st2, ?_⟩
          simp only [Res.bind, if_pos rfl] at fin
          cases ee : fe ρ' hh with
          | no => rw [ee] at fin; exact fin.elim
          | exc x ns vs h2 =>
            rw [ee] at fin
            exact fun g3 H3 C d us st3 => fin g3 H3 C d us ((Stp.keep.trans s12).trans st3)
          | ok v h2 =>
            rw [ee] at fin
            simp only at fin
            intro g3 H3 yv st3 rh3 rv3
            have s13 : Stp (gi.keep D) H g3 H3 := s12.trans st3
            have kD3 : g3.kp D := st3.kp D kD2
            have hD3 : H3 D = some (.lst us) := by rw [st3.kH D kD2]; exact hD2
            have rvs3 : RVs c g3.fz H3 acc us := s13.rvs (show RVs c (gi.keep D).fz H acc us from rvs)
            have nf3 := (rh3.kd D kD3).1
            have ni3 := (rh3.kd D kD3).2
            refine ⟨us, hD3, by rw [← rvs.len]; exact SZ_lt (by omega), ?_⟩
            cases ov : v.isObj with
            | true => rw [ov] at fin; simp at fin
            | false =>
              simp only [ov, if_neg Bool.false_ne_true] at fin
              -- write D
              have sw : Stp (g3.back gi.kp) H3 (g3.back gi.kp) (upd H3 D (.lst (us ++ [yv]))) := Stp.wr (c := c) (g := g3.back gi.kp) nf3 nk (fun ys z => by rw [hD3] at z; cases z)
              have rhb : RH c (g3.back gi.kp) h2 H3 := rh3.back (fun p z => s13.kp p (.inl z))
              have rhw : RH c (g3.back gi.kp) h2 (upd H3 D (.lst (us ++ [yv]))) := by
                refine ⟨rhb.len, rhb.nd, fun n o a q1 q2 => ?_, fun q z => ?_, fun q z => ?_, rhb.kd, rhb.tb.upd (by rw [hD3]; exact noTab_of (fun _ z => by cases z) (fun _ z => by cases z)), fun q z ps y => rhb.nt q z ps (by rw [upd_ne (show q ≠ D from fun e => z.elim (fun z => nf3 (e ▸ z)) (fun z => nk (e ▸ z)))] at y; exact y)⟩
                · have na : a ≠ D := fun z => ni3 (z ▸ List.mem_of_getElem? q2)
                  exact RO.stp sw (fun h => h) (upd_ne na) (rhb.at' n o a q1 q2)
                · rw [upd_ne (show q ≠ D from fun e => nf3 (e ▸ z))]; exact rhb.fz q z
                · rw [upd_ne (show q ≠ D from fun e => nk (e ▸ z))]; exact rhb.kp q z
              refine ⟨g3.back gi.kp, h2, acc ++ [v], us ++ [yv], by rw [List.length_append]; simp; omega, (st.trans s13.back).trans sw, rhw, upd_same, nf3, ni3, nk, ?_, ?_⟩
              · exact sw.rvs (RVs.app (RVs.gback rvs3) (RVs.one (rv3.rv ov)))
              · generalize lcGo b tTrue fe (wp ρ own) (xs.drop (i + 1)) h2 = r at fin ⊢
                cases r with
                | ok vs h' =>
                  intro g' H' us' st' rh' d1 d2 d3 d4 rv'
                  rw [List.append_assoc] at rv'
                  exact fin g' H' us' ((s13.back.trans sw).trans st') rh' d1 d2 d3 d4 rv'
                | no => exact fin
                | exc x ns vs h' => exact fun g' H' C d us st' => fin g' H' C d us ((s13.back.trans sw).trans st')
    · have e : i = xs.length := by omega
      subst e
      refine .inl ⟨dl.stop gi H st.f _ (Nat.le_refl _), ?_⟩
      rw [List.drop_length] at fin
      unfold lcGo at fin
      refine fin gi H us .refl rhi hDl nf ni nk ?_
      rw [List.append_nil]; exact rvs
end J
namespace PySem
section
variable {M : Model} {A : Around} {E : Value → Shared → Prop} {s : Shared} {env : Env}
/-- what is left of a comprehension's block: the new list (bound on the way, where the statement does so) -/
def lcOk (M : Model) (A : Around) (E : Value → Shared → Prop) (use : Option (Value → Sem Unit)) (Q : Value → Shared → Prop) (acc : Value) (C : Addr) (s' : Shared) : Prop :=
  match use with
  | none => ∃ m, s'.heap.Ns C m ∧ ∀ h', Heap.SameBut C s'.heap h' → Q acc { s' with heap := h' }
  | some u => wpAny M A (u acc) (fun _ s2 => ∃ m, s2.heap.Ns C m ∧ ∀ h', Heap.SameBut C s2.heap h' → Q .none { s2 with heap := h' }) E s'
/-- .. or an exception that goes on from the block's own environment -/
def lcPost (M : Model) (A : Around) (E : Value → Shared → Prop) (use : Option (Value → Sem Unit)) (Q : Value → Shared → Prop) (acc : Value) (cenv : Env) : Result → Shared → Prop
  | .ok _, s' => lcOk M A E use Q acc cenv.locals s'
  | .error x, s' => ∃ m, s'.heap.Ns cenv.locals m ∧ ∀ h', Heap.SameBut cenv.locals s'.heap h' → wpAny M A (passOn "comprehension.variables-let-go" x cenv : Sem Value) (fun _ _ => False) E { s' with heap := h' }
theorem comp_raises {e : Expr} {scope : Scope} {pos : Pos} {newAcc first : Sem Value} {g : Comprehension} {gs : List Comprehension} {cl : List (Str × Addr)} {use : Option (Value → Sem Unit)} {Q : Value → Shared → Prop}
    (hcl : clausesOf e = g :: gs) (hs : ∀ x, foldedSetIterable g.iter env x = pure x) (hclos : closureFor scope env = pure cl) (hkind : scope.kind = .function) (hnames : ∀ x ∈ scope.names, x.2 = .local → scope.names.lookup x.1 = some .local)
    (h : wpAny M A first (fun x s₁ => wpAny M A (pyIter x) (fun it s₂ => wpAny M A newAcc (fun acc s₃ => wpAny M A (newFunctionEnv scope env.globals cl [] env.qual none .none (some env)) (fun cenv s₄ =>
      codeAny M A (.compStart e 0 it acc { cenv with scope := relabel scope env }) (lcPost M A E use Q acc { cenv with scope := relabel scope env }) s₄) E s₃) E s₂) E s₁) E s) :
    wpAny M A (comprehension e scope env pos newAcc false first use) Q E s := by
  unfold comprehension
  rw [hclos, hcl]
  refine wpAny_bind (wpAny_mono h (fun x s₁ q1 => wpAny_bind (wpAny_standAt (wpAny_bind (wpAny_of_eq (hs x) ?_)))) fun _ _ z => z)
  refine wpAny_bind (wpAny_holding (wpAny_mono q1 (fun it s₂ q2 => wpAny_standIf (wpAny_bind (wpAny_mono q2 (fun acc s₃ q3 => wpAny_bind (wpAny_pure ?_)) fun _ _ z => z))) fun _ _ z => z))
  refine wpAny_bind (wpAny_mono q3 (fun cenv s₄ q4 => ?_) fun _ _ z => z)
  dsimp only
  have own : ∀ x ∈ (scope.names.filter fun x => (x.2 == .local || x.2 == .cell) && x.1 != (".0" : Str)).reverse, x.2 = .local → Env.kindOf { cenv with scope := relabel scope env } x.1 = some .local :=
    fun x hx hl => lookup_relabel_local (hnames x (List.mem_filter.mp (List.mem_reverse.mp hx)).1 hl)
  refine wpAny_holding (wpAny_bind (wpAny_attempt (wpAny_holding (wpAny_run (codeAny_mono q4 fun r s' hr => ?_)))))
  cases r with
  | ok f =>
    cases use with
    | none =>
      obtain ⟨m, hn, hr⟩ := hr
      exact wpAny_bind (wpAny_holding (wpAny_comp_letGo (cenv := { cenv with scope := relabel scope env }) hkind _ s' m own hn fun h' _ _ q => wpAny_pure (hr h' q)))
    | some u =>
      have own2 : ∀ x ∈ (scope.names.filter fun x => (x.2 == .local || x.2 == .cell) && x.1 != (".0" : Str)).reverse.drop 1 ++ (scope.names.filter fun x => (x.2 == .local || x.2 == .cell) && x.1 != (".0" : Str)).reverse.take 1,
          x.2 = .local → Env.kindOf { cenv with scope := relabel scope env } x.1 = some .local := fun x hx hl =>
        own x ((List.mem_append.mp hx).elim List.mem_of_mem_drop List.mem_of_mem_take) hl
      refine wpAny_bind (wpAny_rule (wpAny_bind (wpAny_holding (wpAny_mono hr (fun _ s2 hr' => ?_) fun _ _ z => z))))
      obtain ⟨m, hn, hr'⟩ := hr'
      exact wpAny_bind (wpAny_comp_letGo (cenv := { cenv with scope := relabel scope env }) hkind _ s2 m own2 hn fun h' _ _ q => wpAny_pure (hr' h' q))
  | error x =>
    obtain ⟨m, hn, hr⟩ := hr
    exact wpAny_bind (wpAny_holding (wpAny_comp_letGo (cenv := { cenv with scope := relabel scope env }) hkind _ s' m own hn fun h' _ _ q => wpAny_mono (hr h' q) (fun _ _ f => f.elim) fun _ _ y => y))
end
end PySem
namespace J
open PySem PySem.Spec PyProof.Rows L2
/-- the block of a comprehension, an exception in its air -/
abbrev blkW (X : Cx) (s : Shared) (H : Hp) (scope : Scope) (cenv : Env) (fp : List Addr) (W : WX) : Cx := (X.blk s H scope cenv fp).wish fun u s' => L2N.XE (X.blk s H scope cenv fp) W u s'
theorem takes_blk {X : Cx} {s : Shared} {H : Hp} {scope : Scope} {cenv : Env} {fp : List Addr} {W : WX} : L2N.Takes (blkW X s H scope cenv fp W) W := fun u s' x => by
  obtain ⟨a, B, sI, pins, σ, H', cls, d, e, I, r⟩ := x
  exact ⟨a, B, sI, pins, σ, H', cls, d, e, I.unwish, r⟩
section
variable {X : Cx}
theorem lc_coreX {pins : List (Addr × Obj)} {s : Shared} {σ : L2.St} {H : Hp} {Q : VK} {elt tg iter : Expr} {scope : Scope} {own : List (Str × Nat)} {pos pos' : Pos} {wi : TI} {g : TG} {te : WX → TE} {Wx : WX} {use : Option (Value → Sem Unit)} {Qf : Value → Shared → Prop}
    (hst : X.stack = X.env :: X.outer) (hfe : X.env.frame = some X.env.locals) (hex : X.ex = []) (tk : L2N.Takes X Wx)
    (hc : X.calm = true) (hN : X.N.Nodup) (I : L2.Inv X pins σ H s) (hi : PI X tg iter wi) (ok : BlkOk X.N X.env.scope scope own)
    (hg : ∀ (s : Shared) (H : Hp) (C : Addr) (cl : List (Str × Addr)) (fp : List Addr), PG (X.blk s H scope (compEnvC scope cl C X.env) fp) tg g)
    (he : ∀ (W : WX) (s : Shared) (H : Hp) (C : Addr) (cl : List (Str × Addr)) (fp : List Addr), PE (blkW X s H scope (compEnvC scope cl C X.env) fp W) elt (te W)) (hs : ∀ x, foldedSetIterable iter X.env x = pure x)
    (h : tLc wi g tYes (te fun cls d _ H => Wx cls d σ H) (own.map (·.2)) σ H Q)
    (hRR : ∀ D C s' m H', L2.Inv X pins σ H' s' → Q (.ref D) H' → s'.heap.Ns C m → FpOk X pins H' C → lcOk (model X.prog X.w) X.A X.xe use Qf (.ref D) C s') :
    wpAny (model X.prog X.w) X.A (comprehension (.ListComp elt [⟨tg, iter, [], 0⟩] scope pos) scope X.env pos' (newList []) false (eval iter X.env) use) Qf X.xe s := by
  have hfree : ∀ y ∈ scope.names, y.2 = .free → ∃ c, X.env.cells.lookup y.1 = some c := fun y hy e => (ok.free y hy e).elim (fun k => I.ok.has _ (.inl k)) fun k => I.ok.has _ (.inr k)
  refine comp_raises rfl hs (closure_ok hfree) ok.kind (fun y hy e => by rw [ok.uniq y hy, e]) (thn (hi.run pins s σ H _ I h) fun xv s1 hx => thn hx fun itv s2 h2 => ?_)
  obtain ⟨it, fp, tn, J, H2, e, I2, T, st2, f2, q⟩ := h2
  subst e
  refine wpAny_newObj_type (newEnv_comp ?_) (by show 0 ≤ sizeLine; decide)
  generalize hD : s2.heap.objs.size = D
  have hDn : H2 D = none := I2.hok.fresh (Nat.le_of_eq hD)
  obtain ⟨Wk, ⟨m0, w0⟩, turn⟩ := q D hDn
  generalize hs3 : ({ s2 with heap := s2.heap.push { cls := .type "list", data := .seq ([] : List Value).toArray } } : Shared) = s3
  have h3 : s3.heap = s2.heap.push { cls := .type "list", data := .seq ([] : List Value).toArray } := by rw [← hs3]
  have I3 : L2.Inv X pins σ (upd H2 D (.lst [])) s3 := by
    rw [← hs3]
    refine I2.laid (t' := s2.toks) (fun b o e => Heap.get?_push_of_some _ e) (Nat.le_of_eq hD) ⟨Nat.zero_le _, [], 0, .nil, ?_⟩
    rw [← hD]
    exact Heap.get?_push_size _ rfl
  have f3 : ∀ b ∈ fp, FpOk X pins (upd H2 D (.lst [])) b ∧ b < s3.heap.objs.size := fun b hb => by
    obtain ⟨o, e, _⟩ := T.obj _ _ st2 b hb
    have hlt := Heap.lt_size e
    refine ⟨⟨?_, (f2 b hb).2⟩, by rw [h3, Heap.size_push]; exact Nat.lt_succ_of_lt hlt⟩
    rw [upd_ne (by rw [← hD]; exact Nat.ne_of_lt hlt)]
    exact (f2 b hb).1
  have st3 : tn 0 s3.heap := T.keep _ _ _ st2 fun b _ o e => by rw [h3]; exact Heap.get?_push_of_some _ e
  have I4 := block_start I3 ok hN f3
  have pg := hg s3 (upd H2 D (.lst [])) s3.heap.objs.size (cellsFrom (s3.heap.objs.size + 1) scope.names (cloFrom X.env.cells scope.names [])) fp
  have pe := he (fun cls d _ H => Wx cls d σ H) s3 (upd H2 D (.lst [])) s3.heap.objs.size (cellsFrom (s3.heap.objs.size + 1) scope.names (cloFrom X.env.cells scope.names [])) fp
  show codeAny _ _ (.compStart (.ListComp elt [⟨tg, iter, [], 0⟩] scope pos) 0 (.ref it) (.ref D) (compEnvC scope (cellsFrom (s3.heap.objs.size + 1) scope.names (cloFrom X.env.cells scope.names [])) s3.heap.objs.size X.env))
    (lcPost (model X.prog X.w) X.A X.xe use Qf (.ref D) (compEnvC scope (cellsFrom (s3.heap.objs.size + 1) scope.names (cloFrom X.env.cells scope.names [])) s3.heap.objs.size X.env)) { s3 with heap := pushCells (s3.heap.push { cls := .type "dict", data := .dict #[] }) scope.names }
  have nfp : ∀ b ∈ fp, (upd H2 D (.lst [])) b = none := fun b hb => (f3 b hb).1.1
  generalize hce : compEnvC scope (cellsFrom (s3.heap.objs.size + 1) scope.names (cloFrom X.env.cells scope.names [])) s3.heap.objs.size X.env = ce at I4 pg pe ⊢
  have cL : ce.locals = s3.heap.objs.size := by subst hce; rfl
  have cF : ce.frame = X.env.frame := by subst hce; rfl
  generalize hH3 : upd H2 D (.lst []) = H3 at I3 I4 pg pe w0 nfp f3
  generalize hs4 : ({ s3 with heap := pushCells (s3.heap.push { cls := .type "dict", data := .dict #[] }) scope.names } : Shared) = s4 at I4 ⊢
  have st4 : tn 0 s4.heap := T.keep _ _ _ st3 fun b _ o e => by rw [← hs4]; exact pushCells_keeps _ _ _ _ (Heap.get?_push_of_some _ e)
  have stat : ∀ {σ' : L2.St} {H' : Hp} {s' : Shared}, L2.Inv (X.blk s3 H3 scope ce fp) [] σ' H' s' → (∀ b ∈ fp, H' b = none) → ∀ b ∈ fp, FpOk (X.blk s3 H3 scope ce fp) [] H' b := fun {σ' H' s'} I' hn b hb =>
    ⟨hn b hb, (I'.ok.exf b hb).1, I'.ok.exfs b hb, .inl hb, fun x c e => (I'.ok.exf b hb).2 x c e, fun p hp => absurd (show p ∈ ([] : List (Addr × Obj)) ++ [] from hp) (by simp)⟩
  -- the def's context again
  have home : ∀ {pI : List (Addr × Obj)} {σI : L2.St} {H' : Hp} {s' : Shared}, L2.Inv (X.blk s3 H3 scope ce fp) pI σI H' s' → L2.Inv X pins σ H' s' ∧ FpOk X pins H' ce.locals ∧ ∃ m, s'.heap.Ns ce.locals m := fun {pI σI H' s'} I' => by
    have Ix : L2.Inv X pins σ H' s' := I3.call' (ch := fp) I'.os I'.base I'.hok I'.bare fun b hb => ⟨(f3 b hb).1.2.2.2.1, (f3 b hb).1.2.1, (f3 b hb).1.2.2.2.2.1, (f3 b hb).1.2.2.2.2.2⟩
    have nC : H' ce.locals = none := I'.free
    obtain ⟨m, hn, _⟩ := I'.loc
    exact ⟨Ix, by rw [cL] at nC ⊢; exact I3.fpOk (Nat.le_refl _) nC, m, hn⟩
  -- an exception's way out
  have out : ∀ u s', L2N.XE (X.blk s3 H3 scope ce fp) (fun cls d _ H => Wx cls d σ H) u s' → notedBy (model X.prog X.w) X.A ce (fun x s2 => lcPost (model X.prog X.w) X.A X.xe use Qf (.ref D) ce (.error x) s2) u s' := fun u s' x => by
    obtain ⟨a, B, sI, pI, σI, HI, cls, d, rfl, IB, nb, up, sky, na, os, ag, w⟩ := x
    obtain ⟨Ix, fC, m, hm⟩ := home IB
    have hC : ∃ o, sI.heap.get? ce.locals = some o := by obtain ⟨o, _, _, eo, _⟩ := hm; exact ⟨o, eo⟩
    have hfr : X.A.frames = some (X.env :: X.outer) := by rw [Ix.ok.frames, hst]
    have ne : ce.locals ≠ X.env.locals := fC.2.1
    have sky' : Sky B (X.env :: X.outer) a (L2N.Zn cls d) ce.locals s'.heap := by rw [← hst]; exact sky
    have fin : ∀ h1, HandSPX.HeldZ B (X.env :: X.outer) a (L2N.Zn cls d) X.env.locals h1 → s'.heap.UpToSlots h1 → lcPost (model X.prog X.w) X.A X.xe use Qf (.ref D) ce (.error (.ref a)) { s' with heap := h1 } := fun h1 hh u1 => by
      obtain ⟨o, es, ep, eo, ed, r⟩ := hm
      obtain ⟨sl, e1⟩ := (up.trans u1) _ o eo (fun vs z => by rw [ed] at z; cases z)
      refine ⟨m, ⟨_, es, ep, e1, ed, r⟩, fun h2 sb => ?_⟩
      have nF : ce.locals ∉ frs X.stack := fun z => (List.mem_cons.mp (Ix.stkSub _ z)).elim ne fC.2.2.1
      have bC : B.get? ce.locals = some o := nb _ o eo nF
      have hh' : HandSPX.HeldZ B X.stack a (L2N.Zn cls d) X.env.locals h1 := by rw [hst]; exact hh
      have hd2 := held_hide (oL := 0) bC nF hh' sb
      rw [XLc.pass_frame (e2 := X.env) cF]
      unfold PySem.passOn
      rw [hfe]
      obtain ⟨_, _, _, oe, vs, Tb, oT, ts, g1, _, g3, g4, _⟩ := id hd2
      refine wpAny_bind (wpAny_field (s := { s' with heap := h2 }) g1 g3 g4 ?_)
      rw [if_neg (by simp)]
      refine wpAny_bind (HandSPX.setFlight_onZ (s := { s' with heap := h2 }) hd2 fun h3 hd3 u3 => wpAny_throw ?_)
      refine tk _ _ (xe_out Ix fC hex nb (fun b ob e hnf => ?_) hd3 na os ag w)
      have e2 : sI.heap.get? b = some ob := PySem.W.of_hideAll _ e
      have bc : b ≠ ce.locals := fun z => by rw [z, PySem.W.hideAll_none [ce.locals] (List.mem_singleton.mpr rfl)] at e; cases e
      obtain ⟨sl1, q1⟩ := (up.trans u1) b ob e2 hnf
      obtain ⟨sl3, q3⟩ := u3 b _ ((sb.2 b bc).trans q1) hnf
      exact ⟨sl3, q3⟩
    show wpAny (model X.prog X.w) X.A (noteFrame (.ref a) ce) _ _ s'
    rw [XLc.note_frame (e2 := X.env) cF]
    rcases sky' with ⟨hB, hn, hl, oe, vs, he', hz, hd, h1⟩ | fl | hh
    · exact PXN.look_newZ L2N.Zn.steady hfr hl hfe he' hB hn hd h1 hz fin
    · exact PXN.looks_onZ L2N.Zn.steady hfr hfe fl fin
    · exact XLc.looks_elsewhere L2N.Zn.steady hfr hfe ne hh fin
  have loop : codeAny (model X.prog X.w) X.A (.compLoop (.ListComp elt [⟨tg, iter, [], 0⟩] scope pos) 0 (.ref it) (.ref D) ce) (lcPost (model X.prog X.w) X.A X.xe use Qf (.ref D) ce) s4 := by
    refine compLoop_any (fun n s' => ∃ i H', L2.Inv (X.blk s3 H3 scope ce fp) [] (wipe σ (own.map (·.2))) H' s' ∧ tn i s'.heap ∧ (∀ b ∈ fp, H' b = none) ∧ Wk i n H') ?_ m0 ⟨0, H3, I4, st4, nfp, w0⟩
    rintro n s5 ⟨i, H5, I5, st5, n5, w5⟩
    rcases turn i n H5 w5 with ⟨stop, qq⟩ | ⟨go, Nx, hNx, step⟩
    · refine thnF (T.done (X.blk s3 H3 scope ce fp) rfl rfl rfl hc i [] s5 _ H5 (fun _ _ => False) I5 (stat I5 n5) st5 stop) fun r s6 ⟨hr, I6⟩ => ?_
      subst hr
      obtain ⟨I7, fC, m, hn⟩ := home I6
      exact hRR D _ s6 m H5 I7 qq hn fC
    · refine thnF (T.item (X.blk s3 H3 scope ce fp) rfl rfl rfl hc i [] s5 _ H5 (fun _ _ => False) I5 (stat I5 n5) st5 go) fun r s6 ⟨u, hr, h6⟩ => ?_
      subst hr
      refine thnF h6 fun _ s7 ⟨x, H7, I7, r7, y7, st7, n7⟩ => ?_
      refine thnF (pg.run _ s7 _ H7 x u _ (I7.pinned (stat I7 n7) (T.obj _ _ st7)) r7 (step x H7 y7)) fun _ s8 ⟨σ8, H8, I8, hw8, q8⟩ => ?_
      refine thnF ((pts_nil (X := X.blk s3 H3 scope ce fp)).run _ s8 σ8 H8 _ I8 q8) fun b s9 ⟨H9, I9, q9⟩ => ?_
      have fin : ∀ {s' : Shared} {H' : Hp}, L2.Inv (X.blk s3 H3 scope ce fp) ([] ++ pinsAt fp s7.heap) σ8 H' s' → Nx H' → ∃ m, m < n ∧ ∃ i H', L2.Inv (X.blk s3 H3 scope ce fp) [] (wipe σ (own.map (·.2))) H' s' ∧ tn i s'.heap ∧ (∀ b ∈ fp, H' b = none) ∧ Wk i m H' := fun {s' H'} I' nx => by
        obtain ⟨m', hm, w'⟩ := hNx H' nx
        have still : ∀ b ∈ fp, ∀ o, s7.heap.get? b = some o → s'.heap.get? b = some o ∧ H' b = none := fun b hb o e =>
          let z := I'.pin (b, o) (List.mem_append_right _ (List.mem_append_right _ (mem_pinsAt hb e)))
          ⟨z.1, z.2.1⟩
        refine ⟨m', hm, i + 1, H', (I'.unpinned (pins := [])).weak (by rw [← hw8, wipe_length]) (fun j v e => ?_), T.keep _ _ _ st7 fun b hb o e => (still b hb o e).1, fun b hb => ?_, w'⟩
        · rw [← hw8] at e
          exact (wipe_some e).1
        · obtain ⟨o, e, _⟩ := T.obj _ _ st7 b hb
          exact (still b hb o e).2
      cases b with
      | false =>
        simp only [Bool.false_eq_true, if_false] at q9 ⊢
        exact fin I9 q9
      | true =>
        simp only [if_true] at q9 ⊢
        refine wpAny_mono (pe.run _ s9 σ8 H9 _ (I9.wish _) q9) (fun z s10 ⟨yv, H10, I10, r10, acc, hD10, hz10, nx⟩ => ?_) fun u s' x => out u s' x
        exact app_ok (X := X.blk s3 H3 scope ce fp) I10.unwish hD10 hz10 r10 fun s11 I11 => fin I11 nx
  exact codeAny_compStart_list loop (T.self X.A 0 _ _ _ st4 loop)
theorem pe_lcX {elt tg iter : Expr} {scope : Scope} {own : List (Str × Nat)} {pos : Pos} {wi : TI} {g : TG} {te : WX → TE} {Wx : WX} (hst : X.stack = X.env :: X.outer) (hfe : X.env.frame = some X.env.locals) (hex : X.ex = []) (tk : L2N.Takes X Wx)
    (hc : X.calm = true) (hN : X.N.Nodup) (hi : PI X tg iter wi) (ok : BlkOk X.N X.env.scope scope own) (hg : ∀ (s : Shared) (H : Hp) (C : Addr) (cl : List (Str × Addr)) (fp : List Addr), PG (X.blk s H scope (compEnvC scope cl C X.env) fp) tg g)
    (he : ∀ (W : WX) (s : Shared) (H : Hp) (C : Addr) (cl : List (Str × Addr)) (fp : List Addr), PE (blkW X s H scope (compEnvC scope cl C X.env) fp W) elt (te W)) (hs : ∀ x, foldedSetIterable iter X.env x = pure x := by intro _; rfl) :
    PE X (.ListComp elt [⟨tg, iter, [], 0⟩] scope pos) (fun σ H Q => tLc wi g tYes (te fun cls d _ H => Wx cls d σ H) (own.map (·.2)) σ H Q) := by
  refine ⟨fun pins s σ H Q I h => ?_⟩
  rw [eval_ListComp]
  refine lc_coreX (use := none) (Qf := EP X pins σ Q) hst hfe hex tk hc hN I hi ok hg he hs h fun D C s' m H' I' q hn f => ?_
  obtain ⟨f0, f1, f2, f3, f4, f5⟩ := f
  exact ⟨m, hn, fun h'' sb => ⟨.ref D, H', I'.turned (t' := s'.toks) (fun b o hb e => (sb.2 b hb).trans e) f0 f1 f3 f4 f5, rfl, q⟩⟩
/-- name = [..], e may raise -/
theorem ps_setLcX {i : Nat} {y : Str} {py : Pos} {elt tg iter : Expr} {scope : Scope} {own : List (Str × Nat)} {pos spos : Pos} {wi : TI} {g : TG} {te : WX → TE} {Wx : WX} (hst : X.stack = X.env :: X.outer) (hfe : X.env.frame = some X.env.locals) (hex : X.ex = []) (tk : L2N.Takes X Wx)
    (hc : X.calm = true) (hN : X.N.Nodup) (hy : X.N[i]? = some y) (hyl : X.env.scope.names.lookup y = some .local) (hsw : swapsWith (.ListComp elt [⟨tg, iter, [], 0⟩] scope pos) (some (.Name y py)) spos.line X.env = pure true)
    (hi : PI X tg iter wi) (ok : BlkOk X.N X.env.scope scope own) (hg : ∀ (s : Shared) (H : Hp) (C : Addr) (cl : List (Str × Addr)) (fp : List Addr), PG (X.blk s H scope (compEnvC scope cl C X.env) fp) tg g)
    (he : ∀ (W : WX) (s : Shared) (H : Hp) (C : Addr) (cl : List (Str × Addr)) (fp : List Addr), PE (blkW X s H scope (compEnvC scope cl C X.env) fp W) elt (te W)) (hs : ∀ x, foldedSetIterable iter X.env x = pure x := by intro _; rfl) :
    PS X (.Assign [.Name y py] (.ListComp elt [⟨tg, iter, [], 0⟩] scope pos) spos) (tAsg (fun σ H Q => tLc wi g tYes (te fun cls d _ H => Wx cls d σ H) (own.map (·.2)) σ H Q) (gName i)) := by
  refine ⟨fun pins s σ H D I h => ?_⟩
  rw [exec_Assign_Name_used _ _ _ _ hsw]
  refine wpAny_bind (wpAny_standAt (wpAny_bind ?_))
  show wpAny _ X.A (do let _ ← comprehension (.ListComp elt [⟨tg, iter, [], 0⟩] scope pos) scope X.env (firstIterPos [⟨tg, iter, [], 0⟩] pos) (newList []) false (eval iter X.env) (some (assign (.Name y py) X.env))) _ _ s
  have h : tLc wi g tYes (te fun cls d _ H => Wx cls d σ H) (own.map (·.2)) σ H (fun x H1 => gName i x σ H1 D.nx) := h
  refine wpAny_bind (thn (lc_coreX (use := some (assign (.Name y py) X.env)) (Qf := fun _ s' => SP X pins D .next s') hst hfe hex tk hc hN I hi ok hg he hs h fun L C s' m H' I' q hn f => ?_) fun _ s' hq => wpAny_pure (wpAny_pure hq))
  show wpAny _ _ (assign (.Name y py) X.env (.ref L)) _ _ _
  refine wpAny_assign_Name (store_ok2 (v := V.ref L) I' hN hy (.inl hyl) rfl (fun s2 I2 ⟨a, sb, ha⟩ => ?_) (.inr hyl))
  obtain ⟨f0, f1, f2, f3, f4, f5⟩ := f
  have apart : C ≠ a := ha.elim (fun z => z ▸ f1) fun z => fun e => f4 y a z e.symm
  exact ⟨m, hn.sameBut sb apart, fun h3 sb3 => ⟨_, H', I2.turned (t' := s2.toks) (fun b o hb e => (sb3.2 b hb).trans e) f0 f1 f3 f4 f5, q⟩⟩
end
end J
namespace J
open PySem L2
/-! [e for x in xs], e may raise -/
def eLcX (own : List Nat) (it : AF) (b : VV → VSt → Option VSt) (e : EF) : EF := fun ρ h => (it ρ h).bind fun xs h1 => if xs.length > SZ then .no else (lcGo b tTrue e (wp ρ own) xs h1).bind fun vs h2 => .ok (.lst vs) h2
section
variable {X : Cx} {W : WX}
theorem tLcX_of {own : List Nat} {it : AF} {b : VV → VSt → Option VSt} {fe : EF} {tg : TG} (pat : PatOk X.K tg b own) {σ : St} {H : Hp} {Q : VK} (h : tE (ct X) W (eLcX own it b fe) σ H Q) :
    tLc (tI (ct X) W it) tg tYes (tE (ct X) (fun cls d _ H => W cls d σ H) fe) own σ H Q := by
  obtain ⟨g, ρ, h0, rh, rs, p⟩ := tG.bind (R := fun g H xs J => Deliv (ct X) g H xs J) (f := it) (k := fun (xs : List VV) ρ h1 => if xs.length > SZ then .no else (lcGo b tTrue fe (wp ρ own) xs h1).bind fun vs h2 => .ok (VV.lst vs) h2) h
  refine ⟨g, ρ, h0, rh, rs, p.imp fun J H1 ⟨g1, ρ1, xs, h1, rh1, rs1, dl, p1⟩ D hD => ?_⟩
  by_cases hz : xs.length > SZ
  · rw [if_pos hz] at p1; exact p1.elim
  · rw [if_neg hz] at p1
    refine lc_runX (Wz := fun cls d H => W cls d σ H) rfl pat dl (by omega) rh1 rs1 hD ?_
    generalize lcGo b tTrue fe (wp ρ1 own) xs h1 = r at p1 ⊢
    cases r with
    | ok vs h' => exact fun g' H' us st rh' d1 d2 d3 d4 rv' => mk_lst (W := W) g' h' H' D vs us σ Q rh' d1 d2 d3 d4 rv' (Pst.step st p1)
    | no => exact p1
    | exc x ns vs h' => exact p1
theorem j_lcX {elt tg iter : Expr} {scope : Scope} {own : List (Str × Nat)} {pos : Pos} {it : AF} {g : TG} {b : VV → VSt → Option VSt} {fe : EF} (tk : L2N.Takes X W) (hc : X.calm = true) (hN : X.N.Nodup) (hi : PI X tg iter (tI (ct X) W it)) (ok : BlkOk X.N X.env.scope scope own)
    (hg : ∀ (s : Shared) (H : Hp) (C : Addr) (cl : List (Str × Addr)) (fp : List Addr), PG (X.blk s H scope (compEnvC scope cl C X.env) fp) tg g) (pat : PatOk X.K g b (own.map (·.2)))
    (he : ∀ (W : WX) (s : Shared) (H : Hp) (C : Addr) (cl : List (Str × Addr)) (fp : List Addr), PE (blkW X s H scope (compEnvC scope cl C X.env) fp W) elt (tE (ct X) W fe)) (hst : X.stack = X.env :: X.outer := by rfl) (hfe : X.env.frame = some X.env.locals := by rfl) (hex : X.ex = [] := by rfl)
    (hs : ∀ x, foldedSetIterable iter X.env x = pure x := by intro _; rfl) :
    PE X (.ListComp elt [⟨tg, iter, [], 0⟩] scope pos) (tE (ct X) W (eLcX (own.map (·.2)) it b fe)) :=
  PE.mono (pe_lcX hst hfe hex tk hc hN hi ok hg he hs) fun σ H Q h => tLcX_of pat h
theorem js_setLcX {i : Nat} {y : Str} {py : Pos} {elt tg iter : Expr} {scope : Scope} {own : List (Str × Nat)} {pos spos : Pos} {it : AF} {g : TG} {b : VV → VSt → Option VSt} {fe : EF} (tk : L2N.Takes X W) (hc : X.calm = true) (hN : X.N.Nodup) (hy : X.N[i]? = some y) (hyl : X.env.scope.names.lookup y = some .local)
    (hsw : swapsWith (.ListComp elt [⟨tg, iter, [], 0⟩] scope pos) (some (.Name y py)) spos.line X.env = pure true) (hi : PI X tg iter (tI (ct X) W it)) (ok : BlkOk X.N X.env.scope scope own)
    (hg : ∀ (s : Shared) (H : Hp) (C : Addr) (cl : List (Str × Addr)) (fp : List Addr), PG (X.blk s H scope (compEnvC scope cl C X.env) fp) tg g) (pat : PatOk X.K g b (own.map (·.2)))
    (he : ∀ (W : WX) (s : Shared) (H : Hp) (C : Addr) (cl : List (Str × Addr)) (fp : List Addr), PE (blkW X s H scope (compEnvC scope cl C X.env) fp W) elt (tE (ct X) W fe)) (hst : X.stack = X.env :: X.outer := by rfl) (hfe : X.env.frame = some X.env.locals := by rfl) (hex : X.ex = [] := by rfl)
    (hs : ∀ x, foldedSetIterable iter X.env x = pure x := by intro _; rfl) :
    PS X (.Assign [.Name y py] (.ListComp elt [⟨tg, iter, [], 0⟩] scope pos) spos) (tS (ct X) W (sSet i (eLcX (own.map (·.2)) it b fe))) :=
  PS.mono (ps_setLcX (Wx := W) hst hfe hex tk hc hN hy hyl hsw hi ok hg he hs) fun D σ H ⟨gg, ρ, h, rh, rs, p⟩ => by
    show tLc (tI (ct X) W it) g tYes (tE (ct X) (fun cls d _ H => W cls d σ H) fe) (own.map (·.2)) σ H (fun x H1 => gName i x σ H1 D.nx)
    refine tLcX_of pat (show tE (ct X) W (eLcX (own.map (·.2)) it b fe) σ H _ from ⟨gg, ρ, h, rh, rs, (Pst.st (R := RT (ct X)) rs p).imp fun u H1 ⟨g1, v, h1, st, rh1, rs1, rv1, p1⟩ => ?_⟩)
    exact p1 g1 H1 _ .refl rh1 (rs1.set rv1 i)
end
end J
namespace J
open PySem L2
/-! None in xs; text.upper(); text * n -/
def isNon : VV → Bool
  | .non => true
  | _ => false
def opInN : Op2 := fun _ x y => match x, y with
  | .non, .lst ys => if isDs ys = true ∧ SeqAt.shaped (toD (.lst ys)) = true then some (.bl (ys.any isNon)) else none
  | .non, .tup ys => if isDs ys = true ∧ SeqAt.shaped (toD (.tup ys)) = true then some (.bl (ys.any isNon)) else none
  | _, _ => none
theorem any_non : ∀ {ys : List VV}, isDs ys = true → ((toDs ys).any fun z => PyData.eqv z .none) = ys.any isNon
  | [], _ => rfl
  | y :: ys, h => by
    rw [isDs, Bool.and_eq_true] at h
    rw [toDs, List.any_cons, List.any_cons, any_non h.2]
    congr 1
    cases y <;> first | rfl | (cases h.1)
section
variable {X : Cx} {W : WX} {k : Nat}
theorem or_inN (hr : Room k X.A) : OpR X (compareOp .In) (Rd2 (ct X) opInN) := by
  intro pins s σ H x y v u Q I rx ry ⟨g, h, a, b, r, rh, rv, rw', e, kk⟩
  have hu : X.A.units + 65 < cLine := by have := hr.un; omega
  unfold opInN at e
  split at e
  · rename_i ys
    split at e
    · rename_i cc
      cases e
      have ex := rv.rv rfl
      rw [RV] at ex
      subst ex
      obtain rfl : v = Value.none := rx
      obtain ⟨bs, r2⟩ := Dp.reads I _ y u (dp_of _ _ (rw'.rv rfl) (show isD (.lst ys) = true by rw [isD]; exact cc.1)) ry
      rw [toD] at r2
      have cl : PyData.canLayAll0 (toDs ys) = true := by
        have z := SeqAt.canLay_of_shaped cc.2
        rw [toD] at z
        exact z
      refine SeqAt.in_list_reads r2 (.none) cl rfl (by simp only [PyData.depth]; omega) ?_
      rw [any_non cc.1]
      exact ⟨.bl _, H, I, rfl, kk g H _ .refl rh rt_bl⟩
    · cases e
  · rename_i ys
    split at e
    · rename_i cc
      cases e
      have ex := rv.rv rfl
      rw [RV] at ex
      subst ex
      obtain rfl : v = Value.none := rx
      obtain ⟨bs, r2⟩ := Dp.reads I _ y u (dp_of _ _ (rw'.rv rfl) (show isD (.tup ys) = true by rw [isD]; exact cc.1)) ry
      rw [toD] at r2
      have cl : PyData.canLayAll0 (toDs ys) = true := by
        have z := SeqAt.canLay_of_shaped cc.2
        rw [toD] at z
        exact z
      refine SeqAt.in_tuple_reads r2 (.none) cl rfl (by simp only [PyData.depth]; omega) ?_
      rw [any_non cc.1]
      exact ⟨.bl _, H, I, rfl, kk g H _ .refl rh rt_bl⟩
    · cases e
  · cases e
/-- text.upper() -/
def upR (v : VV) (h : VH) : Res VV := match v with
  | .str a => if a.length ≤ 5592405 then .ok (.str (Txt.upper a)) h else .no
  | _ => .no
def eUpper (fo : EF) : EF := fun ρ h => (fo ρ h).bind upR
theorem j_upper {o : Expr} {fo : EF} {apos pos : Pos} (ho : PE X o (tE (ct X) W fo)) (hbase : attributeBase o "upper" X.env (eval o X.env) = eval o X.env := by rfl) (hline : (apos.endLine == pos.line) = true := by rfl) :
    PE X (.Call (.Attribute o "upper" apos) [] [] pos) (tE (ct X) W (eUpper fo)) :=
  PE.mono (pe_upper ho hbase hline) fun σ H Q ⟨g, ρ, h0, rh, rs, p⟩ => by
    refine ⟨g, ρ, h0, rh, rs, (Pst.bind (R := RT (ct X)) p).imp fun u H1 ⟨g1, v, h1, st, rh1, rv1, p1⟩ => ?_⟩
    unfold upR at p1
    split at p1
    · rename_i a
      split at p1
      · rename_i cc
        exact ⟨⟨a, str_get rv1⟩, a, str_get rv1, rfl, cc, p1 g1 H1 _ .refl rh1 rt_str⟩
      · exact p1.elim
    · exact p1.elim
/-- text * n, n from 2 on -/
def opMulS : Op2 := fun _ x y => match x, y with
  | .str a, .int n => if 2 ≤ n ∧ n ≤ 1000 ∧ a.length = 1 then some (.str (Txt.mul a n)) else none
  | _, _ => none
theorem or_mulS : OpR X (binaryOp .Mult) (Rd2 (ct X) opMulS) := by
  intro pins s σ H x y v u Q I rx ry ⟨g, h, a, b, r, rh, rv, rw', e, kk⟩
  unfold opMulS at e
  split at e
  · rename_i t n
    split at e
    · rename_i cc
      cases e
      obtain ⟨c1, c2, c3⟩ := cc
      rw [str_get rv] at rx
      rw [int_get rw'] at ry
      obtain ⟨t1, rfl⟩ := rx
      obtain ⟨t2, rfl⟩ := ry
      have n1 : ¬ n < 1 := by omega
      have n2 : (n == 1 || t.length == 0) = false := by
        rw [c3]
        simp
        omega
      refine SB.mul ⟨by rw [Bool.or_eq_false_iff]; exact ⟨decide_eq_false (by omega), decide_eq_false (by omega)⟩, fun _ _ => ?_, fun _ _ => ?_⟩ fun t' k => ⟨.str (Txt.mul t n), H, I.tok _, ⟨_, rfl⟩, kk g H _ .refl rh rt_str⟩
      · rw [c3]
        have e : (2 ^ 63 - 1 : Int) = 9223372036854775807 := by decide
        have : 1 ≤ (9223372036854775807 : Int) / n := Int.le_ediv_of_mul_le (by omega) (by omega)
        rw [e]
        omega
      · rw [c3]
        exact decide_eq_false (by rw [sizeLine_eq]; omega)
    · cases e
  · cases e
end
end J
namespace J
open PySem L2
/-! text.replace(..) of written texts, behind an item that gives out a token -/
section
variable {X : Cx} {W : WX}
/-- an item that begins with a written text: behind it a token is out -/
theorem pa_grow {a : Str} {j : Nat} {c pos : Pos} {op : Operator} {b : Expr} {es : List Expr} {r : R2} {tb : TE} {ta : TA} (ho : OpR X (binaryOp op) r) (hb : PE X b tb) (hr : PAT X es ta)
    (hs : starEach (.BinOp (.Constant (.str a) j c) op b pos :: es) X.env = (false, eval (.BinOp (.Constant (.str a) j c) op b pos) X.env) :: starEach es X.env := by rfl) :
    PA X (.BinOp (.Constant (.str a) j c) op b pos :: es) (tCons (tOp r (tC (.str a)) tb) ta) := by
  refine ⟨fun ps pins s σ H Q I h => ?_⟩
  rw [hs]
  show wpAny _ _ (spliced ((false, eval (.BinOp (.Constant (.str a) j c) op b pos) X.env) :: backTo ps (starEach es X.env))) _ _ s
  refine Calls.spliced_cons (wpAny_BinOp (Calls.Constant_str ?_))
  refine wpAny_mono (PySem.wpAny_toks (hb.run pins { s with toks := s.toks + 1 } σ H _ (I.tok _) h)) (fun u s1 q => ?_) fun _ _ z => z.2
  obtain ⟨hk, y, H1, I1, r1, q1⟩ := q
  refine wpAny_mono (PySem.wpAny_toks (ho pins s1 σ H1 (.str a) y _ u _ I1 ⟨_, rfl⟩ r1 q1)) (fun u2 s2 q => ?_) fun _ _ z => z.2
  obtain ⟨hk2, y2, H2, I2, r2, q2⟩ := q
  have h1 : 1 ≤ s2.toks := Nat.le_trans (Nat.le_trans (Nat.le_add_left 1 s.toks) hk) hk2
  exact thn (hr ps pins s2 σ H2 _ h1 I2 q2) fun us s3 ⟨xs, H3, I3, r3, q3⟩ => ⟨y2 :: xs, H3, I3, .cons r2 r3, q3⟩
theorem PAT_of {es : List Expr} {ta : TA} (h : PA X es ta) : PAT X es ta := fun ps pins s σ H Q _ I q => h.run ps pins s σ H Q I q
def replR (y z : Str) (v : VV) (h : VH) : Res VV := match v with
  | .str x => if x.length + (x.length + 1) * z.length ≤ 16777216 then .ok (.str (Txt.replace x y z)) h else .no
  | _ => .no
def eRepl (fo : EF) (y z : Str) : EF := fun ρ h => (fo ρ h).bind (replR y z)
theorem tA_cons {te : TE} {ta : TA} {fa : EF} {fb : AF} (ha : ∀ σ H Q, tE (ct X) W fa σ H Q → te σ H Q) (hb : ∀ σ H Q, tA (ct X) W fb σ H Q → ta σ H Q) {σ : St} {H : Hp} {Q : List V → Hp → Prop}
    (h : tA (ct X) W (aCons fa fb) σ H Q) : tCons te ta σ H Q := by
  obtain ⟨g, ρ, h0, rh, rs, p⟩ := tG.bind (R := RT (ct X)) (f := fa) (k := fun v ρ h1 => (fb ρ h1).bind fun w h2 => .ok (v :: w) h2) h
  refine ha _ _ _ ⟨g, ρ, h0, rh, rs, p.imp fun u H1 ⟨g1, ρ1, v, h1, rh1, rs1, rv1, p1⟩ => ?_⟩
  refine hb _ _ _ ⟨g1, ρ1, h1, rh1, rs1, (Pst.bind (R := RTs (ct X)) p1).imp fun u2 H2 ⟨g2, w, h2, st, rh2, rv2, p2⟩ => ?_⟩
  exact p2 g2 H2 (u :: u2) .refl rh2 ⟨u, u2, rfl, rv1.stp st, rv2⟩
theorem ja_repl {a y z : Str} {j k1 k2 : Nat} {c c1 c2 apos pos p1 : Pos} {b o : Expr} {es : List Expr} {fb fo : EF} {fr : AF} (hb : PE X b (tE (ct X) W fb)) (ho : PE X o (tE (ct X) W fo)) (hr : PA X es (tA (ct X) W fr)) (hyz : (y == z) = false := by decide)
    (hs : starEach (.BinOp (.Constant (.str a) j c) .Add b pos :: .Call (.Attribute o "replace" apos) [.Constant (.str y) k1 c1, .Constant (.str z) k2 c2] [] p1 :: es) X.env =
      (false, eval (.BinOp (.Constant (.str a) j c) .Add b pos) X.env) :: starEach (.Call (.Attribute o "replace" apos) [.Constant (.str y) k1 c1, .Constant (.str z) k2 c2] [] p1 :: es) X.env := by rfl)
    (hs2 : starEach (.Call (.Attribute o "replace" apos) [.Constant (.str y) k1 c1, .Constant (.str z) k2 c2] [] p1 :: es) X.env = (false, eval (.Call (.Attribute o "replace" apos) [.Constant (.str y) k1 c1, .Constant (.str z) k2 c2] [] p1) X.env) :: starEach es X.env := by rfl)
    (hst : starEach [.Constant (.str y) k1 c1, .Constant (.str z) k2 c2] X.env = [(false, eval (.Constant (.str y) k1 c1) X.env), (false, eval (.Constant (.str z) k2 c2) X.env)] := by rfl)
    (hbase : attributeBase o "replace" X.env (eval o X.env) = eval o X.env := by rfl) (hline : (apos.endLine == p1.line) = true := by rfl) :
    PA X (.BinOp (.Constant (.str a) j c) .Add b pos :: .Call (.Attribute o "replace" apos) [.Constant (.str y) k1 c1, .Constant (.str z) k2 c2] [] p1 :: es)
      (tA (ct X) W (aCons (eBin opAdd (eC (.str a)) fb) (aCons (eRepl fo y z) fr))) :=
  PA.mono (pa_grow or_add hb (pat_cons (CwR.pet_replC ho hyz hst hbase hline) (PAT_of hr) hs2) hs) fun σ H Q h => by
    refine tA_cons (fun σ H Q h => ?_) (fun σ H Q h => tA_cons (fun σ H Q h => ?_) (fun _ _ _ q => q) h) h
    · obtain ⟨g, ρ, h0, rh, rs, p⟩ := h
      refine ⟨g, ρ, h0, rh, rs, ?_⟩
      have p' : Pst (ct X) W σ (RT (ct X)) g H Q ((fb ρ h0).bind fun w h2 => lift (opAdd h2 (.str a) w) h2) := p
      refine (Pst.bind (R := RT (ct X)) p').imp fun u2 H2 ⟨g2, w, h2, st, rh2, rv2, p2⟩ => ?_
      unfold lift at p2
      split at p2
      · rename_i r e
        exact ⟨g2, h2, .str a, w, r, rh2, rt_str, rv2, e, p2⟩
      · exact p2.elim
    · obtain ⟨g, ρ, h0, rh, rs, p⟩ := h
      refine ⟨g, ρ, h0, rh, rs, (Pst.bind (R := RT (ct X)) p).imp fun u H1 ⟨g1, v, h1, st, rh1, rv1, p1⟩ => ?_⟩
      unfold replR at p1
      split at p1
      · rename_i x
        split at p1
        · rename_i cc
          exact ⟨x, str_get rv1, cc, p1 g1 H1 _ .refl rh1 rt_str⟩
        · exact p1.elim
      · exact p1.elim
end
end J
namespace J
open PySem L2
variable {ρ : VSt} {h h' : VH}
/-! evaluation: raising comprehensions, raise, upper, replace -/
theorem s_raise1c {x : Str} {i : Int} : sRaise1 x (eC (.int i)) ρ h = .exc x ["at", "word"] [.int i, .str x] ρ h := nr rfl
theorem a_lcX {own it b e} : eLcX own it b e ρ h = bnd (it ρ h) (fun xs h1 => if xs.length > SZ then .no else bnd (lcGo b tTrue e (wp ρ own) xs h1) (fun vs h2 => .ok (.lst vs) h2) (tg _)) (tg _) := nr rfl
theorem a_upper {f : EF} : eUpper f ρ h = bnd (f ρ h) upR (tg _) := nr rfl
theorem a_repl {f : EF} {y z : Str} : eRepl f y z ρ h = bnd (f ρ h) (replR y z) (tg _) := nr rfl
end J
namespace J
open PySem L2 M
/-! evaluation of what J61, J63 added -/
section
variable {ρ : VSt} {h : VH}
def maxR (v w : VV) (h : VH) : Res VV := lift (cMaxD h [v] [w]) h
theorem a_maxD {a k : EF} : eMaxD (aCons a aNil) (aCons k aNil) ρ h = bnd (a ρ h) (fun v h1 => bnd (k ρ h1) (fun w h2 => maxR v w h2) (tg _)) (tg _) := by
  unfold eMaxD aCons aNil
  show _ = (a ρ h).bind fun v h1 => (k ρ h1).bind fun w h2 => maxR v w h2
  cases a ρ h with
  | no => rfl
  | exc => rfl
  | ok v h1 =>
    simp only [Res.bind]
    cases k ρ h1 <;> rfl
theorem a_lc3 {own it b t it1 b1 vs1 t1 it2 b2 vs2 t2 e} : eLc3 own it b t it1 b1 vs1 t1 it2 b2 vs2 t2 e ρ h = bnd (it ρ h) (fun xs h1 => afterL (lc3Go b t it1 b1 vs1 t1 it2 b2 vs2 t2 e (wp ρ own) xs h1 [])) (tg _) := nr rfl
theorem a_dc1T {own it b fk fv} : eDc1T own it b fk fv ρ h = bnd (it ρ h) (fun xs h1 => bnd (noX (accGo b (stDict fk fv) (wp ρ own) xs h1 ([], []))) (fun a h2 => .ok (.dT a.1 a.2) h2) (tg _)) (tg _) := nr rfl
end
end J
namespace L
open PySem L2 J
def top (i : Nat) : Stmt := PySem.Challenge.pw_cupweb_k64_texts_read_or_refused.main.body.getD i (.Pass ⟨0, 0, 0, 0⟩)
abbrev s_law_box : Stmt := top 35
abbrev s_law_mixed : Stmt := top 36
abbrev s_law_take : Stmt := top 37
abbrev s_law_ten_names : Stmt := top 41
abbrev s_law_great_number : Stmt := top 45
abbrev s_law_plain_deed : Stmt := top 46
abbrev s_law_written_deed : Stmt := top 47
abbrev s_law_row_text : Stmt := top 43
abbrev s_law_text : Stmt := top 44
abbrev s_law_bent_text : Stmt := top 53
abbrev s_law_is_name : Stmt := top 42
abbrev s_law_number_in : Stmt := top 48
abbrev s_law_plain_in : Stmt := top 49
abbrev s_law_parts_in : Stmt := top 50
abbrev s_law_words_read : Stmt := top 51
abbrev s_law_read : Stmt := top 52
abbrev s_is_name : Stmt := top 25
abbrev s_read_name : Stmt := top 30
abbrev s_read_plain : Stmt := top 28
abbrev s_read_number : Stmt := top 29
abbrev s_read_row : Stmt := top 31
abbrev s_read_words : Stmt := top 32
abbrev s_deed_of : Stmt := top 33
abbrev s_law_alike : Stmt := top 38
abbrev s_law : Stmt := top 54
abbrev s_WebError_init : Stmt := inClass (top 1) 0
abbrev s_BadText_init : Stmt := inClass (top 21) 0
abbrev s_law_refusal : Stmt := top 40
abbrev s_law_kinds : Stmt := top 39
def fs_0 : List He.Fa := [.free "ValueError", .free "all", .free "bool", .free "int", .free "isinstance", .free "len", .free "list", .free "range", .free "str", .free "tuple", .free "zip", .int "FIGURES_MOST" 30, .str "LETTERS" "abcdefghijklmnopqrstuvwxyz", .int "SIGNS_MOST" 8, .glo "_law_box", .glo "_law_mixed", .glo "_law_take", .glo "_law_ten_names", .glo "_law_great_number", .glo "_law_plain_deed"]
def fs_1 : List He.Fa := [.glo "_law_written_deed", .glo "_law_row_text", .glo "_law_text", .glo "_law_bent_text", .glo "_law_is_name", .glo "_law_number_in", .glo "_law_plain_in", .glo "_law_parts_in", .glo "_law_words_read", .glo "_law_read", .glo "is_name", .glo "read_name", .glo "read_plain", .glo "read_number", .glo "read_row", .glo "read_words", .glo "deed_of", .glo "_law_alike", .glo "law", .glo "_law_refusal"]
def fs_2 : List He.Fa := [.glo "_law_kinds", .glo "WebError", .glo "BadText"]
def fs : List He.Fa := fs_0 ++ fs_1 ++ fs_2
def fn_0 : List He.DefD := [⟨("_law_box", none), "_law_box", "_law_box", defArgs s_law_box, defBody s_law_box, defScope s_law_box, [], []⟩, ⟨("_law_mixed", none), "_law_mixed", "_law_mixed", defArgs s_law_mixed, defBody s_law_mixed, defScope s_law_mixed, [], []⟩, ⟨("_law_take", none), "_law_take", "_law_take", defArgs s_law_take, defBody s_law_take, defScope s_law_take, [], []⟩, ⟨("_law_ten_names", none), "_law_ten_names", "_law_ten_names", defArgs s_law_ten_names, defBody s_law_ten_names, defScope s_law_ten_names, [], []⟩, ⟨("_law_great_number", none), "_law_great_number", "_law_great_number", defArgs s_law_great_number, defBody s_law_great_number, defScope s_law_great_number, [], []⟩, ⟨("_law_plain_deed", none), "_law_plain_deed", "_law_plain_deed", defArgs s_law_plain_deed, defBody s_law_plain_deed, defScope s_law_plain_deed, [], []⟩, ⟨("_law_written_deed", none), "_law_written_deed", "_law_written_deed", defArgs s_law_written_deed, defBody s_law_written_deed, defScope s_law_written_deed, [], []⟩, ⟨("_law_row_text", none), "_law_row_text", "_law_row_text", defArgs s_law_row_text, defBody s_law_row_text, defScope s_law_row_text, [], []⟩, ⟨("_law_text", none), "_law_text", "_law_text", defArgs s_law_text, defBody s_law_text, defScope s_law_text, [], []⟩, ⟨("_law_bent_text", none), "_law_bent_text", "_law_bent_text", defArgs s_law_bent_text, defBody s_law_bent_text, defScope s_law_bent_text, [], []⟩, ⟨("_law_is_name", none), "_law_is_name", "_law_is_name", defArgs s_law_is_name, defBody s_law_is_name, defScope s_law_is_name, [], []⟩, ⟨("_law_number_in", none), "_law_number_in", "_law_number_in", defArgs s_law_number_in, defBody s_law_number_in, defScope s_law_number_in, [], []⟩, ⟨("_law_plain_in", none), "_law_plain_in", "_law_plain_in", defArgs s_law_plain_in, defBody s_law_plain_in, defScope s_law_plain_in, [], []⟩, ⟨("_law_parts_in", none), "_law_parts_in", "_law_parts_in", defArgs s_law_parts_in, defBody s_law_parts_in, defScope s_law_parts_in, [], []⟩, ⟨("_law_words_read", none), "_law_words_read", "_law_words_read", defArgs s_law_words_read, defBody s_law_words_read, defScope s_law_words_read, [], []⟩, ⟨("_law_read", none), "_law_read", "_law_read", defArgs s_law_read, defBody s_law_read, defScope s_law_read, [], []⟩, ⟨("is_name", none), "is_name", "is_name", defArgs s_is_name, defBody s_is_name, defScope s_is_name, [], []⟩, ⟨("read_name", none), "read_name", "read_name", defArgs s_read_name, defBody s_read_name, defScope s_read_name, [], []⟩, ⟨("read_plain", none), "read_plain", "read_plain", defArgs s_read_plain, defBody s_read_plain, defScope s_read_plain, [], []⟩, ⟨("read_number", none), "read_number", "read_number", defArgs s_read_number, defBody s_read_number, defScope s_read_number, [], []⟩]
def fn_1 : List He.DefD := [⟨("read_row", none), "read_row", "read_row", defArgs s_read_row, defBody s_read_row, defScope s_read_row, [], []⟩, ⟨("read_words", none), "read_words", "read_words", defArgs s_read_words, defBody s_read_words, defScope s_read_words, [], []⟩, ⟨("deed_of", none), "deed_of", "deed_of", defArgs s_deed_of, defBody s_deed_of, defScope s_deed_of, [], []⟩, ⟨("_law_alike", none), "_law_alike", "_law_alike", defArgs s_law_alike, defBody s_law_alike, defScope s_law_alike, [], []⟩, ⟨("law", none), "law", "law", defArgs s_law, defBody s_law, defScope s_law, [], []⟩, ⟨("WebError", some "__init__"), "__init__", "WebError.__init__", defArgs s_WebError_init, defBody s_WebError_init, defScope s_WebError_init, [.str "WebError", .int (-1)], []⟩, ⟨("BadText", some "__init__"), "__init__", "BadText.__init__", defArgs s_BadText_init, defBody s_BadText_init, defScope s_BadText_init, [.int (-1)], []⟩, ⟨("_law_refusal", none), "_law_refusal", "_law_refusal", defArgs s_law_refusal, defBody s_law_refusal, defScope s_law_refusal, [], []⟩, ⟨("_law_kinds", none), "_law_kinds", "_law_kinds", defArgs s_law_kinds, defBody s_law_kinds, defScope s_law_kinds, [], []⟩]
def fn : List He.DefD := fn_0 ++ fn_1
def exs (K : PySem.W.Frag) : List Bool := [tabB K, weB K, xrB K (He.ga K "WebError") "BadText" 19]
def ex (K : PySem.W.Frag) : Bool := (exs K).all id
def loose_0 : List PySem.Str := ["WebError", "BadFace", "Full", "BadSize", "BadRow", "BadRests", "NotShut", "BadMap", "NotFace", "NotNear", "NoFace", "NotFree", "BadName", "Taken", "NoWeb", "NoRow", "BadKind", "Unlike", "Had", "NothingLeft"]
def loose_1 : List PySem.Str := ["BadText", "SIGNS_MOST", "LETTERS", "is_name", "FIGURES_MOST", "read_plain", "read_number", "read_name", "read_row", "read_words", "deed_of", "_law_box", "_law_mixed", "_law_take", "_law_alike", "_law_kinds", "_law_refusal", "_law_ten_names", "_law_is_name", "_law_row_text"]
def loose_2 : List PySem.Str := ["_law_text", "_law_great_number", "_law_plain_deed", "_law_written_deed", "_law_number_in", "_law_plain_in", "_law_parts_in", "_law_words_read", "_law_read", "_law_bent_text"]
def loose : List PySem.Str := loose_0 ++ loose_1 ++ loose_2
end L
namespace L
open PySem PySem.W PySem.Calls PyProof.Rows
abbrev hR : OpenRow := OpenLaw.row PySem.Challenge.rw_cupweb_k64_texts_read_or_refused
abbrev hq : Program := view hR.prog [54]
def has : List Addr := List.range 1000
abbrev hk : Hook := J.hookL has fs fn ex
def hob (s : SharedT) : He.AlD × Bool := J.obsL has fs fn ex (HandSHeadRun.getT s)
theorem hrun (w : World) : HandSHeadRun.RunEq hR hq hk hob 30000 loose w := by
  intro os
  kernel_rfl
end L
namespace L
open PySem L2 J
abbrev lb_law_box_1 : SF :=
    (sSet 1 (eBin opMod (eBin opAdd (eBin opAdd (eBin opMul (eVar 1) (eC (.int 31))) (eVar 2)) (eC (.int 17))) (eC (.int 2147483647))))
def B_law_box : SF :=
    (sSeq (sSet 1 (eC (.int 0)))
    (sSeq (sFor (iSeq (eSl opSl (eVar 0) oNone (oSome (eC (.int 63))))) (bNm 2) lb_law_box_1)
    (sRet (eLstO (aCons (eCall cList (aCons (eSl opSl (eVar 0) oNone (oSome (eC (.int 63)))) aNil)) (aCons (eC (.int 0)) (aCons (eC (.int 0)) (aCons (eC (.int 0)) (aCons (eVar 1) aNil)))))))))
def F_law_box : FF := fnF 3 B_law_box
def B_law_mixed : SF :=
    (sSeq (sSet 2 (eBin opMod (eBin opAdd (eBin opAdd (eBin opMul (eVar 0) (eC (.int 48271))) (eBin opMul (eVar 1) (eC (.int 69621)))) (eC (.int 12345))) (eC (.int 2147483647))))
    (sSeq (sSet 3 (eBin opMod (eBin opAdd (eBin opAdd (eBin opMul (eVar 2) (eBin opAdd (eBin opMod (eVar 2) (eC (.int 65521))) (eC (.int 7)))) (eBin opMul (eVar 1) (eC (.int 40692)))) (eBin opMod (eVar 0) (eC (.int 104729)))) (eC (.int 998244353))))
    (sRet (eBin opFdiv (eVar 3) (eC (.int 7))))))
def F_law_mixed : FF := fnF 4 B_law_mixed
def B_law_take : SF :=
    (sSeq (sSetI (eVar 0) (eC (.int 3)) (eBin opAdd (eBin opIx (eVar 0) (eC (.int 3))) (eC (.int 1))))
    (sSeq (sIf (tVal (eBin opGt (eBin opIx (eVar 0) (eC (.int 2))) (eC (.int 0)))) (sSeq (sSet 3 (eBin opIx (eVar 0) (eC (.int 2))))
    (sSeq (sSetI (eVar 0) (eC (.int 2)) (eBin opFdiv (eVar 3) (eVar 1)))
    (sRet (eBin opMod (eVar 3) (eVar 1))))) sSkip)
    (sSeq (sIf (tVal (eBin opGe (eBin opIx (eVar 0) (eC (.int 1))) (eCall cLen (aCons (eBin opIx (eVar 0) (eC (.int 0))) aNil)))) (sRet (eBin opMod (eFn 2 F_law_mixed [] (aCons (eBin opIx (eVar 0) (eC (.int 4))) (aCons (eBin opIx (eVar 0) (eC (.int 3))) aNil))) (eVar 1))) sSkip)
    (sSeq (sSet 2 (eBin opIx (eBin opIx (eVar 0) (eC (.int 0))) (eBin opIx (eVar 0) (eC (.int 1)))))
    (sSeq (sSetI (eVar 0) (eC (.int 1)) (eBin opAdd (eBin opIx (eVar 0) (eC (.int 1))) (eC (.int 1))))
    (sSeq (sIf (tVal (eBin opLt (eVar 2) (eBin opPow (eC (.int 10)) (eC (.int 18))))) (sRet (eBin opMod (eFn 2 F_law_mixed [] (aCons (eVar 2) (aCons (eBin opIx (eVar 0) (eC (.int 3))) aNil))) (eVar 1))) sSkip)
    (sSeq (sSetI (eVar 0) (eC (.int 2)) (eBin opFdiv (eVar 2) (eVar 1)))
    (sRet (eBin opMod (eVar 2) (eVar 1))))))))))
def F_law_take : FF := fnF 4 B_law_take
abbrev le_law_ten_names_1 : EF :=
    (eFn 2 F_law_take [] (aCons (eVar 0) (aCons (eC (.int 26)) aNil)))
abbrev le_law_ten_names_2 : EF :=
    (eBin opIx (eVar 4) (eVar 9))
abbrev lb_law_ten_names_1 : SF :=
    (sSeq (sSet 8 (eSl opSl (eBin opAdd (eBin opAdd (eSl opSl (eVar 2) oNone (oSome (eVar 3))) (eLst (aCons (eBin opMod (eBin opAdd (eVar 5) (eVar 7)) (eC (.int 26))) aNil))) (eSl opSl (eVar 2) (oSome (eVar 3)) oNone)) (oSome (eBin opMod (eVar 7) (eBin opAdd (eVar 3) (eC (.int 1))))) oNone))
    (sExpr (eApp (eVar 6) (eJoin (eC (.str "")) (eLc [9] (iSeq (eVar 8)) (bNm 9) tTrue le_law_ten_names_2)))))
def B_law_ten_names : SF :=
    (sSeq (sSet 1 (eFn 2 F_law_take [] (aCons (eVar 0) (aCons (eC (.int 8)) aNil))))
    (sSeq (sSet 2 (eLc [7] (iRange1 (eVar 1)) (bNm 7) tTrue le_law_ten_names_1))
    (sSeq (sSet 3 (eFn 2 F_law_take [] (aCons (eVar 0) (aCons (eBin opAdd (eVar 1) (eC (.int 1))) aNil))))
    (sSeq (sSet 4 (eC (.str "abcdefghijklmnopqrstuvwxyz")))
    (sSeq (sSet 5 (eFn 2 F_law_take [] (aCons (eVar 0) (aCons (eC (.int 26)) aNil))))
    (sSeq (sSet 6 (eLstO aNil))
    (sSeq (sFor (iRange1 (eC (.int 10))) (bNm 7) lb_law_ten_names_1)
    (sRet (eFrzD (eVar 6))))))))))
def F_law_ten_names : FF := fnF 10 B_law_ten_names
def B_law_great_number : SF :=
    (sRet (eBin opIx (eLst (aCons (eC (.int 0)) (aCons (eC (.int 9)) (aCons (eFn 2 F_law_take [] (aCons (eVar 0) (aCons (eC (.int 1000)) aNil))) (aCons (eBin opSub (eBin opPow (eC (.int 10)) (eC (.int 30))) (eC (.int 1))) (aCons (eFn 2 F_law_take [] (aCons (eVar 0) (aCons (eBin opPow (eC (.int 10)) (eC (.int 30))) aNil))) aNil)))))) (eFn 2 F_law_take [] (aCons (eVar 0) (aCons (eC (.int 5)) aNil)))))
def F_law_great_number : FF := fnF 1 B_law_great_number
abbrev le_law_plain_deed_1 : EF :=
    (eFn 1 F_law_great_number [] (aCons (eVar 0) aNil))
abbrev le_law_plain_deed_2 : EF :=
    (eBin opMul (eBin opSub (eC (.int 1)) (eBin opMul (eC (.int 2)) (eFn 2 F_law_take [] (aCons (eVar 0) (aCons (eC (.int 2)) aNil))))) (eFn 1 F_law_great_number [] (aCons (eVar 0) aNil)))
def B_law_plain_deed : SF :=
    (sSeq (sSet 1 (eFn 1 F_law_ten_names [] (aCons (eVar 0) aNil)))
    (sSeq (sSet 2 (eBin opIx (eLst (aCons (eC (.str "begin")) (aCons (eC (.str "drop")) (aCons (eC (.str "forget")) (aCons (eC (.str "put")) (aCons (eC (.str "take")) (aCons (eC (.str "finer")) (aCons (eC (.str "lesser")) (aCons (eC (.str "keep")) (aCons (eC (.str "keep")) aNil)))))))))) (eFn 2 F_law_take [] (aCons (eVar 0) (aCons (eC (.int 9)) aNil)))))
    (sSeq (sIf (tVal (eBin opIn (eVar 2) (eTup (aCons (eC (.str "begin")) (aCons (eC (.str "drop")) (aCons (eC (.str "forget")) aNil)))))) (sRet (eTup (aCons (eVar 2) (aCons (eBin opIx (eVar 1) (eC (.int 0))) aNil)))) sSkip)
    (sSeq (sIf (tVal (eBin opNe (eVar 2) (eC (.str "keep")))) (sSeq (sSet 7 (eLc [8] (iRange1 (eBin opAdd (eC (.int 1)) (eFn 2 F_law_take [] (aCons (eVar 0) (aCons (eC (.int 6)) aNil))))) (bNm 8) tTrue le_law_plain_deed_1))
    (sRet (eTup (aCons (eVar 2) (aCons (eBin opIx (eVar 1) (eC (.int 0))) (aCons (eCall cTuple (aCons (eVar 7) aNil)) aNil)))))) sSkip)
    (sSeq (sSet 3 (eFn 2 F_law_take [] (aCons (eVar 0) (aCons (eC (.int 5)) aNil))))
    (sSeq (sSet 4 (eLc [8] (iRange1 (eVar 3)) (bNm 8) tTrue le_law_plain_deed_2))
    (sSeq (sSet 5 (eTup (aCons (eFn 1 F_law_great_number [] (aCons (eVar 0) aNil)) (aCons (eFn 1 F_law_great_number [] (aCons (eVar 0) aNil)) aNil))))
    (sSeq (sSet 6 (eBin opIx (eLst (aCons (eC (.str "ring")) (aCons (eC (.str "cut")) (aCons (eBin opIx (eVar 1) (eC (.int 2))) aNil)))) (eFn 2 F_law_take [] (aCons (eVar 0) (aCons (eC (.int 3)) aNil)))))
    (sRet (eBin opAdd (eBin opAdd (eTup (aCons (eVar 2) (aCons (eBin opIx (eVar 1) (eC (.int 0))) (aCons (eBin opIx (eVar 1) (eC (.int 1))) (aCons (eVar 6) aNil))))) (eVar 5)) (eTup (aCons (eCall cTuple (aCons (eVar 4) aNil)) aNil))))))))))))
def F_law_plain_deed : FF := fnF 9 B_law_plain_deed
abbrev le_law_written_deed_1 : EF :=
    (eFn 1 F_law_plain_deed [] (aCons (eVar 0) aNil))
def B_law_written_deed : SF :=
    (sSeq (sIf (tVal (eBin opGt (eFn 2 F_law_take [] (aCons (eVar 0) (aCons (eC (.int 4)) aNil))) (eC (.int 0)))) (sRet (eFn 1 F_law_plain_deed [] (aCons (eVar 0) aNil))) sSkip)
    (sRet (eTup (aCons (eC (.str "bundle")) (aCons (eCall cTuple (aCons (eLc [1] (iRange1 (eFn 2 F_law_take [] (aCons (eVar 0) (aCons (eC (.int 4)) aNil)))) (bNm 1) tTrue le_law_written_deed_1) aNil)) aNil)))))
def F_law_written_deed : FF := fnF 2 B_law_written_deed
abbrev le_law_row_text_1 : EF :=
    (eCall cStr (aCons (eVar 1) aNil))
def B_law_row_text : SF :=
    (sRet (eIf (tVal (eBin opGt (eCall cLen (aCons (eVar 0) aNil)) (eC (.int 0)))) (eJoin (eC (.str ",")) (eLc [1] (iSeq (eVar 0)) (bNm 1) tTrue le_law_row_text_1)) (eC (.str "-"))))
def F_law_row_text : FF := fnF 2 B_law_row_text
abbrev le_law_text_1 (Fr : FF) : EF :=
    (eBin opAdd (eC (.str " ")) (eFn 1 Fr [] (aCons (eVar 2) aNil)))
abbrev le_law_text_2 (Fr : FF) : EF :=
    (eCall cStr (aCons (eVar 3) aNil))
abbrev le_law_text_3 (Fr : FF) : EF :=
    (eCall cStr (aCons (eVar 1) aNil))
def B_law_text (Fr : FF) : SF :=
    (sSeq (sIf (tVal (eBin opEq (eBin opIx (eVar 0) (eC (.int 0))) (eC (.str "bundle")))) (sRet (eBin opAdd (eC (.str "all:")) (eJoin (eC (.str ";")) (eLc [2] (iSeq (eBin opIx (eVar 0) (eC (.int 1)))) (bNm 2) tTrue (le_law_text_1 Fr))))) sSkip)
    (sSeq (sIf (tVal (eBin opEq (eBin opIx (eVar 0) (eC (.int 0))) (eC (.str "keep")))) (sRet (eJoin (eC (.str " ")) (eBin opAdd (eLc [3] (iSeq (eSl opSl (eVar 0) oNone (oSome (eC (.int 6))))) (bNm 3) tTrue (le_law_text_2 Fr)) (eLst (aCons (eFn 1 F_law_row_text [] (aCons (eBin opIx (eVar 0) (eC (.int 6))) aNil)) aNil))))) sSkip)
    (sSeq (sIf (tVal (eBin opIn (eBin opIx (eVar 0) (eC (.int 0))) (eTup (aCons (eC (.str "begin")) (aCons (eC (.str "drop")) (aCons (eC (.str "forget")) aNil)))))) (sRet (eBin opAdd (eBin opAdd (eBin opIx (eVar 0) (eC (.int 0))) (eC (.str " "))) (eBin opIx (eVar 0) (eC (.int 1))))) sSkip)
    (sRet (eBin opAdd (eBin opAdd (eBin opAdd (eBin opAdd (eBin opIx (eVar 0) (eC (.int 0))) (eC (.str " "))) (eBin opIx (eVar 0) (eC (.int 1)))) (eC (.str " "))) (eJoin (eC (.str ".")) (eLc [1] (iSeq (eBin opIx (eVar 0) (eC (.int 2)))) (bNm 1) tTrue (le_law_text_3 Fr))))))))
def F_law_text : Nat → FF
  | 0 => fun _ _ => .no
  | d + 1 => fnF 4 (B_law_text (F_law_text d))
def B_law_bent_text : SF :=
    (sSeq (sSet 2 (eC (.str " \n-+.,;:0AZaz9_!~#/")))
    (sSeq (sSet 3 (eSplit (eVar 1) (eC (.str " "))))
    (sSeq (sSet 4 (eFn 2 F_law_take [] (aCons (eVar 0) (aCons (eBin opAdd (eCall cLen (aCons (eVar 1) aNil)) (eC (.int 1))) aNil))))
    (sSeq (sSet 5 (eFn 2 F_law_take [] (aCons (eVar 0) (aCons (eCall cLen (aCons (eVar 3) aNil)) aNil))))
    (sSeq (sSet 6 (eBin opIx (eVar 2) (eFn 2 F_law_take [] (aCons (eVar 0) (aCons (eCall cLen (aCons (eVar 2) aNil)) aNil)))))
    (sSeq (sSet 7 (eLst (aCons (eC (.str "-0")) (aCons (eC (.str "00")) (aCons (eC (.str "-")) (aCons (eC (.str "+3")) (aCons (eC (.str "007")) (aCons (eC (.str "-01")) (aCons (eC (.str "")) (aCons (eBin opMulS (eC (.str "1")) (eC (.int 31))) (aCons (eBin opAdd (eC (.str "-")) (eBin opMulS (eC (.str "9")) (eC (.int 31)))) (aCons (eC (.str "a1")) (aCons (eC (.str "abcdefghi")) (aCons (eC (.str "A")) aNil))))))))))))))
    (sSeq (sSet 7 (eBin opAdd (eVar 7) (eLst (aCons (eC (.str "0")) (aCons (eC (.str "-7")) (aCons (eC (.str "x")) (aCons (eC (.str "1.")) (aCons (eC (.str ".1")) (aCons (eC (.str "1,")) (aCons (eC (.str "1,,2")) (aCons (eC (.str "1,-2")) (aCons (eC (.str "1.-2")) (aCons (eC (.str "all:")) (aCons (eC (.str "put")) aNil))))))))))))))
    (sSeq (sSet 8 (eFn 2 F_law_take [] (aCons (eVar 0) (aCons (eC (.int 8)) aNil))))
    (sSeq (sIf (tVal (eBin opEq (eVar 8) (eC (.int 0)))) (sRet (eBin opAdd (eBin opAdd (eSl opSl (eVar 1) oNone (oSome (eVar 4))) (eVar 6)) (eSl opSl (eVar 1) (oSome (eVar 4)) oNone))) sSkip)
    (sSeq (sIf (tVal (eBin opEq (eVar 8) (eC (.int 1)))) (sRet (eBin opAdd (eSl opSl (eVar 1) oNone (oSome (eVar 4))) (eSl opSl (eVar 1) (oSome (eBin opAdd (eVar 4) (eC (.int 1)))) oNone))) sSkip)
    (sSeq (sIf (tVal (eBin opEq (eVar 8) (eC (.int 2)))) (sRet (eBin opAdd (eBin opAdd (eSl opSl (eVar 1) oNone (oSome (eVar 4))) (eVar 6)) (eSl opSl (eVar 1) (oSome (eBin opAdd (eVar 4) (eC (.int 1)))) oNone))) sSkip)
    (sSeq (sIf (tVal (eBin opEq (eVar 8) (eC (.int 3)))) (sRet (eJoin (eC (.str " ")) (eBin opAdd (eSl opSl (eVar 3) oNone (oSome (eVar 5))) (eSl opSl (eVar 3) (oSome (eBin opAdd (eVar 5) (eC (.int 1)))) oNone)))) sSkip)
    (sSeq (sIf (tVal (eBin opEq (eVar 8) (eC (.int 4)))) (sRet (eJoin (eC (.str " ")) (eBin opAdd (eBin opAdd (eSl opSl (eVar 3) oNone (oSome (eVar 5))) (eLst (aCons (eBin opIx (eVar 3) (eVar 5)) (aCons (eBin opIx (eVar 3) (eVar 5)) aNil)))) (eSl opSl (eVar 3) (oSome (eBin opAdd (eVar 5) (eC (.int 1)))) oNone)))) sSkip)
    (sSeq (sIf (tVal (eBin opEq (eVar 8) (eC (.int 5)))) (sRet (eJoin (eC (.str " ")) (eBin opAdd (eBin opAdd (eSl opSl (eVar 3) oNone (oSome (eVar 5))) (eLst (aCons (eBin opIx (eVar 7) (eFn 2 F_law_take [] (aCons (eVar 0) (aCons (eCall cLen (aCons (eVar 7) aNil)) aNil)))) aNil))) (eSl opSl (eVar 3) (oSome (eBin opAdd (eVar 5) (eC (.int 1)))) oNone)))) sSkip)
    (sSeq (sSet 9 (eLst (aCons (eBin opAdd (eVar 1) (eC (.str " "))) (aCons (eBin opAdd (eC (.str " ")) (eVar 1)) (aCons (eRepl (eVar 1) " " "  ") (aCons (eBin opAdd (eVar 1) (eC (.str "\n"))) (aCons (eC (.str "")) (aCons (eUpper (eVar 1)) (aCons (eBin opAdd (eVar 1) (eC (.str ";"))) (aCons (eBin opAdd (eC (.str "all: ")) (eVar 1)) aNil))))))))))
    (sRet (eBin opIx (eVar 9) (eFn 2 F_law_take [] (aCons (eVar 0) (aCons (eCall cLen (aCons (eVar 9) aNil)) aNil))))))))))))))))))))
def F_law_bent_text : FF := fnF 10 B_law_bent_text
abbrev le_law_is_name_1 : EF :=
    (eBin (opInS false) (eVar 1) (eC (.str "abcdefghijklmnopqrstuvwxyz")))
def B_law_is_name : SF :=
    (sRet (eAnd (eChain opLe opLe (eC (.int 1)) (eCall cLen (aCons (eVar 0) aNil)) (eC (.int 8))) (eCall cAll (aCons (eLc [1] (iSeq (eVar 0)) (bNm 1) tTrue le_law_is_name_1) aNil))))
def F_law_is_name : FF := fnF 2 B_law_is_name
abbrev le_law_number_in_1 : EF :=
    (eBin (opInS false) (eVar 2) (eC (.str "0123456789")))
def B_law_number_in : SF :=
    (sSeq (sSet 1 (eIf (tVal (eBin opEq (eSl opSl (eVar 0) oNone (oSome (eC (.int 1)))) (eC (.str "-")))) (eSl opSl (eVar 0) (oSome (eC (.int 1))) oNone) (eVar 0)))
    (sSeq (sIf (tOr (tNot (tVal (eChain opLe opLe (eC (.int 1)) (eCall cLen (aCons (eVar 1) aNil)) (eC (.int 30))))) (tNot (tVal (eCall cAll (aCons (eLc [2] (iSeq (eVar 1)) (bNm 2) tTrue le_law_number_in_1) aNil))))) (sRet (eC .non)) sSkip)
    (sSeq (sIf (tAnd (tVal (eBin opEq (eBin opIx (eVar 1) (eC (.int 0))) (eC (.str "0")))) (tVal (eBin opNe (eVar 0) (eC (.str "0"))))) (sRet (eC .non)) sSkip)
    (sRet (eCall cIntS (aCons (eVar 0) aNil))))))
def F_law_number_in : FF := fnF 3 B_law_number_in
def B_law_plain_in : SF :=
    (sRet (eIf (tVal (eBin opEq (eSl opSl (eVar 0) oNone (oSome (eC (.int 1)))) (eC (.str "-")))) (eC .non) (eFn 1 F_law_number_in [] (aCons (eVar 0) aNil))))
def F_law_plain_in : FF := fnF 1 B_law_plain_in
abbrev lb_law_parts_in_1 : SF :=
    (sExpr (eApp (eVar 3) (eIf (tVal (eVar 2)) (eFn 1 F_law_plain_in [] (aCons (eVar 4) aNil)) (eFn 1 F_law_number_in [] (aCons (eVar 4) aNil)))))
def B_law_parts_in : SF :=
    (sSeq (sSet 3 (eLstO aNil))
    (sSeq (sFor (iSeq (eSplit (eVar 0) (eVar 1))) (bNm 4) lb_law_parts_in_1)
    (sRet (eIf (tVal (eBin opInN (eC .non) (eFrzD (eVar 3)))) (eC .non) (eCall cTuple (aCons (eFrzD (eVar 3)) aNil))))))
def F_law_parts_in : FF := fnF 5 B_law_parts_in
abbrev le_law_words_read_1 : EF :=
    (eFn 1 F_law_is_name [] (aCons (eVar 4) aNil))
def B_law_words_read : SF :=
    (sSeq (sIf (tVal (eBin opIn (eBin opIx (eVar 0) (eC (.int 0))) (eTup (aCons (eC (.str "begin")) (aCons (eC (.str "drop")) (aCons (eC (.str "forget")) aNil)))))) (sRet (eIf (tAnd (tVal (eBin opEq (eCall cLen (aCons (eVar 0) aNil)) (eC (.int 2)))) (tVal (eFn 1 F_law_is_name [] (aCons (eBin opIx (eVar 0) (eC (.int 1))) aNil)))) (eTup (aCons (eBin opIx (eVar 0) (eC (.int 0))) (aCons (eBin opIx (eVar 0) (eC (.int 1))) aNil))) (eC .non))) sSkip)
    (sSeq (sIf (tVal (eBin opIn (eBin opIx (eVar 0) (eC (.int 0))) (eTup (aCons (eC (.str "put")) (aCons (eC (.str "take")) (aCons (eC (.str "finer")) (aCons (eC (.str "lesser")) aNil))))))) (sSeq (sIf (tOr (tVal (eBin opNe (eCall cLen (aCons (eVar 0) aNil)) (eC (.int 3)))) (tNot (tVal (eFn 1 F_law_is_name [] (aCons (eBin opIx (eVar 0) (eC (.int 1))) aNil))))) (sRet (eC .non)) sSkip)
    (sSeq (sSet 3 (eFn 3 F_law_parts_in [] (aCons (eBin opIx (eVar 0) (eC (.int 2))) (aCons (eC (.str ".")) (aCons (eC (.bl true)) aNil)))))
    (sRet (eIf (tVal (eBin opIsN (eVar 3) (eC .non))) (eC .non) (eTup (aCons (eBin opIx (eVar 0) (eC (.int 0))) (aCons (eBin opIx (eVar 0) (eC (.int 1))) (aCons (eVar 3) aNil)))))))) sSkip)
    (sSeq (sIf (tOr (tVal (eBin opNe (eBin opIx (eVar 0) (eC (.int 0))) (eC (.str "keep")))) (tOr (tVal (eBin opNe (eCall cLen (aCons (eVar 0) aNil)) (eC (.int 7)))) (tNot (tVal (eCall cAll (aCons (eLc [4] (iSeq (eSl opSl (eVar 0) (oSome (eC (.int 1))) (oSome (eC (.int 4))))) (bNm 4) tTrue le_law_words_read_1) aNil)))))) (sRet (eC .non)) sSkip)
    (sSeq (sSet 1 (eIf (tVal (eBin opEq (eBin opIx (eVar 0) (eC (.int 6))) (eC (.str "-")))) (eTup aNil) (eFn 3 F_law_parts_in [] (aCons (eBin opIx (eVar 0) (eC (.int 6))) (aCons (eC (.str ",")) (aCons (eC (.bl false)) aNil))))))
    (sSeq (sSet 2 (eTup (aCons (eFn 1 F_law_plain_in [] (aCons (eBin opIx (eVar 0) (eC (.int 4))) aNil)) (aCons (eFn 1 F_law_plain_in [] (aCons (eBin opIx (eVar 0) (eC (.int 5))) aNil)) (aCons (eVar 1) aNil)))))
    (sRet (eIf (tVal (eBin opInN (eC .non) (eVar 2))) (eC .non) (eBin opAdd (eTup (aCons (eBin opIx (eVar 0) (eC (.int 0))) (aCons (eBin opIx (eVar 0) (eC (.int 1))) (aCons (eBin opIx (eVar 0) (eC (.int 2))) (aCons (eBin opIx (eVar 0) (eC (.int 3))) aNil))))) (eVar 2)))))))))
def F_law_words_read : FF := fnF 5 B_law_words_read
abbrev lb_law_read_1 : SF :=
    (sExpr (eApp (eVar 1) (eIf (tVal (eBin opEq (eSl opSl (eVar 2) oNone (oSome (eC (.int 1)))) (eC (.str " ")))) (eFn 1 F_law_words_read [] (aCons (eSplit (eSl opSl (eVar 2) (oSome (eC (.int 1))) oNone) (eC (.str " "))) aNil)) (eC .non))))
def B_law_read : SF :=
    (sSeq (sIf (tVal (eBin opEq (eVar 0) (eC (.str "all:")))) (sRet (eTup (aCons (eC (.str "bundle")) (aCons (eTup aNil) aNil)))) sSkip)
    (sSeq (sIf (tVal (eBin opNe (eSl opSl (eVar 0) oNone (oSome (eC (.int 4)))) (eC (.str "all:")))) (sRet (eFn 1 F_law_words_read [] (aCons (eSplit (eVar 0) (eC (.str " "))) aNil))) sSkip)
    (sSeq (sSet 1 (eLstO aNil))
    (sSeq (sFor (iSeq (eSplit (eSl opSl (eVar 0) (oSome (eC (.int 4))) oNone) (eC (.str ";")))) (bNm 2) lb_law_read_1)
    (sRet (eIf (tVal (eBin opInN (eC .non) (eFrzD (eVar 1)))) (eC .non) (eTup (aCons (eC (.str "bundle")) (aCons (eCall cTuple (aCons (eFrzD (eVar 1)) aNil)) aNil)))))))))
def F_law_read : FF := fnF 3 B_law_read
abbrev le_is_name_1 : EF :=
    (eBin (opInS false) (eVar 1) (eC (.str "abcdefghijklmnopqrstuvwxyz")))
def B_is_name : SF :=
    (sRet (eAnd (eChain opLe opLe (eC (.int 1)) (eCall cLen (aCons (eVar 0) aNil)) (eC (.int 8))) (eCall cAll (aCons (eLc [1] (iSeq (eVar 0)) (bNm 1) tTrue le_is_name_1) aNil))))
def F_is_name : FF := fnF 2 B_is_name
def B_read_name : SF :=
    (sSeq (sIf (tNot (tVal (eFn 1 F_is_name [] (aCons (eVar 0) aNil)))) (sRaise1 "BadText" (eC (.int 0))) sSkip)
    (sRet (eVar 0)))
def F_read_name : FF := fnF 1 B_read_name
abbrev le_read_plain_1 : EF :=
    (eBin (opInS false) (eVar 1) (eC (.str "0123456789")))
def B_read_plain : SF :=
    (sSeq (sIf (tOr (tNot (tVal (eChain opLe opLe (eC (.int 1)) (eCall cLen (aCons (eVar 0) aNil)) (eC (.int 30))))) (tNot (tVal (eCall cAll (aCons (eLc [1] (iSeq (eVar 0)) (bNm 1) tTrue le_read_plain_1) aNil))))) (sRaise1 "BadText" (eC (.int 0))) sSkip)
    (sSeq (sIf (tAnd (tVal (eBin opEq (eBin opIx (eVar 0) (eC (.int 0))) (eC (.str "0")))) (tVal (eBin opNe (eVar 0) (eC (.str "0"))))) (sRaise1 "BadText" (eC (.int 0))) sSkip)
    (sRet (eCall cIntS (aCons (eVar 0) aNil)))))
def F_read_plain : FF := fnF 2 B_read_plain
def B_read_number : SF :=
    (sSeq (sIf (tVal (eBin opEq (eSl opSl (eVar 0) oNone (oSome (eC (.int 1)))) (eC (.str "-")))) (sSeq (sSet 1 (eFn 1 F_read_plain [] (aCons (eSl opSl (eVar 0) (oSome (eC (.int 1))) oNone) aNil)))
    (sSeq (sIf (tVal (eBin opEq (eVar 1) (eC (.int 0)))) (sRaise1 "BadText" (eC (.int 0))) sSkip)
    (sRet (eUn opNeg (eVar 1))))) sSkip)
    (sRet (eFn 1 F_read_plain [] (aCons (eVar 0) aNil))))
def F_read_number : FF := fnF 2 B_read_number
abbrev le_read_row_1 : EF :=
    (eFn 1 F_read_number [] (aCons (eVar 1) aNil))
def B_read_row : SF :=
    (sSeq (sIf (tVal (eBin opEq (eVar 0) (eC (.str "-")))) (sRet (eTup aNil)) sSkip)
    (sRet (eCall cTuple (aCons (eLcX [1] (iSeq (eSplit (eVar 0) (eC (.str ",")))) (bNm 1) le_read_row_1) aNil))))
def F_read_row : FF := fnF 2 B_read_row
abbrev le_read_words_1 : EF :=
    (eFn 1 F_read_plain [] (aCons (eVar 5) aNil))
abbrev le_read_words_2 : EF :=
    (eFn 1 F_read_name [] (aCons (eVar 4) aNil))
def B_read_words : SF :=
    (sSeq (sStarL 2 3 (eVar 0))
    (sSeq (sIf (tAnd (tVal (eBin opIn (eVar 2) (eTup (aCons (eC (.str "begin")) (aCons (eC (.str "drop")) (aCons (eC (.str "forget")) aNil)))))) (tVal (eBin opEq (eCall cLen (aCons (eVar 3) aNil)) (eC (.int 1))))) (sRet (eTup (aCons (eVar 2) (aCons (eFn 1 F_read_name [] (aCons (eBin opIx (eVar 3) (eC (.int 0))) aNil)) aNil)))) sSkip)
    (sSeq (sIf (tAnd (tVal (eBin opIn (eVar 2) (eTup (aCons (eC (.str "put")) (aCons (eC (.str "take")) (aCons (eC (.str "finer")) (aCons (eC (.str "lesser")) aNil))))))) (tVal (eBin opEq (eCall cLen (aCons (eVar 3) aNil)) (eC (.int 2))))) (sRet (eTup (aCons (eVar 2) (aCons (eFn 1 F_read_name [] (aCons (eBin opIx (eVar 3) (eC (.int 0))) aNil)) (aCons (eCall cTuple (aCons (eLcX [5] (iSeq (eSplit (eBin opIx (eVar 3) (eC (.int 1))) (eC (.str ".")))) (bNm 5) le_read_words_1) aNil)) aNil))))) sSkip)
    (sSeq (sIf (tOr (tVal (eBin opNe (eVar 2) (eC (.str "keep")))) (tVal (eBin opNe (eCall cLen (aCons (eVar 3) aNil)) (eC (.int 6))))) (sRaise1 "BadText" (eC (.int 0))) sSkip)
    (sSeq (sSet 1 (eLcX [4] (iSeq (eSl opSl (eVar 3) oNone (oSome (eC (.int 3))))) (bNm 4) le_read_words_2))
    (sRet (eTup (aCons (eVar 2) (aCons (eBin opIx (eVar 1) (eC (.int 0))) (aCons (eBin opIx (eVar 1) (eC (.int 1))) (aCons (eBin opIx (eVar 1) (eC (.int 2))) (aCons (eFn 1 F_read_plain [] (aCons (eBin opIx (eVar 3) (eC (.int 3))) aNil)) (aCons (eFn 1 F_read_plain [] (aCons (eBin opIx (eVar 3) (eC (.int 4))) aNil)) (aCons (eFn 1 F_read_row [] (aCons (eBin opIx (eVar 3) (eC (.int 5))) aNil)) aNil))))))))))))))
def F_read_words : FF := fnF 6 B_read_words
abbrev lb_deed_of_1 : SF :=
    (sSeq (sIf (tVal (eBin opNe (eSl opSl (eVar 2) oNone (oSome (eC (.int 1)))) (eC (.str " ")))) (sRaise1 "BadText" (eC (.int 0))) sSkip)
    (sExpr (eApp (eVar 1) (eFn 1 F_read_words [] (aCons (eSplit (eSl opSl (eVar 2) (oSome (eC (.int 1))) oNone) (eC (.str " "))) aNil)))))
def B_deed_of : SF :=
    (sSeq (sIf (tVal (eBin opEq (eVar 0) (eC (.str "all:")))) (sRet (eTup (aCons (eC (.str "bundle")) (aCons (eTup aNil) aNil)))) sSkip)
    (sSeq (sIf (tVal (eBin opNe (eSl opSl (eVar 0) oNone (oSome (eC (.int 4)))) (eC (.str "all:")))) (sRet (eFn 1 F_read_words [] (aCons (eSplit (eVar 0) (eC (.str " "))) aNil))) sSkip)
    (sSeq (sSet 1 (eLstO aNil))
    (sSeq (sFor (iSeq (eSplit (eSl opSl (eVar 0) (oSome (eC (.int 4))) oNone) (eC (.str ";")))) (bNm 2) lb_deed_of_1)
    (sRet (eTup (aCons (eC (.str "bundle")) (aCons (eCall cTuple (aCons (eFrzD (eVar 1)) aNil)) aNil))))))))
def F_deed_of : FF := fnF 3 B_deed_of
abbrev le_law_alike_1 (Fr : FF) : EF :=
    (eFn 2 Fr [] (aCons (eVar 2) (aCons (eVar 3) aNil)))
def B_law_alike (Fr : FF) : SF :=
    (sSeq (sIf (tOr (tVal (eCall cIsi (aCons (eVar 1) (aCons (eC (.ty "list")) aNil)))) (tVal (eCall cIsi (aCons (eVar 1) (aCons (eC (.ty "tuple")) aNil))))) (sSeq (sIf (tOr (tVal (eBin opNe (eCall cIsi (aCons (eVar 0) (aCons (eC (.ty "list")) aNil))) (eCall cIsi (aCons (eVar 1) (aCons (eC (.ty "list")) aNil))))) (tVal (eBin opNe (eCall cIsi (aCons (eVar 0) (aCons (eC (.ty "tuple")) aNil))) (eCall cIsi (aCons (eVar 1) (aCons (eC (.ty "tuple")) aNil)))))) (sRet (eC (.bl false))) sSkip)
    (sRet (eAnd (eBin opEq (eCall cLen (aCons (eVar 0) aNil)) (eCall cLen (aCons (eVar 1) aNil))) (eCall cAll (aCons (eLc [2, 3] (iZip (aCons (eVar 0) (aCons (eVar 1) aNil))) (bTup 2 (bCons (bNm 2) (bCons (bNm 3) bNil))) tTrue (le_law_alike_1 Fr)) aNil))))) sSkip)
    (sSeq (sIf (tOr (tVal (eBin opIsN (eVar 1) (eC .non))) (tVal (eBin opIsN (eVar 0) (eC .non)))) (sRet (eAnd (eBin opIsN (eVar 0) (eC .non)) (eBin opIsN (eVar 1) (eC .non)))) sSkip)
    (sSeq (sIf (tOr (tVal (eBin opNe (eCall cIsi (aCons (eVar 0) (aCons (eC (.ty "bool")) aNil))) (eCall cIsi (aCons (eVar 1) (aCons (eC (.ty "bool")) aNil))))) (tVal (eBin opNe (eCall cIsi (aCons (eVar 0) (aCons (eC (.ty "int")) aNil))) (eCall cIsi (aCons (eVar 1) (aCons (eC (.ty "int")) aNil)))))) (sRet (eC (.bl false))) sSkip)
    (sRet (eAnd (eBin opEq (eCall cIsi (aCons (eVar 0) (aCons (eC (.ty "str")) aNil))) (eCall cIsi (aCons (eVar 1) (aCons (eC (.ty "str")) aNil)))) (eBin opEq (eVar 0) (eVar 1)))))))
def F_law_alike : Nat → FF
  | 0 => fun _ _ => .no
  | d + 1 => fnF 4 (B_law_alike (F_law_alike d))
abbrev lb_law_1 : SF :=
    (sSet 3 (eFn 2 F_law_bent_text [] (aCons (eVar 1) (aCons (eVar 3) aNil))))
abbrev lm_law_1 : EF :=
    (eApp (eVar 6) (eFn 1 F_deed_of [] (aCons (eVar 3) aNil)))
abbrev lb_law_2 : SF :=
    (sSeq (sSet 3 (eFn 1 (F_law_text 3) [] (aCons (eFn 1 F_law_written_deed [] (aCons (eVar 1) aNil)) aNil)))
    (sSeq (sFor (iRange1 (eBin opAdd (eC (.int 1)) (eFn 2 F_law_take [] (aCons (eVar 1) (aCons (eC (.int 2)) aNil))))) (bNm 4) lb_law_1)
    (sSeq (sSet 5 (eFn 1 F_law_read [] (aCons (eVar 3) aNil)))
    (sSeq (sSet 6 (eLstO aNil))
    (sSeq (sSet 7 (eRef ["BadText"] lm_law_1))
    (sIf (tVal (eBin opIsN (eVar 5) (eC .non))) (sIf (tOr (tVal (eBin opNe (eVar 7) (eTup (aCons (eC (.str "BadText")) (aCons (eC (.int 0)) aNil))))) (tVal (eBin opNeL (eVar 6) (eLst aNil)))) (sRet (eC (.bl false))) sSkip) (sIf (tOr (tVal (eBin opNe (eVar 7) (eTup (aCons (eC (.str "let")) (aCons (eUn opNeg (eC (.int 1))) aNil))))) (tNot (tVal (eFn 2 (F_law_alike 6) [] (aCons (eFrzD (eVar 6)) (aCons (eLst (aCons (eVar 5) aNil)) aNil)))))) (sRet (eC (.bl false))) sSkip)))))))
def B_law : SF :=
    (sSeq (sSet 1 (eFn 1 F_law_box [] (aCons (eVar 0) aNil)))
    (sSeq (sFor (iRange1 (eC (.int 10))) (bNm 2) (sTrim lb_law_2))
    (sRet (eC (.bl true)))))
def F_law : FF := fnF 8 B_law
end L
namespace L
open PySem J M
open L2 hiding fin_ret fin_exc
local macro_rules | `(tactic| walk_at "ev") => `(tactic| try simp only [fn_ap, s_raise1c, a_lcX, a_upper, a_repl, a_split, a_fmt, s_star, s_starL, a_txt, a_rev, revR_lst, a_join, jnR_str, a_joined, jd_cons, jd_nil, a_fmtL, a_ownNeL, List.map_cons, List.map_nil, List.length_cons, List.length_nil, List.cons_append, List.nil_append, List.append_nil, Nat.reduceAdd, Nat.reduceSub, Nat.zero_add, List.replicate_succ, List.replicate_zero, s_seq, s_set, s_asg, s_if, s_ret, s_expr, s_for, s_skip, s_par, s_par3, s_setI, thn_nx, thn_ret, thn_no, thn_brk, thn_cnt, thn_exc, a_var, a_c, a_bin, a_un, a_call, a_nil, a_cons, a_tup, a_lst, a_lstO, a_val, a_tand, a_tor, a_tnot, a_if, a_and, a_or, a_not, a_chain, a_fn, a_lc', a_seq, a_range1, a_zip, a_sl, a_onone, a_osome, bnd_ok, bnd_no, bnd_exc, sbd_ok, sbd_no, sbd_exc, getV_some, toB_bl, toO_int, lift_some, lift_none, seqI_lst, seqI_scr, seqI_tup, seqI_str, rng1_int, zip_lst, zip_tup, onx_some, onh_some, List.getElem?_cons_zero, List.getElem?_cons_succ, List.set_cons_zero, List.set_cons_succ, o_sub, o_add, o_lt, o_le, o_gt, o_ge, o_neg, o_eqI, o_neI, o_eqB, o_neB, o_eqS, if_true, if_false, ite_true, ite_false, decide_true, decide_false, Bool.false_eq_true, Bool.true_eq_false, reduceIte, Bool.not_true, Bool.not_false, a_frzD, frzR_obj, frzO_fl, frzO_fzn, frzR_lst, frzR_tup, frzR_int, a_newO, newO_some, lList_lst, lList_tup, a_listRngO, lrO_int, a_repO, repO_lst, chkL_some, lstOf_obj, lstO_fl, lstO_fzn, lstR_obj, lstRO_fl, lstRO_lo, lstRO_fzn, a_pop, popR_obj, a_app, appV_obj, enumI_lst, a_enum, s_augI, augV_obj, augO_int, s_setD, a_dnew, a_fld, insOf_obj, insO_ins, insOf_ins, a_meth, noX_ok, a_make, s_fldS, setF_obj, a_aApp, afterR_ok, a_lcR, a_lenSc, a_dc2, bNm_ap, obd_some, trn_nx, a_knew, s_setK, a_keysK, keysI_dK, a_dc1, a_sortSc, a_ins, a_lc2, frzO_dK, frzR_dK, a_lcP, lcP_some, rootL_obj, rootO_fl, a_dictZip, s_setApp, s_raise0, a_own, a_lenOwn, a_isiC, a_items, a_methX, a_makeX, J.fin_exc, a_listRng, lrD_int, a_dictD, dcp_dK, a_valsD, valsD_dT, a_dictZipT, a_valsD, valsD_dT, a_maxD, a_lc3, a_dc1T])
local macro_rules | `(tactic| walk_at "evd") => `(tactic| try simp (disch := first | decide | omega) only [o_mod, o_fdiv, o_pow, o_mul_r, o_mul_l, fn_ap, s_raise1c, a_lcX, a_upper, a_repl, a_split, a_fmt, s_star, s_starL, a_txt, a_rev, revR_lst, a_join, jnR_str, a_joined, jd_cons, jd_nil, a_fmtL, a_ownNeL, List.map_cons, List.map_nil, List.length_cons, List.length_nil, List.cons_append, List.nil_append, List.append_nil, Nat.reduceAdd, Nat.reduceSub, Nat.zero_add, List.replicate_succ, List.replicate_zero, s_seq, s_set, s_asg, s_if, s_ret, s_expr, s_for, s_skip, s_par, s_par3, s_setI, thn_nx, thn_ret, thn_no, thn_brk, thn_cnt, thn_exc, a_var, a_c, a_bin, a_un, a_call, a_nil, a_cons, a_tup, a_lst, a_lstO, a_val, a_tand, a_tor, a_tnot, a_if, a_and, a_or, a_not, a_chain, a_fn, a_lc', a_seq, a_range1, a_zip, a_sl, a_onone, a_osome, bnd_ok, bnd_no, bnd_exc, sbd_ok, sbd_no, sbd_exc, getV_some, toB_bl, toO_int, lift_some, lift_none, seqI_lst, seqI_scr, seqI_tup, seqI_str, rng1_int, zip_lst, zip_tup, onx_some, onh_some, List.getElem?_cons_zero, List.getElem?_cons_succ, List.set_cons_zero, List.set_cons_succ, o_sub, o_add, o_lt, o_le, o_gt, o_ge, o_neg, o_eqI, o_neI, o_eqB, o_neB, o_eqS, if_true, if_false, ite_true, ite_false, decide_true, decide_false, Bool.false_eq_true, Bool.true_eq_false, reduceIte, Bool.not_true, Bool.not_false, a_frzD, frzR_obj, frzO_fl, frzO_fzn, frzR_lst, frzR_tup, frzR_int, a_newO, newO_some, lList_lst, lList_tup, a_listRngO, lrO_int, a_repO, repO_lst, chkL_some, lstOf_obj, lstO_fl, lstO_fzn, lstR_obj, lstRO_fl, lstRO_lo, lstRO_fzn, a_pop, popR_obj, a_app, appV_obj, enumI_lst, a_enum, s_augI, augV_obj, augO_int, s_setD, a_dnew, a_fld, insOf_obj, insO_ins, insOf_ins, a_meth, noX_ok, a_make, s_fldS, setF_obj, a_aApp, afterR_ok, a_lcR, a_lenSc, a_dc2, bNm_ap, obd_some, trn_nx, a_knew, s_setK, a_keysK, keysI_dK, a_dc1, a_sortSc, a_ins, a_lc2, frzO_dK, frzR_dK, a_lcP, lcP_some, rootL_obj, rootO_fl, a_dictZip, s_setApp, s_raise0, a_own, a_lenOwn, a_isiC, a_items, a_methX, a_makeX, J.fin_exc, a_listRng, lrD_int, a_dictD, dcp_dK, a_valsD, valsD_dT, a_dictZipT, a_valsD, valsD_dT, a_maxD, a_lc3, a_dc1T])
local macro_rules | `(tactic| walk_at "eva") => `(tactic| try simp only [fn_ap, s_raise1c, a_lcX, a_upper, a_repl, a_split, a_fmt, s_star, s_starL, a_txt, a_rev, revR_lst, a_join, jnR_str, a_joined, jd_cons, jd_nil, a_fmtL, a_ownNeL, List.map_cons, List.map_nil, List.length_cons, List.length_nil, List.cons_append, List.nil_append, List.append_nil, Nat.reduceAdd, Nat.reduceSub, Nat.zero_add, List.replicate_succ, List.replicate_zero, s_seq, s_set, s_asg, s_if, s_ret, s_expr, s_for, s_skip, s_par, s_par3, s_setI, thn_nx, thn_ret, thn_no, thn_brk, thn_cnt, thn_exc, a_var, a_c, a_bin, a_un, a_call, a_nil, a_cons, a_tup, a_lst, a_lstO, a_val, a_tand, a_tor, a_tnot, a_if, a_and, a_or, a_not, a_chain, a_fn, a_lc', a_seq, a_range1, a_zip, a_sl, a_onone, a_osome, bnd_ok, bnd_no, bnd_exc, sbd_ok, sbd_no, sbd_exc, getV_some, toB_bl, toO_int, lift_some, lift_none, seqI_lst, seqI_scr, seqI_tup, seqI_str, rng1_int, zip_lst, zip_tup, onx_some, onh_some, List.getElem?_cons_zero, List.getElem?_cons_succ, List.set_cons_zero, List.set_cons_succ, o_sub, o_add, o_lt, o_le, o_gt, o_ge, o_neg, o_eqI, o_neI, o_eqB, o_neB, o_eqS, if_true, if_false, ite_true, ite_false, decide_true, decide_false, Bool.false_eq_true, Bool.true_eq_false, reduceIte, Bool.not_true, Bool.not_false, a_frzD, frzR_obj, frzO_fl, frzO_fzn, frzR_lst, frzR_tup, frzR_int, a_newO, newO_some, lList_lst, lList_tup, a_listRngO, lrO_int, a_repO, repO_lst, chkL_some, lstOf_obj, lstO_fl, lstO_fzn, lstR_obj, lstRO_fl, lstRO_lo, lstRO_fzn, a_pop, popR_obj, a_app, appV_obj, enumI_lst, a_enum, s_augI, augV_obj, augO_int, s_setD, a_dnew, a_fld, insOf_obj, insO_ins, insOf_ins, a_meth, noX_ok, a_make, s_fldS, setF_obj, a_aApp, afterR_ok, a_lcR, a_lenSc, a_dc2, bNm_ap, obd_some, trn_nx, a_knew, s_setK, a_keysK, keysI_dK, a_dc1, a_sortSc, a_ins, a_lc2, frzO_dK, frzR_dK, a_lcP, lcP_some, rootL_obj, rootO_fl, a_dictZip, s_setApp, s_raise0, a_own, a_lenOwn, a_isiC, a_items, a_methX, a_makeX, J.fin_exc, a_listRng, lrD_int, a_dictD, dcp_dK, a_valsD, valsD_dT, a_dictZipT, a_valsD, valsD_dT, a_maxD, a_lc3, a_dc1T, a_dcP, dcS_some, seqP_lst, a_rev, revR_lst, a_clr, clrR_obj, clrO_fl, a_ownD, isi_NoneType_list, isi_NoneType_tuple, isi_NoneType_bool, isi_NoneType_int, isi_NoneType_str, isi_bool_list, isi_bool_tuple, isi_bool_bool, isi_bool_int, isi_bool_str, isi_int_list, isi_int_tuple, isi_int_bool, isi_int_int, isi_int_str, isi_str_list, isi_str_tuple, isi_str_bool, isi_str_int, isi_str_str, isi_tuple_list, isi_tuple_tuple, isi_tuple_bool, isi_tuple_int, isi_tuple_str, isi_list_list, isi_list_tuple, isi_list_bool, isi_list_int, isi_list_str, opIsN, opNotN, VV.isObj, len_lst, len_tup, list_lst, list_tup, tuple_lst, x_lst, x_tup])
local macro_rules | `(tactic| walk_at "evad") => `(tactic| try simp (disch := first | decide | omega) only [o_mod, o_fdiv, o_pow, o_mul_r, o_mul_l, fn_ap, s_raise1c, a_lcX, a_upper, a_repl, a_split, a_fmt, s_star, s_starL, a_txt, a_rev, revR_lst, a_join, jnR_str, a_joined, jd_cons, jd_nil, a_fmtL, a_ownNeL, List.map_cons, List.map_nil, List.length_cons, List.length_nil, List.cons_append, List.nil_append, List.append_nil, Nat.reduceAdd, Nat.reduceSub, Nat.zero_add, List.replicate_succ, List.replicate_zero, s_seq, s_set, s_asg, s_if, s_ret, s_expr, s_for, s_skip, s_par, s_par3, s_setI, thn_nx, thn_ret, thn_no, thn_brk, thn_cnt, thn_exc, a_var, a_c, a_bin, a_un, a_call, a_nil, a_cons, a_tup, a_lst, a_lstO, a_val, a_tand, a_tor, a_tnot, a_if, a_and, a_or, a_not, a_chain, a_fn, a_lc', a_seq, a_range1, a_zip, a_sl, a_onone, a_osome, bnd_ok, bnd_no, bnd_exc, sbd_ok, sbd_no, sbd_exc, getV_some, toB_bl, toO_int, lift_some, lift_none, seqI_lst, seqI_scr, seqI_tup, seqI_str, rng1_int, zip_lst, zip_tup, onx_some, onh_some, List.getElem?_cons_zero, List.getElem?_cons_succ, List.set_cons_zero, List.set_cons_succ, o_sub, o_add, o_lt, o_le, o_gt, o_ge, o_neg, o_eqI, o_neI, o_eqB, o_neB, o_eqS, if_true, if_false, ite_true, ite_false, decide_true, decide_false, Bool.false_eq_true, Bool.true_eq_false, reduceIte, Bool.not_true, Bool.not_false, a_frzD, frzR_obj, frzO_fl, frzO_fzn, frzR_lst, frzR_tup, frzR_int, a_newO, newO_some, lList_lst, lList_tup, a_listRngO, lrO_int, a_repO, repO_lst, chkL_some, lstOf_obj, lstO_fl, lstO_fzn, lstR_obj, lstRO_fl, lstRO_lo, lstRO_fzn, a_pop, popR_obj, a_app, appV_obj, enumI_lst, a_enum, s_augI, augV_obj, augO_int, s_setD, a_dnew, a_fld, insOf_obj, insO_ins, insOf_ins, a_meth, noX_ok, a_make, s_fldS, setF_obj, a_aApp, afterR_ok, a_lcR, a_lenSc, a_dc2, bNm_ap, obd_some, trn_nx, a_knew, s_setK, a_keysK, keysI_dK, a_dc1, a_sortSc, a_ins, a_lc2, frzO_dK, frzR_dK, a_lcP, lcP_some, rootL_obj, rootO_fl, a_dictZip, s_setApp, s_raise0, a_own, a_lenOwn, a_isiC, a_items, a_methX, a_makeX, J.fin_exc, a_listRng, lrD_int, a_dictD, dcp_dK, a_valsD, valsD_dT, a_dictZipT, a_valsD, valsD_dT, a_maxD, a_lc3, a_dc1T, a_dcP, dcS_some, seqP_lst, a_rev, revR_lst, a_clr, clrR_obj, clrO_fl, a_ownD, isi_NoneType_list, isi_NoneType_tuple, isi_NoneType_bool, isi_NoneType_int, isi_NoneType_str, isi_bool_list, isi_bool_tuple, isi_bool_bool, isi_bool_int, isi_bool_str, isi_int_list, isi_int_tuple, isi_int_bool, isi_int_int, isi_int_str, isi_str_list, isi_str_tuple, isi_str_bool, isi_str_int, isi_str_str, isi_tuple_list, isi_tuple_tuple, isi_tuple_bool, isi_tuple_int, isi_tuple_str, isi_list_list, isi_list_tuple, isi_list_bool, isi_list_int, isi_list_str, opIsN, opNotN, VV.isObj, len_lst, len_tup, list_lst, list_tup, tuple_lst, x_lst, x_tup])
/-! the drawing box -/
structure Bx where
  xs : List Int
  pos : Nat
  left : Int
  cnt : Int
  seed : Int
def Bx.v (b : Bx) : VO := .fl [.lst (b.xs.map VV.int), .int b.pos, .int b.left, .int b.cnt, .int b.seed]
theorem fmod_rng (a : Int) {m : Int} (h : 0 < m) : 0 ≤ a.fmod m ∧ a.fmod m < m := by
  rw [Int.fmod_eq_emod_of_nonneg _ (by omega)]
  exact ⟨Int.emod_nonneg _ (by omega), Int.emod_lt_of_pos _ h⟩
theorem mixed_eq (a t : Int) (h : VH) : ∃ r, F_law_mixed [.int a, .int t] h = .ok (.int r) h ∧ 0 ≤ r := by
  unfold F_law_mixed B_law_mixed
  have h1 := fmod_rng (a * 48271 + t * 69621 + 12345) (m := 2147483647) (by decide)
  walk_at "evd"
  rw [fin_ret rfl]
  refine ⟨_, rfl, ?_⟩
  rw [Int.fdiv_eq_ediv_of_nonneg _ (by decide)]
  exact Int.ediv_nonneg (fmod_rng _ (by decide)).1 (by decide)
theorem take_eq {n : Nat} {h : VH} {b : Bx} {m : Int} (hb : h[n]? = some b.v) (hm : 0 < m) (hl : m.natAbs.log2 < 9000) : ∃ r b', F_law_take [.obj n, .int m] h = .ok (.int r) (h.set n (Bx.v b')) ∧ 0 ≤ r ∧ r < m := by
  obtain ⟨xs, pos, left, cnt, seed⟩ := b
  have hn : n < h.length := lt_of_get hb
  unfold Bx.v at hb
  simp only at hb
  unfold F_law_take B_law_take
  -- count
  have hb1 : (h.set n (.fl [.lst (xs.map VV.int), .int pos, .int left, .int (cnt + 1), .int seed]))[n]? = some (.fl [.lst (xs.map VV.int), .int pos, .int left, .int (cnt + 1), .int seed]) := get_set hn
  have s1 : setI h (.obj n) (.int 3) (.int (cnt + 1)) = some (h.set n (.fl [.lst (xs.map VV.int), .int pos, .int left, .int (cnt + 1), .int seed])) := set_root (j := 3) hb rfl rfl
  walk_at "ev"
  simp only [ix_root hb, at5_3]
  walk_at "ev"
  simp only [s1]
  walk_at "ev"
  simp only [ix_root hb1, at5_2]
  walk_at "ev"
  generalize eh1 : h.set n (.fl [.lst (xs.map VV.int), .int pos, .int left, .int (cnt + 1), .int seed]) = h1 at hb1
  have hn1 : n < h1.length := by rw [← eh1, List.length_set]; exact hn
  have hl1 : h1.length = h.length := by rw [← eh1, List.length_set]
  by_cases c1 : 0 < left
  · simp only [decide_eq_true c1, reduceIte]
    walk_at "ev"
    simp only [ix_root hb1, at5_2]
    walk_at "ev"
    simp (disch := omega) only [o_fdiv (j := m) (by omega) hl, o_mod (j := m) (by omega)]
    walk_at "ev"
    have s2 : setI h1 (.obj n) (.int 2) (.int (left.fdiv m)) = some (h1.set n (.fl [.lst (xs.map VV.int), .int pos, .int (left.fdiv m), .int (cnt + 1), .int seed])) := set_root (j := 2) hb1 rfl rfl
    simp only [s2]
    walk_at "ev"
    simp (disch := omega) only [o_mod (j := m) (by omega)]
    walk_at "ev"
    rw [fin_ret (by rw [List.length_set]; exact hl1)]
    refine ⟨_, ⟨xs, pos, left.fdiv m, cnt + 1, seed⟩, ?_, fmod_rng left hm⟩
    rw [← eh1, List.set_set]; rfl
  · simp only [decide_eq_false c1, Bool.false_eq_true, reduceIte]
    walk_at "ev"
    simp only [ix_root hb1, at5_1, at5_0]
    walk_at "ev"
    simp only [ix_root hb1, at5_1, at5_0]
    walk_at "ev"
    simp only [len_lst, List.length_map]
    walk_at "ev"
    by_cases c2 : (xs.length : Int) ≤ pos
    · simp only [decide_eq_true c2, reduceIte]
      walk_at "ev"
      simp only [ix_root hb1, at5_4, at5_3]
      walk_at "ev"
      simp only [ix_root hb1, at5_4, at5_3]
      walk_at "ev"
      obtain ⟨r, er, hr⟩ := mixed_eq seed (cnt + 1) h1
      simp only [er]
      walk_at "ev"
      simp (disch := omega) only [o_mod (j := m) (by omega)]
      walk_at "ev"
      rw [fin_ret hl1]
      refine ⟨_, ⟨xs, pos, left, cnt + 1, seed⟩, ?_, fmod_rng r hm⟩
      rw [← eh1]; rfl
    · simp only [decide_eq_false c2, Bool.false_eq_true, reduceIte]
      have hp : pos < xs.length := by omega
      walk_at "ev"
      simp only [ix_root hb1, at5_1, at5_0]
      walk_at "ev"
      simp only [ix_root hb1, at5_1, at5_0]
      walk_at "ev"
      have ex : atI (xs.map VV.int) (pos : Int) = some (.int xs[pos]) := atI_in (by rw [List.getElem?_map, List.getElem?_eq_getElem hp]; rfl)
      simp only [x_lst, ex]
      walk_at "ev"
      simp only [ix_root hb1, at5_1, at5_0]
      walk_at "ev"
      have s3 : setI h1 (.obj n) (.int 1) (.int ((pos : Int) + 1)) = some (h1.set n (.fl [.lst (xs.map VV.int), .int ((pos : Int) + 1), .int left, .int (cnt + 1), .int seed])) := set_root (j := 1) hb1 rfl rfl
      simp only [s3]
      walk_at "ev"
      have hb2 : (h1.set n (.fl [.lst (xs.map VV.int), .int ((pos : Int) + 1), .int left, .int (cnt + 1), .int seed]))[n]? = some (.fl [.lst (xs.map VV.int), .int ((pos : Int) + 1), .int left, .int (cnt + 1), .int seed]) := get_set hn1
      generalize eh2 : h1.set n (.fl [.lst (xs.map VV.int), .int ((pos : Int) + 1), .int left, .int (cnt + 1), .int seed]) = h2 at hb2
      have hl2 : h2.length = h.length := by rw [← eh2, List.length_set]; exact hl1
      walk_at "evd"
      by_cases c3 : xs[pos] < 10 ^ Int.toNat 18
      · simp only [decide_eq_true c3, reduceIte]
        walk_at "ev"
        simp only [ix_root hb2, at5_3]
        walk_at "ev"
        obtain ⟨r, er, hr⟩ := mixed_eq xs[pos] (cnt + 1) h2
        simp only [er]
        walk_at "ev"
        simp (disch := omega) only [o_mod (j := m) (by omega)]
        walk_at "ev"
        rw [fin_ret hl2]
        refine ⟨_, ⟨xs, pos + 1, left, cnt + 1, seed⟩, ?_, fmod_rng r hm⟩
        rw [← eh2, ← eh1, List.set_set]; rfl
      · simp only [decide_eq_false c3, Bool.false_eq_true, reduceIte]
        walk_at "ev"
        simp (disch := omega) only [o_fdiv (j := m) (by omega) hl, o_mod (j := m) (by omega)]
        walk_at "ev"
        have s4 : setI h2 (.obj n) (.int 2) (.int (xs[pos].fdiv m)) = some (h2.set n (.fl [.lst (xs.map VV.int), .int ((pos : Int) + 1), .int (xs[pos].fdiv m), .int (cnt + 1), .int seed])) := set_root (j := 2) hb2 rfl rfl
        simp only [s4]
        walk_at "ev"
        simp (disch := omega) only [o_mod (j := m) (by omega)]
        walk_at "ev"
        rw [fin_ret (by rw [List.length_set]; exact hl2)]
        refine ⟨_, ⟨xs, pos + 1, xs[pos].fdiv m, cnt + 1, seed⟩, ?_, fmod_rng xs[pos] hm⟩
        rw [← eh2, ← eh1, List.set_set, List.set_set]; rfl
theorem cut_ints (ns : List Int) (lo hi : Option Int) : ∃ ms : List Int, cut (ns.map VV.int) lo hi = ms.map VV.int ∧ ms.length ≤ ns.length := by
  refine ⟨(ns.drop (HT.sIx ns.length 0 lo)).take (HT.sIx ns.length ns.length hi - HT.sIx ns.length 0 lo), ?_, ?_⟩
  · unfold cut
    rw [List.length_map, List.map_take, List.map_drop]
  · rw [List.length_take, List.length_drop]; omega
theorem sl_scr {h : VH} {xs : List VV} {lo hi : Option Int} : opSl h (.scr xs) lo hi = some (.lst (cut xs lo hi)) := rfl
theorem box_eq (ns : List Int) : ∃ b : Bx, F_law_box [.scr (ns.map VV.int)] [] = .ok (.obj 0) [b.v] := by
  obtain ⟨ms, em, hl⟩ := cut_ints ns none (some 63)
  unfold F_law_box B_law_box
  walk_at "ev"
  simp only [sl_scr, em]
  walk_at "ev"
  have lp := for_inv (b := bNm 2) (body := sSet 1 (eBin opMod (eBin opAdd (eBin opAdd (eBin opMul (eVar 1) (eC (.int 31))) (eVar 2)) (eC (.int 17))) (eC (.int 2147483647)))) (fun ρ h => h = [] ∧ ∃ s o, ρ = [some (.scr (ns.map VV.int)), some (.int s), o]) (xs := ms.map VV.int) (ρ := [some (.scr (ns.map VV.int)), some (.int 0), none]) (h := []) ⟨rfl, 0, none, rfl⟩ (by
    rintro x hx ρ h ⟨rfl, s, o, rfl⟩
    obtain ⟨c, _, rfl⟩ := List.mem_map.mp hx
    refine ⟨_, _, _, rfl, ?_, rfl, (s * 31 + c + 17).fmod 2147483647, some (.int c), rfl⟩
    walk_at "evd")
  obtain ⟨ρ2, h2, e2, rfl, s, o, rfl⟩ := lp
  simp only [e2]
  walk_at "ev"
  simp only [sl_scr, em]
  walk_at "eva"
  simp only [List.any_cons, List.any_nil, VV.isObj, Bool.or_false, Bool.false_eq_true, false_or, List.length_cons, List.length_nil]
  rw [if_neg (by decide)]
  walk_at "ev"
  exact ⟨⟨ms, 0, 0, 0, s⟩, rfl⟩
theorem take1 (b : Bx) {m : Int} (hm : 0 < m) (hl : m < 2 ^ 200) : ∃ r b', F_law_take [.obj 0, .int m] [b.v] = .ok (.int r) [Bx.v b'] ∧ 0 ≤ r ∧ r < m := by
  have := take_eq (n := 0) (h := [b.v]) (b := b) (m := m) rfl hm (by
    have h1 : m.natAbs < 2 ^ 200 := by omega
    have := Nat.log2_lt (n := m.natAbs) (by omega) |>.mpr h1
    omega)
  exact this
theorem great_eq (b : Bx) : ∃ (n : Nat) (b' : Bx), F_law_great_number [.obj 0] [b.v] = .ok (.int (n : Int)) [b'.v] ∧ n < 10 ^ 30 := by
  unfold F_law_great_number B_law_great_number
  obtain ⟨r1, b1, e1, r10, r11⟩ := take1 b (m := 1000) (by decide) (by decide)
  obtain ⟨r2, b2, e2, r20, r21⟩ := take1 b1 (m := 10 ^ Int.toNat 30) (by decide) (by decide)
  obtain ⟨r3, b3, e3, r30, r31⟩ := take1 b2 (m := 5) (by decide) (by decide)
  walk_at "ev"
  simp only [e1]
  walk_at "evd"
  simp only [e2]
  walk_at "evd"
  rw [if_neg (by simp [VV.isObj]; decide)]
  walk_at "ev"
  simp only [e3]
  walk_at "ev"
  have hv : ∃ n : Nat, n < 10 ^ 30 ∧ ∀ h : VH, opIx h (.lst [.int 0, .int 9, .int r1, .int (10 ^ Int.toNat 30 - 1), .int r2]) (.int r3) = some (.int (n : Int)) := by
    have r21' : r2 < 1000000000000000000000000000000 := r21
    rcases (by omega : r3 = 0 ∨ r3 = 1 ∨ r3 = 2 ∨ r3 = 3 ∨ r3 = 4) with z | z | z | z | z <;> subst z
    · exact ⟨0, by decide, fun _ => rfl⟩
    · exact ⟨9, by decide, fun _ => rfl⟩
    · exact ⟨r1.toNat, by omega, fun _ => by rw [Int.toNat_of_nonneg r10]; rfl⟩
    · exact ⟨999999999999999999999999999999, by decide, fun _ => rfl⟩
    · exact ⟨r2.toNat, by omega, fun _ => by rw [Int.toNat_of_nonneg r20]; rfl⟩
  obtain ⟨n, hn, hx⟩ := hv
  simp only [hx]
  walk_at "ev"
  exact ⟨n, b3, fin_o rfl rfl, hn⟩
def nmV (l : List Nat) : VV := .str ⟨l.toArray⟩
structure Nm (l : List Nat) : Prop where
  pos : 1 ≤ l.length
  le : l.length ≤ 8
  az : ∀ c ∈ l, 97 ≤ c ∧ c ≤ 122
def rowN (base : List Int) (at' : Nat) (x : Int) (k : Nat) : List Int := (base.take at' ++ [x] ++ base.drop at').drop k
theorem rowN_len {base : List Int} {at' k : Nat} {x : Int} (h1 : at' ≤ base.length) (h2 : k ≤ at') : 1 ≤ (rowN base at' x k).length ∧ (rowN base at' x k).length ≤ base.length + 1 := by
  unfold rowN
  simp only [List.length_drop, List.length_append, List.length_take, List.length_cons, List.length_nil]
  omega
theorem rowN_mem {base : List Int} {at' k : Nat} {x : Int} (hb : ∀ i ∈ base, 0 ≤ i ∧ i < 26) (hx : 0 ≤ x ∧ x < 26) : ∀ i ∈ rowN base at' x k, 0 ≤ i ∧ i < 26 := by
  intro i hi
  have := List.mem_of_mem_drop hi
  simp only [List.mem_append, List.mem_cons, List.not_mem_nil, or_false] at this
  rcases this with (h | h) | h
  · exact hb i (List.mem_of_mem_take h)
  · rw [h]; exact hx
  · exact hb i (List.mem_of_mem_drop h)
def letL (l : List Int) : List Nat := l.map fun i => 97 + i.toNat
theorem letter_ix {i : Int} {h : VH} (h0 : 0 ≤ i) (h1 : i < 26) : opIx h (.str "abcdefghijklmnopqrstuvwxyz") (.int i) = some (.str ⟨#[97 + i.toNat]⟩) := by
  obtain ⟨k, rfl⟩ := Int.eq_ofNat_of_zero_le h0
  have hk : k < 26 := by omega
  have key : ∀ k : Fin 26, opIx h (.str "abcdefghijklmnopqrstuvwxyz") (.int ((k : Nat) : Int)) = some (.str ⟨#[97 + (k : Nat)]⟩) := by
    intro k
    match k with
    | ⟨n, hn⟩ =>
      rcases n with _ | _ | _ | _ | _ | _ | _ | _ | _ | _ | _ | _ | _ | _ | _ | _ | _ | _ | _ | _ | _ | _ | _ | _ | _ | _ | n
      all_goals first | (exfalso; omega) | kernel_rfl
  exact key ⟨k, hk⟩
/-! sides -/
theorem cut_fore {xs : List VV} {k : Nat} (hk : k ≤ xs.length) : cut xs none (some (k : Int)) = xs.take k := by
  unfold cut
  have e1 : HT.sIx xs.length 0 none = 0 := rfl
  have e2 : HT.sIx xs.length xs.length (some (k : Int)) = k := by
    unfold HT.sIx
    simp only [Int.toNat_natCast]
    rw [if_neg (by omega)]
    omega
  rw [e1, e2, List.drop_zero, Nat.sub_zero]
theorem cut_back {xs : List VV} {k : Nat} (hk : k ≤ xs.length) : cut xs (some (k : Int)) none = xs.drop k := by
  unfold cut
  have e1 : HT.sIx xs.length 0 (some (k : Int)) = k := by
    unfold HT.sIx
    simp only [Int.toNat_natCast]
    rw [if_neg (by omega)]
    omega
  have e2 : HT.sIx xs.length xs.length none = xs.length := rfl
  rw [e1, e2]
  exact List.take_of_length_le (by rw [List.length_drop]; omega)
theorem sl_fore {l : List Int} {k : Int} {h : VH} (h0 : 0 ≤ k) (h1 : k ≤ l.length) : opSl h (.lst (l.map VV.int)) none (some k) = some (.lst ((l.take k.toNat).map VV.int)) := by
  obtain ⟨n, rfl⟩ := Int.eq_ofNat_of_zero_le h0
  show some (VV.lst (cut (l.map VV.int) none (some (n : Int)))) = _
  rw [cut_fore (by rw [List.length_map]; omega), List.map_take]; rfl
theorem sl_rest {l : List Int} {k : Int} {h : VH} (h0 : 0 ≤ k) (h1 : k ≤ l.length) : opSl h (.lst (l.map VV.int)) (some k) none = some (.lst ((l.drop k.toNat).map VV.int)) := by
  obtain ⟨n, rfl⟩ := Int.eq_ofNat_of_zero_le h0
  show some (VV.lst (cut (l.map VV.int) (some (n : Int)) none)) = _
  rw [cut_back (by rw [List.length_map]; omega), List.map_drop]; rfl
theorem ten_base (b : Bx) {m : Int} (h0 : 0 ≤ m) (h1 : m < 1000) {ρ : VSt} (hρ : ∃ x1, ρ = [some (.obj 0), x1, none, none, none, none, none, none, none, none]) : ∃ (l : List Int) (b' : Bx), lcGo (bNm 7) tTrue le_law_ten_names_1 ρ (rngV 0 m.toNat) [b.v] = .ok (l.map VV.int) [b'.v] ∧ (l.length : Int) = m ∧ ∀ i ∈ l, 0 ≤ i ∧ i < 26 := by
  obtain ⟨x1, rfl⟩ := hρ
  rw [rng_eq]
  obtain ⟨l, h', e4, ⟨b4, rfl⟩, l4, g4⟩ := lc_draw (b := bNm 7) (t := tTrue) (e := le_law_ten_names_1) (ρ := [some (.obj 0), x1, none, none, none, none, none, none, none, none]) (fun (i : Nat) => VV.int (0 + (i : Int))) VV.int (fun h => ∃ b : Bx, h = [b.v]) (fun i => 0 ≤ i ∧ i < 26) (ys := List.range m.toNat) (h := [b.v]) ⟨b, rfl⟩ (by
    rintro y _ h ⟨b, rfl⟩
    obtain ⟨r, b', e, r0, r1⟩ := take1 b (m := 26) (by decide) (by decide)
    refine ⟨_, r, [b'.v], rfl, rfl, ?_, rfl, ⟨b', rfl⟩, r0, r1⟩
    walk_at "ev"
    simp only [e]
    walk_at "ev")
  exact ⟨l, b4, e4, by rw [l4, List.length_range]; omega, g4⟩
theorem joinL_nil : ∀ ps : List (List Nat), TL.joinL [] ps = ps.flatten
  | [] => rfl
  | [p] => by simp [TL.joinL]
  | p :: q :: r => by
    rw [TL.joinL, joinL_nil (q :: r), List.nil_append, List.flatten_cons, List.flatten_cons, List.flatten_cons]
theorem join_signs (l : List Nat) : Txt.join Str.empty (l.map fun c => (⟨#[c]⟩ : Str)) = ⟨l.toArray⟩ := by
  rw [TL.join_eq]
  refine TL.ext_tl ?_
  rw [TL.tl_join, show TL.tl Str.empty = [] from rfl, joinL_nil, List.map_map]
  show (l.map fun c => [c]).flatten = l
  induction l with
  | nil => rfl
  | cons c l ih => rw [List.map_cons, List.flatten_cons, ih]; rfl
theorem add_ints {a b : List Int} {h : VH} (hl : a.length + b.length ≤ 1000) : opAdd h (.lst (a.map VV.int)) (.lst (b.map VV.int)) = some (.lst ((a ++ b).map VV.int)) := by
  show (if (a.map VV.int).length + (b.map VV.int).length ≤ SZ then some (VV.lst (a.map VV.int ++ b.map VV.int)) else none) = _
  rw [if_pos (by rw [List.length_map, List.length_map]; show a.length + b.length ≤ 16777216; omega), List.map_append]
theorem alike_refl : ∀ (d : Nat) (v : VV) (h : VH), isD v = true → dep v < d → wide v ≤ SZ → F_law_alike d [v, v] h = .ok (.bl true) h
  | 0, v, h, _, hd, _ => by omega
  | d + 1, v, h, hv, hd, hw => by
    unfold F_law_alike B_law_alike
    have seq : ∀ xs : List VV, (∀ x ∈ xs, F_law_alike d [x, x] h = .ok (.bl true) h) → ∀ (ρ : VSt) (v : VV), lcGo (bTup 2 (bCons (bNm 2) (bCons (bNm 3) bNil))) tTrue (eFn 2 (F_law_alike d) [] (aCons (eVar 2) (aCons (eVar 3) aNil))) [some v, some v, none, none] (prs xs xs) h = .ok (List.replicate xs.length (.bl true)) h := by
      intro xs hx ρ v
      rw [prs_same]
      have := lc_const (b := bTup 2 (bCons (bNm 2) (bCons (bNm 3) bNil))) (t := tTrue) (e := eFn 2 (F_law_alike d) [] (aCons (eVar 2) (aCons (eVar 3) aNil))) (ρ := [some v, some v, none, none]) (h := h) (v := .bl true) rfl (xs := xs.map fun x => .tup [x, x]) ?_
      · rw [List.length_map] at this; exact this
      · intro x hx'
        obtain ⟨y, hy, rfl⟩ := List.mem_map.mp hx'
        refine ⟨[some v, some v, some y, some y], rfl, rfl, ?_⟩
        walk_at "ev"
        exact hx y hy
    cases v with
    | non => walk_at "eva"; rw [fin_ret rfl]
    | bl b => walk_at "eva"; rw [fin_ret rfl]
    | int b => walk_at "eva"; rw [fin_ret rfl]
    | str b => walk_at "eva"; rw [fin_ret rfl]
    | tup xs =>
      rw [isD] at hv
      rw [dep] at hd
      rw [wide] at hw
      have hx : ∀ x ∈ xs, F_law_alike d [x, x] h = .ok (.bl true) h := fun x hx => alike_refl d x h (mem_isDs hv hx) (by have := mem_deps hx; omega) (by have := mem_deps hx; omega)
      walk_at "eva"
      simp only [prs_len, if_neg (show ¬ min xs.length xs.length > SZ by omega)]
      simp only [wp, List.set_cons_zero, List.set_cons_succ, seq xs hx [] (.tup xs), afterL_ok]
      walk_at "ev"
      simp only [all_true]
      walk_at "ev"
      rw [fin_ret rfl]
    | lst xs =>
      rw [isD] at hv
      rw [dep] at hd
      rw [wide] at hw
      have hx : ∀ x ∈ xs, F_law_alike d [x, x] h = .ok (.bl true) h := fun x hx => alike_refl d x h (mem_isDs hv hx) (by have := mem_deps hx; omega) (by have := mem_deps hx; omega)
      walk_at "eva"
      simp only [prs_len, if_neg (show ¬ min xs.length xs.length > SZ by omega)]
      simp only [wp, List.set_cons_zero, List.set_cons_succ, seq xs hx [] (.lst xs), afterL_ok]
      walk_at "ev"
      simp only [all_true]
      walk_at "ev"
      rw [fin_ret rfl]
    | _ => simp [isD] at hv
open L2 hiding fin_ret fin_exc
theorem ten_turn {x1 o8 : Option VV} {base : List Int} {at' start k : Int} {names : List (List Nat)} (b : Bx) (hb : ∀ i ∈ base, 0 ≤ i ∧ i < 26) (hl : base.length ≤ 7) (a0 : 0 ≤ at') (a1 : at' ≤ base.length) (s0 : 0 ≤ start) (s1 : start < 26) (k0 : 0 ≤ k) (k1 : k < 10) (hn : names.length ≤ 100) :
    ∃ (row : List Int), lb_law_ten_names_1 [some (.obj 0), x1, some (.lst (base.map VV.int)), some (.int at'), some (.str "abcdefghijklmnopqrstuvwxyz"), some (.int start), some (.obj 1), some (.int k), o8, none] [b.v, .fl (names.map nmV)]
      = .nx [some (.obj 0), x1, some (.lst (base.map VV.int)), some (.int at'), some (.str "abcdefghijklmnopqrstuvwxyz"), some (.int start), some (.obj 1), some (.int k), some (.lst (row.map VV.int)), none] [b.v, .fl ((names ++ [letL row]).map nmV)] ∧ Nm (letL row) := by
  obtain ⟨A, rfl⟩ := Int.eq_ofNat_of_zero_le a0
  have hx0 : 0 ≤ (start + k) % 26 := Int.emod_nonneg _ (by decide)
  have hx1 : (start + k) % 26 < 26 := Int.emod_lt_of_pos _ (by decide)
  have hk0 : 0 ≤ k % ((A : Int) + 1) := Int.emod_nonneg _ (by omega)
  have hk1 : k % ((A : Int) + 1) < (A : Int) + 1 := Int.emod_lt_of_pos _ (by omega)
  obtain ⟨j, hj⟩ := Int.eq_ofNat_of_zero_le hk0
  rw [hj] at hk0 hk1
  have fm1 : (start + k).fmod 26 = (start + k) % 26 := Int.fmod_eq_emod_of_nonneg _ (by decide)
  have fm2 : k.fmod ((A : Int) + 1) = (j : Int) := by rw [← hj]; exact Int.fmod_eq_emod_of_nonneg _ (by omega)
  generalize hx : (start + k) % 26 = x at *
  have hA : A ≤ base.length := by omega
  have hj' : j ≤ A := by omega
  have len1 : (base.take A ++ [x] ++ base.drop A).length = base.length + 1 := by
    simp only [List.length_append, List.length_take, List.length_cons, List.length_nil, List.length_drop]; omega
  obtain ⟨r1, r2⟩ := rowN_len (base := base) (x := x) (k := j) hA hj'
  have r3 := rowN_mem (base := base) (at' := A) (k := j) (x := x) hb ⟨hx0, hx1⟩
  refine ⟨rowN base A x j, ?_, ⟨by unfold letL; rw [List.length_map]; exact r1, by unfold letL; rw [List.length_map]; omega, ?_⟩⟩
  · walk_at "ev"
    simp only [sl_fore (l := base) (k := (A : Int)) a0 a1]
    walk_at "ev"
    simp only [o_mod (i := start + k) (j := 26) (by decide), fm1]
    walk_at "ev"
    simp only [List.any_cons, List.any_nil, VV.isObj, Bool.or_false, Bool.false_eq_true, false_or]
    rw [if_neg (by decide)]
    walk_at "ev"
    rw [show (VV.lst [VV.int x]) = .lst (([x] : List Int).map VV.int) from rfl, add_ints (by simp; omega)]
    walk_at "ev"
    simp only [sl_rest (l := base) (k := (A : Int)) a0 a1]
    walk_at "ev"
    rw [show ((A : Int)).toNat = A from rfl, add_ints (by simp; omega)]
    walk_at "ev"
    simp only [o_mod (i := k) (j := (A : Int) + 1) (by omega), fm2]
    walk_at "ev"
    simp only [sl_rest (l := base.take A ++ [x] ++ base.drop A) (k := (j : Int)) (by omega) (by rw [len1]; omega)]
    walk_at "ev"
    rw [show ((base.take A ++ [x] ++ base.drop A).drop ((j : Int)).toNat) = rowN base A x j from rfl]
    rw [if_neg (by rw [List.length_map]; show ¬ _ > 16777216; omega)]
    simp only [wp, List.set_cons_zero, List.set_cons_succ]
    rw [lc_map (b := bNm 9) (t := tTrue) (e := le_law_ten_names_2) VV.int (fun i => VV.str ⟨#[97 + i.toNat]⟩) (ys := rowN base A x j) (fun i hi => ⟨_, rfl, rfl, by
      obtain ⟨i0, i1⟩ := r3 i hi
      walk_at "ev"
      rw [letter_ix i0 i1]
      walk_at "ev", rfl⟩), afterL_ok]
    walk_at "ev"
    have hs : (rowN base A x j).map (fun i => VV.str ⟨#[97 + i.toNat]⟩) = ((letL (rowN base A x j)).map fun c => (⟨#[c]⟩ : Str)).map VV.str := by
      unfold letL
      rw [List.map_map, List.map_map]; rfl
    have hsum : ∀ l : List Nat, ((l.map fun c => (⟨#[c]⟩ : Str)).map (·.length)).sum = l.length := by
      intro l
      induction l with
      | nil => rfl
      | cons c l ih => simp only [List.map_cons, List.sum_cons, ih, List.length_cons]; show 1 + l.length = _; omega
    rw [hs, joinR_lst (by
      rw [hsum, List.length_map]
      show _ + _ * 0 ≤ 16777216
      unfold letL
      rw [List.length_map]; omega)]
    walk_at "ev"
    rw [show (Txt.join (Str.ofString "") ((letL (rowN base A x j)).map fun c => (⟨#[c]⟩ : Str))) = ⟨(letL (rowN base A x j)).toArray⟩ from join_signs _]
    rw [appO_fl (by rw [List.length_map]; omega) rfl]
    walk_at "ev"
    rw [List.map_append]; rfl
  · intro c hc
    obtain ⟨i, hi, rfl⟩ := List.mem_map.mp hc
    obtain ⟨i0, i1⟩ := r3 i hi
    omega
theorem ten_eq (b : Bx) : ∃ (names : List (List Nat)) (b' : Bx), F_law_ten_names [.obj 0] [b.v] = .ok (.lst (names.map nmV)) [b'.v] ∧ names.length = 10 ∧ ∀ l ∈ names, Nm l := by
  obtain ⟨m, b1, e1, m0, m1⟩ := take1 b (m := 8) (by decide) (by decide)
  obtain ⟨base, b2, e2, lb, gb⟩ := ten_base b1 (m := m) m0 (by omega) (ρ := [some (.obj 0), some (.int m), none, none, none, none, none, none, none, none]) ⟨_, rfl⟩
  obtain ⟨a, b3, e3, a0, a1⟩ := take1 b2 (m := m + 1) (by omega) (by omega)
  obtain ⟨st, b4, e4, s0, s1⟩ := take1 b3 (m := 26) (by decide) (by decide)
  unfold F_law_ten_names B_law_ten_names
  walk_at "ev"
  simp only [e1]
  walk_at "ev"
  rw [if_pos (rngB m0 (by omega))]
  walk_at "ev"
  rw [if_neg (by show ¬ (rngV 0 m.toNat).length > 16777216; rw [show (rngV 0 m.toNat).length = m.toNat by unfold rngV; simp]; omega)]
  simp only [wp, List.set_cons_zero, List.set_cons_succ, e2, afterL_ok]
  walk_at "ev"
  simp only [e3]
  walk_at "ev"
  simp only [e4]
  walk_at "ev"
  simp only [List.any_nil, Bool.false_eq_true, false_or]
  rw [if_neg (by decide)]
  walk_at "ev"
  rw [if_pos (by decide)]
  walk_at "ev"
  rw [rng_eq]
  obtain ⟨ρ2, h2, e5, names, o7, o8, rfl, rfl, hl, hN⟩ := for_pre (b := bNm 7) (body := lb_law_ten_names_1) (fun (i : Nat) => VV.int (0 + (i : Int)))
    (fun pre ρ h => ∃ (names : List (List Nat)) (o7 o8 : Option VV), ρ = [some (.obj 0), some (.int m), some (.lst (base.map VV.int)), some (.int a), some (.str "abcdefghijklmnopqrstuvwxyz"), some (.int st), some (.obj 1), o7, o8, none] ∧ h = [b4.v, .fl (names.map nmV)] ∧ names.length = pre.length ∧ ∀ l ∈ names, Nm l)
    (List.range (Int.toNat 10)) (ρ := [some (.obj 0), some (.int m), some (.lst (base.map VV.int)), some (.int a), some (.str "abcdefghijklmnopqrstuvwxyz"), some (.int st), some (.obj 1), none, none, none]) (h := [b4.v, .fl []]) ⟨[], none, none, rfl, rfl, rfl, by simp⟩ (by
      rintro pre k post ey ρ h ⟨names, o7, o8, rfl, rfl, hl, hN⟩
      have hk : k < 10 := List.mem_range.mp (show k ∈ List.range 10 by rw [show (10 : Nat) = Int.toNat 10 from rfl, ey]; simp)
      have hp : pre.length ≤ 10 := by
        have := congrArg List.length ey
        rw [List.length_range, List.length_append] at this
        have : Int.toNat 10 = 10 := rfl
        omega
      obtain ⟨row, e, nm⟩ := ten_turn (x1 := some (.int m)) (o8 := o8) (base := base) (at' := a) (start := st) (k := 0 + (k : Int)) (names := names) b4 gb (by omega) a0 (by omega) s0 s1 (by omega) (by omega) (by omega)
      exact ⟨_, _, _, rfl, e, names ++ [letL row], _, _, rfl, rfl, by rw [List.length_append, List.length_append, hl]; rfl, fun l hl => by
        rcases List.mem_append.mp hl with h | h
        · exact hN l h
        · rw [List.mem_singleton.mp h]; exact nm⟩)
  rw [e5, thn_nx]
  walk_at "ev"
  exact ⟨names, b4, fin_o rfl rfl, by rw [hl, List.length_range]; rfl, hN⟩
open L2 hiding fin_ret fin_exc
/-! texts as lists of signs -/
def mk (l : List Nat) : Str := ⟨l.toArray⟩
theorem nm_mk (l : List Nat) : nmV l = .str (mk l) := rfl
theorem mk_len (l : List Nat) : (mk l).length = l.length := by rw [TL.len_tl]; rfl
theorem mk_inj {a b : List Nat} (h : mk a = mk b) : a = b := by
  have := congrArg TL.tl h
  exact this
theorem mk_eq (z : Str) : z = mk (TL.tl z) := TL.ext_tl rfl
theorem mk_app (a b : List Nat) : mk a ++ mk b = mk (a ++ b) := TL.ext_tl (by rw [TL.tl_append]; rfl)
theorem mk_dec (a b : List Nat) : decide (mk a = mk b) = decide (a = b) := decide_eq_decide.mpr ⟨mk_inj, fun e => by rw [e]⟩
section
variable {h : VH}
theorem t_add {a b : List Nat} (hl : a.length + b.length ≤ 16777216) : opAdd h (nmV a) (nmV b) = some (nmV (a ++ b)) := by
  show (if (mk a).length + (mk b).length ≤ SZ then some (VV.str (mk a ++ mk b)) else none) = _
  rw [mk_len, mk_len, if_pos hl, mk_app]; rfl
theorem t_len {a : List Nat} (hl : a.length ≤ 16777216) : cLen h [nmV a] = some (.int (a.length : Int)) := by
  show (if (mk a).length ≤ SZ then some (VV.int (mk a).length) else none) = _
  rw [mk_len, if_pos hl]
theorem t_eq {a b : List Nat} : opEq h (nmV a) (nmV b) = some (.bl (decide (a = b))) := by
  show some (VV.bl (decide (mk a = mk b))) = _
  rw [mk_dec]
theorem t_ne {a b : List Nat} : opNe h (nmV a) (nmV b) = some (.bl (!decide (a = b))) := by
  show some (VV.bl (!decide (mk a = mk b))) = _
  rw [mk_dec]
theorem t_signs {a : List Nat} : seqItems (nmV a) h = .ok (a.map fun c => nmV [c]) h := rfl
theorem t_at0 {c : Nat} {a : List Nat} (hl : a.length < 1000000) : opIx h (nmV (c :: a)) (.int 0) = some (nmV [c]) := by
  show (if (mk (c :: a)).length ≤ SZ then (atI (c :: a) 0).map (fun c => VV.str ⟨#[c]⟩) else none) = _
  rw [mk_len, if_pos (by rw [List.length_cons]; show _ ≤ 16777216; omega), show atI (c :: a) 0 = some c from atI_nat (j := 0) rfl]; rfl
theorem t_fore {a : List Nat} {k : Nat} (hl : a.length ≤ 16777216) : opSl h (nmV a) none (some (k : Int)) = some (nmV (a.take k)) := by
  show (if (mk a).length ≤ SZ then some (VV.str (cutS (mk a) none (some (k : Int)))) else none) = _
  rw [mk_len, if_pos hl]
  have e : cutS (mk a) none (some (k : Int)) = mk (a.take k) := by
    show mk ((a.drop (HT.sIx (mk a).length 0 none)).take (HT.sIx (mk a).length (mk a).length (some (k : Int)) - HT.sIx (mk a).length 0 none)) = _
    rw [HT.sIx_none, HT.sIx_nat, mk_len, List.drop_zero, Nat.sub_zero]
    congr 1
    rw [Nat.min_def]
    split
    · rfl
    · rw [List.take_of_length_le (Nat.le_refl _), List.take_of_length_le (by omega)]
  rw [e]; rfl
theorem t_rest {a : List Nat} {k : Nat} (hl : a.length ≤ 16777216) (hk : k ≤ a.length) : opSl h (nmV a) (some (k : Int)) none = some (nmV (a.drop k)) := by
  show (if (mk a).length ≤ SZ then some (VV.str (cutS (mk a) (some (k : Int)) none)) else none) = _
  rw [mk_len, if_pos hl]
  have e : cutS (mk a) (some (k : Int)) none = mk (a.drop k) := by
    show mk ((a.drop (HT.sIx (mk a).length 0 (some (k : Int)))).take (HT.sIx (mk a).length (mk a).length none - HT.sIx (mk a).length 0 (some (k : Int)))) = _
    rw [HT.sIx_none, HT.sIx_nat, mk_len, Nat.min_eq_left hk]
    congr 1
    exact List.take_of_length_le (by rw [List.length_drop]; omega)
  rw [e]; rfl
theorem t_join {s : List Nat} {ps : List (List Nat)} (hb : (ps.map (·.length)).sum + ps.length * s.length ≤ 16777216) : joinR (mk s) (.lst (ps.map nmV)) h = .ok (nmV (TL.joinL s ps)) h := by
  have e : ps.map nmV = (ps.map mk).map VV.str := by rw [List.map_map]; rfl
  have e2 : (ps.map mk).map (·.length) = ps.map (·.length) := by
    rw [List.map_map]
    exact List.map_congr_left fun p _ => mk_len p
  rw [e, joinR_lst (by rw [e2, List.length_map, mk_len]; exact hb), TL.join_eq, mk_eq (Str.join _ _), TL.tl_join, List.map_map]
  rw [show ps.map (TL.tl ∘ mk) = ps from (List.map_congr_left fun p _ => rfl).trans (List.map_id ps)]; rfl
theorem t_split {s : Nat} {ps : List (List Nat)} (hs : s < 256) (hne : ps ≠ []) (hp : ∀ p ∈ ps, s ∉ p) (hl : (TL.joinL [s] ps).length ≤ 1000000) : spR (nmV (TL.joinL [s] ps)) (.ok (nmV [s]) h) = .ok (.lst (ps.map nmV)) h := by
  have e := TL.split_join (y := mk [s]) (s := s) (S := []) rfl (by simp [mk]; omega) (parts := ps.map mk) (by simpa using hne) (fun p hq => by
    obtain ⟨q, hr, rfl⟩ := List.mem_map.mp hq
    exact hp q hr)
  have ej : Str.join (mk [s]) (ps.map mk) = mk (TL.joinL [s] ps) := by
    rw [mk_eq (Str.join _ _), TL.tl_join, List.map_map]
    rw [show ps.map (TL.tl ∘ mk) = ps from (List.map_congr_left fun p _ => rfl).trans (List.map_id ps)]; rfl
  rw [nm_mk, nm_mk, spR_ok rfl (by rw [mk_len]; show _ ≤ 16777216; omega)]
  rw [← ej, ← TL.join_eq, e, List.map_map]
  rfl
def numI (i : Int) : List Nat := if i < 0 then 45 :: TL.numL i.natAbs else TL.numL i.natAbs
theorem tl_int (i : Int) : TL.tl (Str.ofString (toString i)) = numI i := by
  cases i with
  | ofNat n => exact (TL.tl_num n).trans (by unfold numI; rw [if_neg (by simp)]; rfl)
  | negSucc n =>
    have e : toString (Int.negSucc n) = "-" ++ toString ((n + 1 : Nat) : Int) := rfl
    rw [e, TL.tl_ofString, String.toList_append, List.map_append, ← TL.tl_ofString (toString _), TL.tl_num]
    unfold numI
    rw [if_pos (by omega)]
    rfl
theorem t_str {i : Int} (hi : i.natAbs < 10 ^ 30) : cStr h [.int i] = some (nmV (numI i)) := by
  rw [str_int (by
    rcases Nat.eq_zero_or_pos i.natAbs with h0 | h0
    · rw [h0]; decide
    · exact (Nat.log2_lt (by omega)).mpr (Nat.lt_trans hi (by decide)))]
  show some (VV.str (Str.ofString (toString i))) = _
  rw [mk_eq (Str.ofString (toString i)), tl_int]; rfl
theorem t_strS {a : List Nat} : cStr h [nmV a] = some (nmV a) := rfl
theorem t_inS {c : Nat} {z : List Nat} : opInS false h (nmV [c]) (nmV z) = some (.bl (decide (c ∈ z))) := inS_sign
theorem t_in {a : List Nat} {ws : List (List Nat)} : opIn h (nmV a) (.tup (ws.map nmV)) = some (.bl (decide (a ∈ ws))) := by
  have e : strsOf (ws.map nmV) = some (ws.map mk) := by
    induction ws with
    | nil => rfl
    | cons w ws ih => rw [List.map_cons, nm_mk, strsOf, ih]; rfl
  show ((strsOf (ws.map nmV)).map fun ns => decide (mk a ∈ ns)).map VV.bl = _
  rw [e]
  show some (VV.bl (decide (mk a ∈ ws.map mk))) = _
  congr 2
  refine decide_eq_decide.mpr ⟨fun z => ?_, fun z => List.mem_map_of_mem z⟩
  obtain ⟨w, hw, e⟩ := List.mem_map.mp z
  rw [← mk_inj e]; exact hw
end
def wBegin : List Nat := [98, 101, 103, 105, 110]
def wDrop : List Nat := [100, 114, 111, 112]
def wForget : List Nat := [102, 111, 114, 103, 101, 116]
def wPut : List Nat := [112, 117, 116]
def wTake : List Nat := [116, 97, 107, 101]
def wFiner : List Nat := [102, 105, 110, 101, 114]
def wLesser : List Nat := [108, 101, 115, 115, 101, 114]
def wKeep : List Nat := [107, 101, 101, 112]
def wBundle : List Nat := [98, 117, 110, 100, 108, 101]
def wRing : List Nat := [114, 105, 110, 103]
def wCut : List Nat := [99, 117, 116]
def wAll : List Nat := [97, 108, 108, 58]
def wDigits : List Nat := [48, 49, 50, 51, 52, 53, 54, 55, 56, 57]
def wLetters : List Nat := [97, 98, 99, 100, 101, 102, 103, 104, 105, 106, 107, 108, 109, 110, 111, 112, 113, 114, 115, 116, 117, 118, 119, 120, 121, 122]
theorem l_begin : VV.str "begin" = nmV wBegin := by kernel_rfl
theorem l_drop : VV.str "drop" = nmV wDrop := by kernel_rfl
theorem l_forget : VV.str "forget" = nmV wForget := by kernel_rfl
theorem l_put : VV.str "put" = nmV wPut := by kernel_rfl
theorem l_take : VV.str "take" = nmV wTake := by kernel_rfl
theorem l_finer : VV.str "finer" = nmV wFiner := by kernel_rfl
theorem l_lesser : VV.str "lesser" = nmV wLesser := by kernel_rfl
theorem l_keep : VV.str "keep" = nmV wKeep := by kernel_rfl
theorem l_bundle : VV.str "bundle" = nmV wBundle := by kernel_rfl
theorem l_ring : VV.str "ring" = nmV wRing := by kernel_rfl
theorem l_cut : VV.str "cut" = nmV wCut := by kernel_rfl
theorem l_all : VV.str "all:" = nmV wAll := by kernel_rfl
theorem l_digits : VV.str "0123456789" = nmV wDigits := by kernel_rfl
theorem l_letters : VV.str "abcdefghijklmnopqrstuvwxyz" = nmV wLetters := by kernel_rfl
theorem l_blank : VV.str " " = nmV [32] := by kernel_rfl
theorem l_semi : VV.str ";" = nmV [59] := by kernel_rfl
theorem l_dot : VV.str "." = nmV [46] := by kernel_rfl
theorem l_comma : VV.str "," = nmV [44] := by kernel_rfl
theorem l_minus : VV.str "-" = nmV [45] := by kernel_rfl
theorem l_zero : VV.str "0" = nmV [48] := by kernel_rfl
open L2 hiding fin_ret fin_exc
/-! deeds -/
inductive PD where
  | a (w n : List Nat)
  | f (w n : List Nat) (face : List Nat)
  | k (n0 n1 n2 : List Nat) (s0 s1 : Nat) (row : List Int)
def PD.v : PD → VV
  | .a w n => .tup [nmV w, nmV n]
  | .f w n face => .tup [nmV w, nmV n, .tup (face.map fun (i : Nat) => VV.int (i : Int))]
  | .k n0 n1 n2 s0 s1 row => .tup [nmV wKeep, nmV n0, nmV n1, nmV n2, .int (s0 : Int), .int (s1 : Int), .tup (row.map VV.int)]
def wa : List (List Nat) := [wBegin, wDrop, wForget]
def wf : List (List Nat) := [wPut, wTake, wFiner, wLesser]
def PD.Ok : PD → Prop
  | .a w n => w ∈ wa ∧ Nm n
  | .f w n face => w ∈ wf ∧ Nm n ∧ 1 ≤ face.length ∧ face.length ≤ 6 ∧ ∀ i ∈ face, i < 10 ^ 30
  | .k n0 n1 n2 s0 s1 row => Nm n0 ∧ Nm n1 ∧ Nm n2 ∧ s0 < 10 ^ 30 ∧ s1 < 10 ^ 30 ∧ row.length ≤ 4 ∧ ∀ i ∈ row, i.natAbs < 10 ^ 30
theorem nm_ring : Nm wRing := ⟨by decide, by decide, by decide⟩
theorem nm_cut : Nm wCut := ⟨by decide, by decide, by decide⟩
theorem name_at {names : List (List Nat)} {h : VH} (hl : names.length = 10) (hn : ∀ l ∈ names, Nm l) {k : Nat} (hk : k < 10) : ∃ l, opIx h (.lst (names.map nmV)) (.int (k : Int)) = some (nmV l) ∧ Nm l := by
  have hk' : k < names.length := by omega
  refine ⟨names[k], ?_, hn _ (List.getElem_mem hk')⟩
  rw [x_lst]
  exact atI_in (by rw [List.getElem?_map, List.getElem?_eq_getElem hk']; rfl)
theorem greats_eq (b : Bx) {ρ : VSt} (h0 : ρ[0]? = some (some (.obj 0))) (hl : ρ.length = 9) {m : Int} (m0 : 0 ≤ m) (m1 : m < 1000) : ∃ (l : List Nat) (b' : Bx), lcGo (bNm 8) tTrue le_law_plain_deed_1 ρ (rngV 0 m.toNat) [b.v] = .ok (l.map fun (i : Nat) => VV.int (i : Int)) [b'.v] ∧ (l.length : Int) = m ∧ ∀ i ∈ l, i < 10 ^ 30 := by
  rw [rng_eq]
  obtain ⟨l, h', e4, ⟨b4, rfl⟩, l4, g4⟩ := lc_draw (b := bNm 8) (t := tTrue) (e := le_law_plain_deed_1) (ρ := ρ) (fun (i : Nat) => VV.int (0 + (i : Int))) (fun (i : Nat) => VV.int (i : Int)) (fun h => ∃ b : Bx, h = [b.v]) (fun i => i < 10 ^ 30) (ys := List.range m.toNat) (h := [b.v]) ⟨b, rfl⟩ (by
    rintro y _ h ⟨b, rfl⟩
    obtain ⟨n, b', e, hn⟩ := great_eq b
    refine ⟨_, n, [b'.v], rfl, rfl, ?_, rfl, ⟨b', rfl⟩, hn⟩
    unfold le_law_plain_deed_1
    rw [a_fn, a_cons, a_var, List.getElem?_set_ne (by decide), h0, getV_some, bnd_ok, a_nil, bnd_ok, bnd_ok]
    exact e)
  exact ⟨l, b4, e4, by rw [l4, List.length_range]; omega, g4⟩
theorem rows_eq (b : Bx) {ρ : VSt} (h0 : ρ[0]? = some (some (.obj 0))) (hl : ρ.length = 9) {m : Int} (m0 : 0 ≤ m) (m1 : m < 1000) : ∃ (l : List Int) (b' : Bx), lcGo (bNm 8) tTrue le_law_plain_deed_2 ρ (rngV 0 m.toNat) [b.v] = .ok (l.map VV.int) [b'.v] ∧ (l.length : Int) = m ∧ ∀ i ∈ l, i.natAbs < 10 ^ 30 := by
  rw [rng_eq]
  obtain ⟨l, h', e4, ⟨b4, rfl⟩, l4, g4⟩ := lc_draw (b := bNm 8) (t := tTrue) (e := le_law_plain_deed_2) (ρ := ρ) (fun (i : Nat) => VV.int (0 + (i : Int))) VV.int (fun h => ∃ b : Bx, h = [b.v]) (fun i => i.natAbs < 10 ^ 30) (ys := List.range m.toNat) (h := [b.v]) ⟨b, rfl⟩ (by
    rintro y _ h ⟨b, rfl⟩
    obtain ⟨r, b1, e1, r0, r1⟩ := take1 b (m := 2) (by decide) (by decide)
    obtain ⟨n, b', e, hn⟩ := great_eq b1
    refine ⟨_, (1 - 2 * r) * n, [b'.v], rfl, rfl, ?_, rfl, ⟨b', rfl⟩, ?_⟩
    · unfold le_law_plain_deed_2
      simp only [a_bin, a_c, a_fn, a_cons, a_var, List.getElem?_set_ne (show (8 : Nat) ≠ 0 by decide), h0, getV_some, bnd_ok, a_nil]
      simp only [List.cons_append, List.nil_append, List.append_nil, List.length_cons, List.length_nil, Nat.zero_add, if_true, Nat.reduceAdd, e1, bnd_ok, o_mul_l (i := 2) (j := r) (by decide), lift_some, o_sub]
      simp only [a_fn, a_cons, a_var, List.getElem?_set_ne (show (8 : Nat) ≠ 0 by decide), h0, getV_some, bnd_ok, a_nil, List.cons_append, List.nil_append, List.append_nil, List.length_cons, List.length_nil, Nat.zero_add, if_true, e, o_mul_l (i := 1 - 2 * r) (j := (n : Int)) (by omega), lift_some]
    · rcases (by omega : r = 0 ∨ r = 1) with z | z <;> subst z
      · simpa using hn
      · simpa using hn)
  exact ⟨l, b4, e4, by rw [l4, List.length_range]; omega, g4⟩
theorem word_at {r : Int} {h : VH} (r0 : 0 ≤ r) (r1 : r < 9) : ∃ w, opIx h (.lst [nmV wBegin, nmV wDrop, nmV wForget, nmV wPut, nmV wTake, nmV wFiner, nmV wLesser, nmV wKeep, nmV wKeep]) (.int r) = some (nmV w) ∧ (w ∈ wa ∨ w ∈ wf ∨ w = wKeep) := by
  rcases (by omega : r = 0 ∨ r = 1 ∨ r = 2 ∨ r = 3 ∨ r = 4 ∨ r = 5 ∨ r = 6 ∨ r = 7 ∨ r = 8) with z | z | z | z | z | z | z | z | z <;> subst z
  · exact ⟨wBegin, rfl, .inl (by decide)⟩
  · exact ⟨wDrop, rfl, .inl (by decide)⟩
  · exact ⟨wForget, rfl, .inl (by decide)⟩
  · exact ⟨wPut, rfl, .inr (.inl (by decide))⟩
  · exact ⟨wTake, rfl, .inr (.inl (by decide))⟩
  · exact ⟨wFiner, rfl, .inr (.inl (by decide))⟩
  · exact ⟨wLesser, rfl, .inr (.inl (by decide))⟩
  · exact ⟨wKeep, rfl, .inr (.inr rfl)⟩
  · exact ⟨wKeep, rfl, .inr (.inr rfl)⟩
theorem kind_at {r : Int} {n : List Nat} {h : VH} (r0 : 0 ≤ r) (r1 : r < 3) (hn : Nm n) : ∃ w, opIx h (.lst [nmV wRing, nmV wCut, nmV n]) (.int r) = some (nmV w) ∧ Nm w := by
  rcases (by omega : r = 0 ∨ r = 1 ∨ r = 2) with z | z | z <;> subst z
  · exact ⟨wRing, rfl, nm_ring⟩
  · exact ⟨wCut, rfl, nm_cut⟩
  · exact ⟨n, rfl, hn⟩
theorem in_wa {w : List Nat} {h : VH} : opIn h (nmV w) (.tup [nmV wBegin, nmV wDrop, nmV wForget]) = some (.bl (decide (w ∈ wa))) := t_in (ws := wa)
theorem in_wf {w : List Nat} {h : VH} : opIn h (nmV w) (.tup [nmV wPut, nmV wTake, nmV wFiner, nmV wLesser]) = some (.bl (decide (w ∈ wf))) := t_in (ws := wf)
theorem obj_nm {a : List Nat} : (nmV a).isObj = false := rfl
theorem obj_int {i : Int} : (VV.int i).isObj = false := rfl
theorem obj_tup {xs : List VV} : (VV.tup xs).isObj = false := rfl
theorem obj_lst {xs : List VV} : (VV.lst xs).isObj = false := rfl
local macro_rules | `(tactic| walk_at "evt") => `(tactic| (walk_at "ev"; (try simp only [l_begin, l_drop, l_forget, l_put, l_take, l_finer, l_lesser, l_keep, l_bundle, l_ring, l_cut, l_all, l_digits, l_letters, l_blank, l_semi, l_dot, l_comma, l_minus, l_zero, List.any_cons, List.any_nil, obj_nm, obj_int, obj_tup, obj_lst, Bool.or_false, Bool.false_eq_true, false_or]); walk_at "ev"))
theorem plain_deed_eq (b : Bx) : ∃ (d : PD) (b' : Bx), F_law_plain_deed [.obj 0] [b.v] = .ok d.v [b'.v] ∧ d.Ok := by
  obtain ⟨names, b1, e1, nl, hn⟩ := ten_eq b
  obtain ⟨r, b2, e2, r0, r1⟩ := take1 b1 (m := 9) (by decide) (by decide)
  obtain ⟨w, e3, hw⟩ := word_at (h := [b2.v]) r0 r1
  obtain ⟨n0, f0, hn0⟩ := name_at (h := [b2.v]) nl hn (k := 0) (by decide)
  unfold F_law_plain_deed B_law_plain_deed
  walk_at "evt"
  simp only [e1]
  walk_at "evt"
  rw [if_neg (by decide)]
  walk_at "evt"
  simp only [e2]
  walk_at "evt"
  simp only [e3]
  walk_at "evt"
  rw [if_neg (by decide)]
  walk_at "evt"
  simp only [in_wa]
  walk_at "evt"
  by_cases c1 : w ∈ wa
  · simp only [decide_eq_true c1]
    walk_at "evt"
    simp only [show opIx [b2.v] (.lst (names.map nmV)) (.int 0) = some (nmV n0) from f0]
    walk_at "evt"
    rw [if_neg (by decide)]
    walk_at "evt"
    exact ⟨.a w n0, b2, fin_o rfl rfl, c1, hn0⟩
  simp only [decide_eq_false c1]
  walk_at "evt"
  simp only [t_ne]
  walk_at "evt"
  by_cases c2 : w = wKeep
  · subst c2
    simp only [decide_true]
    walk_at "evt"
    obtain ⟨m, b3, e4, m0, m1⟩ := take1 b2 (m := 5) (by decide) (by decide)
    simp only [e4]
    walk_at "evt"
    rw [if_pos (rngB m0 (by omega))]
    walk_at "evt"
    rw [if_neg (by show ¬ (rngV 0 m.toNat).length > 16777216; rw [show (rngV 0 m.toNat).length = m.toNat by unfold rngV; simp]; omega)]
    simp only [wp, List.set_cons_zero, List.set_cons_succ]
    obtain ⟨row, b4, e5, rl, hr⟩ := rows_eq b3 (m := m) (ρ := [some (.obj 0), some (.lst (names.map nmV)), some (nmV wKeep), some (.int m), none, none, none, none, none]) rfl rfl m0 (by omega)
    simp only [e5, afterL_ok]
    walk_at "evt"
    obtain ⟨s0, b5, e6, hs0⟩ := great_eq b4
    obtain ⟨s1, b6, e7, hs1⟩ := great_eq b5
    simp only [e6]
    walk_at "evt"
    simp only [e7]
    walk_at "evt"
    rw [if_neg (by decide)]
    walk_at "evt"
    obtain ⟨n1, f1, hn1⟩ := name_at (h := [b6.v]) nl hn (k := 1) (by decide)
    obtain ⟨n2, f2, hn2⟩ := name_at (h := [b6.v]) nl hn (k := 2) (by decide)
    simp only [show opIx [b6.v] (.lst (names.map nmV)) (.int 2) = some (nmV n2) from f2]
    walk_at "evt"
    rw [if_neg (by decide)]
    walk_at "evt"
    obtain ⟨q, b7, e8, q0, q1⟩ := take1 b6 (m := 3) (by decide) (by decide)
    simp only [e8]
    walk_at "evt"
    obtain ⟨kd, e9, hkd⟩ := kind_at (h := [b7.v]) q0 q1 hn2
    simp only [e9]
    walk_at "evt"
    simp only [show opIx [b7.v] (.lst (names.map nmV)) (.int 0) = some (nmV n0) from f0]
    walk_at "evt"
    simp only [show opIx [b7.v] (.lst (names.map nmV)) (.int 1) = some (nmV n1) from f1]
    walk_at "evt"
    rw [if_neg (by decide)]
    walk_at "evt"
    rw [add_tup (by simp)]
    walk_at "evt"
    simp only [tuple_lst]
    walk_at "evt"
    rw [if_neg (by decide)]
    walk_at "evt"
    rw [add_tup (by simp)]
    walk_at "evt"
    exact ⟨.k n0 n1 kd s0 s1 row, b7, fin_o rfl rfl, hn0, hn1, hkd, hs0, hs1, by omega, hr⟩
  · simp only [decide_eq_false c2]
    walk_at "evt"
    obtain ⟨m, b3, e4, m0, m1⟩ := take1 b2 (m := 6) (by decide) (by decide)
    simp only [e4]
    walk_at "evt"
    rw [if_pos (rngB (by omega) (by omega))]
    walk_at "evt"
    rw [if_neg (by show ¬ (rngV 0 (1 + m).toNat).length > 16777216; rw [show (rngV 0 (1 + m).toNat).length = (1 + m).toNat by unfold rngV; simp]; omega)]
    simp only [wp, List.set_cons_zero, List.set_cons_succ]
    obtain ⟨face, b4, e5, fl, hf⟩ := greats_eq b3 (m := 1 + m) (ρ := [some (.obj 0), some (.lst (names.map nmV)), some (nmV w), none, none, none, none, none, none]) rfl rfl (by omega) (by omega)
    simp only [e5, afterL_ok]
    walk_at "evt"
    simp only [show opIx [b4.v] (.lst (names.map nmV)) (.int 0) = some (nmV n0) from f0]
    walk_at "evt"
    simp only [tuple_lst]
    walk_at "evt"
    rw [if_neg (by decide)]
    walk_at "evt"
    exact ⟨.f w n0 face, b4, fin_o rfl rfl, (hw.resolve_left c1).resolve_right c2, hn0, by omega, by omega, hf⟩
open L2 hiding fin_ret fin_exc
/-! the texts of deeds -/
theorem s_dot : Str.ofString "." = mk [46] := by kernel_rfl
theorem s_comma : Str.ofString "," = mk [44] := by kernel_rfl
theorem s_blank : Str.ofString " " = mk [32] := by kernel_rfl
theorem s_semi : Str.ofString ";" = mk [59] := by kernel_rfl
theorem numI_nat (n : Nat) : numI (n : Int) = TL.numL n := by unfold numI; rw [if_neg (by omega)]; rfl
theorem numI_len {i : Int} (hi : i.natAbs < 10 ^ 30) : (numI i).length ≤ 31 := by
  have := TL.numL_len (k := 30) (by decide) hi
  unfold numI
  split
  · rw [List.length_cons]; omega
  · omega
theorem sum_bound {c : Nat} : ∀ {ps : List (List Nat)}, (∀ p ∈ ps, p.length ≤ c) → (ps.map (·.length)).sum ≤ ps.length * c
  | [], _ => by simp
  | p :: ps, hp => by
    have h1 := hp p List.mem_cons_self
    have h2 := sum_bound (ps := ps) fun q hq => hp q (List.mem_cons_of_mem _ hq)
    rw [List.map_cons, List.sum_cons, List.length_cons, Nat.add_mul, Nat.one_mul]
    omega
theorem joinL_len (s : List Nat) : ∀ ps : List (List Nat), (TL.joinL s ps).length ≤ (ps.map (·.length)).sum + ps.length * s.length
  | [] => by simp [TL.joinL]
  | [p] => by simp [TL.joinL]
  | p :: q :: r => by
    have := joinL_len s (q :: r)
    rw [TL.joinL, List.length_append, List.length_append]
    simp only [List.map_cons, List.sum_cons, List.length_cons, Nat.add_mul, Nat.one_mul] at this ⊢
    omega
theorem joinL_le {s : Nat} {ps : List (List Nat)} {c m : Nat} (hp : ∀ p ∈ ps, p.length ≤ c) (hm : ps.length ≤ m) : (TL.joinL [s] ps).length ≤ m * c + m := by
  have h1 := joinL_len [s] ps
  have h2 := sum_bound hp
  have h3 := Nat.mul_le_mul_right c hm
  simp only [List.length_cons, List.length_nil] at h1
  omega
theorem join_ok {s : Nat} {ps : List (List Nat)} {c m : Nat} {h : VH} (hp : ∀ p ∈ ps, p.length ≤ c) (hm : ps.length ≤ m) (hc : m * c + m ≤ 16777216) : joinR (mk [s]) (.lst (ps.map nmV)) h = .ok (nmV (TL.joinL [s] ps)) h := by
  refine t_join ?_
  have h2 := sum_bound hp
  have h3 := Nat.mul_le_mul_right c hm
  simp only [List.length_cons, List.length_nil]
  omega
def faceT (face : List Nat) : List Nat := TL.joinL [46] (face.map TL.numL)
def rowT (row : List Int) : List Nat := if row.length = 0 then [45] else TL.joinL [44] (row.map numI)
theorem strs_lc {j : Nat} {l : List Int} {ρ : VSt} {h : VH} (hj : j < ρ.length) (hl : ∀ i ∈ l, i.natAbs < 10 ^ 30) : lcGo (bNm j) tTrue (eCall cStr (aCons (eVar j) aNil)) ρ (l.map VV.int) h = .ok ((l.map numI).map nmV) h := by
  rw [List.map_map]
  refine lc_map (b := bNm j) (t := tTrue) VV.int (nmV ∘ numI) (ys := l) fun i hi => ⟨_, rfl, rfl, ?_, rfl⟩
  simp only [a_call, a_cons, a_var, a_nil, List.getElem?_set_self hj, getV_some, bnd_ok, t_str (hl i hi), lift_some]
  rfl
theorem nat_ints (face : List Nat) : (face.map fun (i : Nat) => VV.int (i : Int)) = (face.map fun (i : Nat) => (i : Int)).map VV.int := by rw [List.map_map]; rfl
theorem nat_nums (face : List Nat) : (face.map fun (i : Nat) => (i : Int)).map numI = face.map TL.numL := by
  rw [List.map_map]
  exact List.map_congr_left fun i _ => numI_nat i
theorem numL_le {n : Nat} (hn : n < 10 ^ 30) : (TL.numL n).length ≤ 30 := TL.numL_len (by decide) hn
theorem face_parts {face : List Nat} (hf : ∀ i ∈ face, i < 10 ^ 30) : ∀ p ∈ face.map TL.numL, p.length ≤ 30 := fun p hp => by
  obtain ⟨i, hi, rfl⟩ := List.mem_map.mp hp
  exact numL_le (hf i hi)
theorem row_parts {row : List Int} (hr : ∀ i ∈ row, i.natAbs < 10 ^ 30) : ∀ p ∈ row.map numI, p.length ≤ 31 := fun p hp => by
  obtain ⟨i, hi, rfl⟩ := List.mem_map.mp hp
  exact numI_len (hr i hi)
section
variable {h : VH}
theorem law_row_text_eq {row : List Int} (hl : row.length ≤ 4) (hr : ∀ i ∈ row, i.natAbs < 10 ^ 30) : F_law_row_text [.tup (row.map VV.int)] h = .ok (nmV (rowT row)) h := by
  obtain ⟨n, hn⟩ : ∃ n : Int, (row.length : Int) = n := ⟨_, rfl⟩
  unfold F_law_row_text B_law_row_text
  walk_at "evt"
  simp only [len_tup, List.length_map, hn]
  walk_at "evt"
  by_cases c : row.length = 0
  · simp only [decide_eq_false (show ¬ 0 < n by omega)]
    walk_at "evt"
    rw [fin_ret rfl]; unfold rowT; rw [if_pos c]
  · simp only [decide_eq_true (show 0 < n by omega)]
    walk_at "evt"
    rw [if_neg (by rw [List.length_map]; show ¬ _ > 16777216; omega)]
    simp only [wp, List.set_cons_zero, List.set_cons_succ]
    rw [strs_lc (by simp) hr, afterL_ok]
    walk_at "evt"
    rw [s_comma, join_ok (row_parts hr) (by rw [List.length_map]; exact hl) (by decide)]
    walk_at "evt"
    rw [fin_ret rfl]; unfold rowT; rw [if_neg c]
end
def PD.parts : PD → List (List Nat)
  | .a w n => [w, n]
  | .f w n face => [w, n, faceT face]
  | .k n0 n1 n2 s0 s1 row => [wKeep, n0, n1, n2, TL.numL s0, TL.numL s1, rowT row]
def PD.text (d : PD) : List Nat := TL.joinL [32] d.parts
theorem wa_len {w : List Nat} (h : w ∈ wa) : w.length ≤ 6 := by
  simp only [wa, List.mem_cons, List.not_mem_nil, or_false] at h
  rcases h with rfl | rfl | rfl <;> decide
theorem wf_len {w : List Nat} (h : w ∈ wf) : w.length ≤ 6 := by
  simp only [wf, List.mem_cons, List.not_mem_nil, or_false] at h
  rcases h with rfl | rfl | rfl | rfl <;> decide
theorem faceT_len {face : List Nat} (hl : face.length ≤ 6) (hf : ∀ i ∈ face, i < 10 ^ 30) : (faceT face).length ≤ 186 := joinL_le (c := 30) (m := 6) (face_parts hf) (by rw [List.length_map]; exact hl)
theorem rowT_len {row : List Int} (hl : row.length ≤ 4) (hr : ∀ i ∈ row, i.natAbs < 10 ^ 30) : (rowT row).length ≤ 128 := by
  unfold rowT
  split
  · decide
  · exact joinL_le (c := 31) (m := 4) (row_parts hr) (by rw [List.length_map]; exact hl)
theorem PD.part_len {d : PD} (ok : d.Ok) : ∀ p ∈ d.parts, p.length ≤ 186 := by
  cases d with
  | a w n =>
    obtain ⟨h1, h2⟩ := ok
    have := wa_len h1
    have := h2.le
    intro p hp
    simp only [PD.parts, List.mem_cons, List.not_mem_nil, or_false] at hp
    rcases hp with rfl | rfl <;> omega
  | f w n face =>
    obtain ⟨h1, h2, h3, h4, h5⟩ := ok
    have := wf_len h1
    have := h2.le
    have := faceT_len h4 h5
    intro p hp
    simp only [PD.parts, List.mem_cons, List.not_mem_nil, or_false] at hp
    rcases hp with rfl | rfl | rfl <;> omega
  | k n0 n1 n2 s0 s1 row =>
    obtain ⟨h1, h2, h3, h4, h5, h6, h7⟩ := ok
    have := h1.le
    have := h2.le
    have := h3.le
    have := numL_le h4
    have := numL_le h5
    have := rowT_len h6 h7
    have hk : wKeep.length = 4 := rfl
    intro p hp
    simp only [PD.parts, List.mem_cons, List.not_mem_nil, or_false] at hp
    rcases hp with rfl | rfl | rfl | rfl | rfl | rfl | rfl <;> omega
theorem PD.parts_len (d : PD) : d.parts.length ≤ 7 := by cases d <;> simp [PD.parts]
theorem PD.text_len {d : PD} (ok : d.Ok) : d.text.length ≤ 1309 := joinL_le (c := 186) (m := 7) (PD.part_len ok) d.parts_len
open L2 hiding fin_ret fin_exc
theorem strs_mix {j : Nat} {ys : List (VV × List Nat)} {ρ : VSt} {h : VH} (hj : j < ρ.length) (hl : ∀ p ∈ ys, cStr h [p.1] = some (nmV p.2)) : lcGo (bNm j) tTrue (eCall cStr (aCons (eVar j) aNil)) ρ (ys.map fun p => p.1) h = .ok ((ys.map fun p => p.2).map nmV) h := by
  rw [List.map_map]
  refine lc_map (b := bNm j) (t := tTrue) (fun p : VV × List Nat => p.1) (nmV ∘ fun p => p.2) (ys := ys) fun p hp => ⟨_, rfl, rfl, ?_, rfl⟩
  simp only [a_call, a_cons, a_var, a_nil, List.getElem?_set_self hj, getV_some, bnd_ok, hl p hp, lift_some]
  rfl
theorem nk_a {w : List Nat} (h : w ∈ wa) : w ≠ wKeep ∧ w ≠ wBundle ∧ w ∉ wf := by
  simp only [wa, List.mem_cons, List.not_mem_nil, or_false] at h
  rcases h with rfl | rfl | rfl <;> decide
theorem nk_f {w : List Nat} (h : w ∈ wf) : w ≠ wKeep ∧ w ≠ wBundle ∧ w ∉ wa := by
  simp only [wf, List.mem_cons, List.not_mem_nil, or_false] at h
  rcases h with rfl | rfl | rfl | rfl <;> decide
theorem cut6 {a b c d e f g : VV} : cut [a, b, c, d, e, f, g] none (some 6) = [a, b, c, d, e, f] := rfl
theorem at_5 {a b c d e f : VV} {h : VH} : opIx h (.lst [a, b, c, d, e, f]) (.int 5) = some f := rfl
theorem at_6 {a b c d e f g : VV} {h : VH} : opIx h (.tup [a, b, c, d, e, f, g]) (.int 6) = some g := rfl
theorem la0 {a : VV} {r : List VV} {h : VH} : opIx h (.lst (a :: r)) (.int 0) = some a := by rw [x_lst]; exact atI_nat (j := 0) rfl
theorem la1 {a b : VV} {r : List VV} {h : VH} : opIx h (.lst (a :: b :: r)) (.int 1) = some b := by rw [x_lst]; exact atI_nat (j := 1) rfl
theorem ta0 {a : VV} {r : List VV} {h : VH} : opIx h (.tup (a :: r)) (.int 0) = some a := by rw [x_tup]; exact atI_nat (j := 0) rfl
theorem ta1 {a b : VV} {r : List VV} {h : VH} : opIx h (.tup (a :: b :: r)) (.int 1) = some b := by rw [x_tup]; exact atI_nat (j := 1) rfl
theorem ta2 {a b c : VV} {r : List VV} {h : VH} : opIx h (.tup (a :: b :: c :: r)) (.int 2) = some c := by rw [x_tup]; exact atI_nat (j := 2) rfl
local macro_rules | `(tactic| walk_at "evu") => `(tactic| (walk_at "ev"; (try simp only [l_begin, l_drop, l_forget, l_put, l_take, l_finer, l_lesser, l_keep, l_bundle, l_ring, l_cut, l_all, l_digits, l_letters, l_blank, l_semi, l_dot, l_comma, l_minus, l_zero, List.any_cons, List.any_nil, obj_nm, obj_int, obj_tup, obj_lst, Bool.or_false, Bool.false_eq_true, false_or, la0, la1, ta0, ta1, ta2]); walk_at "ev"; (try simp only [l_begin, l_drop, l_forget, l_put, l_take, l_finer, l_lesser, l_keep, l_bundle, l_ring, l_cut, l_all, l_digits, l_letters, l_blank, l_semi, l_dot, l_comma, l_minus, l_zero, List.any_cons, List.any_nil, obj_nm, obj_int, obj_tup, obj_lst, Bool.or_false, Bool.false_eq_true, false_or, la0, la1, ta0, ta1, ta2]); walk_at "ev"; (try simp only [l_begin, l_drop, l_forget, l_put, l_take, l_finer, l_lesser, l_keep, l_bundle, l_ring, l_cut, l_all, l_digits, l_letters, l_blank, l_semi, l_dot, l_comma, l_minus, l_zero, List.any_cons, List.any_nil, obj_nm, obj_int, obj_tup, obj_lst, Bool.or_false, Bool.false_eq_true, false_or, la0, la1, ta0, ta1, ta2]); walk_at "ev"))
section
variable {h : VH}
theorem law_text_plain {d : Nat} {p : PD} (ok : p.Ok) : F_law_text (d + 1) [p.v] h = .ok (nmV p.text) h := by
  unfold F_law_text B_law_text
  cases p with
  | a w n =>
    obtain ⟨h1, h2⟩ := ok
    obtain ⟨k1, k2, k3⟩ := nk_a h1
    have := wa_len h1
    have := h2.le
    unfold PD.v
    walk_at "evu"
    simp only [t_eq, decide_eq_false k2]
    walk_at "evu"
    simp only [t_eq, decide_eq_false k1]
    walk_at "evu"
    rw [if_neg (by decide)]
    walk_at "evu"
    simp only [in_wa, decide_eq_true h1]
    walk_at "evu"
    rw [t_add (by simp; omega)]
    walk_at "evu"
    rw [t_add (by simp; omega)]
    walk_at "evu"
    rw [fin_ret rfl]
    simp [PD.text, PD.parts, TL.joinL]
  | f w n face =>
    obtain ⟨h1, h2, h3, h4, h5⟩ := ok
    obtain ⟨k1, k2, k3⟩ := nk_f h1
    have := wf_len h1
    have := h2.le
    have := faceT_len h4 h5
    unfold PD.v
    walk_at "evu"
    simp only [t_eq, decide_eq_false k2]
    walk_at "evu"
    simp only [t_eq, decide_eq_false k1]
    walk_at "evu"
    rw [if_neg (by decide)]
    walk_at "evu"
    simp only [in_wa, decide_eq_false k3]
    walk_at "evu"
    rw [t_add (by simp; omega)]
    walk_at "evu"
    rw [t_add (by simp; omega)]
    walk_at "evu"
    rw [t_add (by simp; omega)]
    walk_at "evu"
    rw [nat_ints, if_neg (by rw [List.length_map, List.length_map]; show ¬ _ > 16777216; omega)]
    simp only [wp, List.set_cons_zero, List.set_cons_succ]
    rw [strs_lc (by simp) (fun i hi => by
      obtain ⟨n, hn, rfl⟩ := List.mem_map.mp hi
      exact h5 n hn), nat_nums, afterL_ok]
    walk_at "evu"
    rw [s_dot, join_ok (face_parts h5) (by rw [List.length_map]; exact h4) (by decide)]
    walk_at "evu"
    rw [show nmV (TL.joinL [46] (face.map TL.numL)) = nmV (faceT face) from rfl, t_add (by simp; omega)]
    walk_at "evu"
    rw [fin_ret rfl]
    simp [PD.text, PD.parts, TL.joinL]
  | k n0 n1 n2 s0 s1 row =>
    have pl := PD.part_len ok
    obtain ⟨h1, h2, h3, h4, h5, h6, h7⟩ := ok
    unfold PD.v
    walk_at "evu"
    simp only [t_eq, decide_eq_false (show ¬ wKeep = wBundle by decide)]
    walk_at "evu"
    simp only [t_eq, decide_true]
    walk_at "evu"
    simp only [J.sl_tup, cut6]
    walk_at "evu"
    rw [if_neg (by show ¬ _ > 16777216; simp)]
    simp only [wp, List.set_cons_zero, List.set_cons_succ]
    have em := strs_mix (j := 3) (ys := [(nmV wKeep, wKeep), (nmV n0, n0), (nmV n1, n1), (nmV n2, n2), (.int (s0 : Int), TL.numL s0), (.int (s1 : Int), TL.numL s1)]) (ρ := [some (VV.tup [nmV wKeep, nmV n0, nmV n1, nmV n2, .int (s0 : Int), .int (s1 : Int), .tup (row.map VV.int)]), none, none, none]) (h := h) (by simp) (by
      intro p hp
      simp only [List.mem_cons, List.not_mem_nil, or_false] at hp
      rcases hp with rfl | rfl | rfl | rfl | rfl | rfl
      · exact t_strS
      · exact t_strS
      · exact t_strS
      · exact t_strS
      · rw [t_str (by simpa using h4), numI_nat]
      · rw [t_str (by simpa using h5), numI_nat])
    simp only [List.map_cons, List.map_nil] at em
    simp only [em, afterL_ok]
    walk_at "evu"
    simp only [at_6]
    walk_at "evu"
    simp only [law_row_text_eq h6 h7]
    walk_at "evu"
    rw [if_neg (by decide)]
    walk_at "evu"
    rw [add_lst (by simp)]
    walk_at "evu"
    rw [s_blank]
    have ej := join_ok (s := 32) (ps := [wKeep, n0, n1, n2, TL.numL s0, TL.numL s1, rowT row]) (h := h) (c := 186) (m := 7) pl (by simp) (by decide)
    simp only [List.map_cons, List.map_nil] at ej
    simp only [ej]
    walk_at "evu"
    rw [fin_ret rfl]
    rfl
end
open L2 hiding fin_ret fin_exc
/-! reading -/
inductive WD where
  | p (d : PD)
  | b (ds : List PD)
def WD.v : WD → VV
  | .p d => d.v
  | .b ds => .tup [nmV wBundle, .tup (ds.map PD.v)]
def WD.Ok : WD → Prop
  | .p d => d.Ok
  | .b ds => ds.length ≤ 3 ∧ ∀ d ∈ ds, d.Ok
def btext (ds : List PD) : List (List Nat) := ds.map fun d => 32 :: d.text
def WD.text : WD → List Nat
  | .p d => d.text
  | .b ds => wAll ++ TL.joinL [59] (btext ds)
theorem obj_pd {d : PD} : d.v.isObj = false := by cases d <;> rfl
theorem low_pd {d : PD} : lowV 1 d.v = true := by cases d <;> rfl
local macro_rules | `(tactic| walk_at "evu") => `(tactic| (walk_at "ev"; (try simp only [l_begin, l_drop, l_forget, l_put, l_take, l_finer, l_lesser, l_keep, l_bundle, l_ring, l_cut, l_all, l_blank, l_semi, l_dot, l_comma, l_minus, l_zero, List.any_cons, List.any_nil, obj_nm, obj_int, obj_tup, obj_lst, Bool.or_false, Bool.false_eq_true, false_or, la0, la1, ta0, ta1, ta2]); walk_at "ev"; (try simp only [l_begin, l_drop, l_forget, l_put, l_take, l_finer, l_lesser, l_keep, l_bundle, l_ring, l_cut, l_all, l_blank, l_semi, l_dot, l_comma, l_minus, l_zero, List.any_cons, List.any_nil, obj_nm, obj_int, obj_tup, obj_lst, Bool.or_false, Bool.false_eq_true, false_or, la0, la1, ta0, ta1, ta2]); walk_at "ev"))
theorem written_eq (b : Bx) : ∃ (d : WD) (b' : Bx), F_law_written_deed [.obj 0] [b.v] = .ok d.v [b'.v] ∧ d.Ok := by
  obtain ⟨r, b1, e1, r0, r1⟩ := take1 b (m := 4) (by decide) (by decide)
  unfold F_law_written_deed B_law_written_deed
  walk_at "evu"
  simp only [e1]
  walk_at "evu"
  by_cases c : 0 < r
  · obtain ⟨d, b2, e2, ok⟩ := plain_deed_eq b1
    simp only [decide_eq_true c]
    walk_at "evu"
    simp only [e2]
    walk_at "evu"
    exact ⟨.p d, b2, fin_o low_pd rfl, ok⟩
  · simp only [decide_eq_false c]
    walk_at "evu"
    obtain ⟨m, b2, e2, m0, m1⟩ := take1 b1 (m := 4) (by decide) (by decide)
    simp only [e2]
    walk_at "evu"
    rw [if_pos (rngB m0 (by omega))]
    walk_at "evu"
    rw [if_neg (by show ¬ (rngV 0 m.toNat).length > 16777216; rw [show (rngV 0 m.toNat).length = m.toNat by unfold rngV; simp]; omega)]
    simp only [wp, List.set_cons_zero, List.set_cons_succ]
    rw [rng_eq]
    obtain ⟨ds, h', e4, ⟨b4, rfl⟩, l4, g4⟩ := lc_draw (b := bNm 1) (t := tTrue) (e := le_law_written_deed_1) (ρ := [some (.obj 0), none]) (fun (i : Nat) => VV.int (0 + (i : Int))) PD.v (fun h => ∃ b : Bx, h = [b.v]) PD.Ok (ys := List.range m.toNat) (h := [b2.v]) ⟨b2, rfl⟩ (by
      rintro y _ h ⟨b, rfl⟩
      obtain ⟨d, b', e, ok⟩ := plain_deed_eq b
      refine ⟨_, d, [b'.v], rfl, rfl, ?_, obj_pd, ⟨b', rfl⟩, ok⟩
      walk_at "evu"
      exact e)
    simp only [e4, afterL_ok]
    walk_at "evu"
    simp only [tuple_lst]
    walk_at "evu"
    rw [if_neg (by decide)]
    walk_at "evu"
    exact ⟨.b ds, b4, fin_o rfl rfl, by rw [l4, List.length_range]; omega, g4⟩
theorem btext_len {ds : List PD} (ok : ∀ d ∈ ds, d.Ok) : ∀ p ∈ btext ds, p.length ≤ 1310 := fun p hp => by
  obtain ⟨d, hd, rfl⟩ := List.mem_map.mp hp
  have := PD.text_len (ok d hd)
  rw [List.length_cons]; omega
theorem bundle_len {ds : List PD} (hl : ds.length ≤ 3) (ok : ∀ d ∈ ds, d.Ok) : (TL.joinL [59] (btext ds)).length ≤ 3933 := joinL_le (c := 1310) (m := 3) (btext_len ok) (by unfold btext; rw [List.length_map]; exact hl)
theorem texts_lc {j : Nat} {ds : List PD} {ρ : VSt} {h : VH} {F : FF} (hF : ∀ d ∈ ds, F [d.v] h = .ok (nmV d.text) h) (hj : j < ρ.length) (ok : ∀ d ∈ ds, d.Ok) : lcGo (bNm j) tTrue (eBin opAdd (eC (.str " ")) (eFn 1 F [] (aCons (eVar j) aNil))) ρ (ds.map PD.v) h = .ok ((btext ds).map nmV) h := by
  unfold btext
  rw [List.map_map]
  refine lc_map (b := bNm j) (t := tTrue) PD.v (nmV ∘ fun d => 32 :: d.text) (ys := ds) fun d hd => ⟨_, rfl, rfl, ?_, rfl⟩
  have := PD.text_len (ok d hd)
  simp only [a_bin, a_c, a_fn, a_cons, a_var, a_nil, List.getElem?_set_self hj, getV_some, bnd_ok, List.cons_append, List.nil_append, List.append_nil, List.length_cons, List.length_nil, Nat.zero_add, if_true, hF d hd, l_blank]
  rw [t_add (by simp; omega)]
  rfl
section
variable {h : VH}
theorem law_text_eq {d : WD} (ok : d.Ok) : F_law_text 3 [d.v] h = .ok (nmV d.text) h := by
  cases d with
  | p d => exact law_text_plain ok
  | b ds =>
    obtain ⟨hl, ok⟩ := ok
    have bl := bundle_len hl ok
    unfold F_law_text B_law_text WD.v
    walk_at "evu"
    simp only [t_eq, decide_true]
    walk_at "evu"
    rw [if_neg (by rw [List.length_map]; show ¬ _ > 16777216; omega)]
    simp only [wp, List.set_cons_zero, List.set_cons_succ]
    rw [texts_lc (fun d hd => law_text_plain (ok d hd)) (by simp) ok, afterL_ok]
    walk_at "evu"
    rw [s_semi, join_ok (btext_len ok) (m := 3) (by unfold btext; rw [List.length_map]; exact hl) (by decide)]
    walk_at "evu"
    rw [t_add (by show 4 + _ ≤ _; omega)]
    walk_at "evu"
    rw [fin_ret rfl]; rfl
end
open L2 hiding fin_ret fin_exc
/-! numbers and names of any text -/
def digB (w : List Nat) : Bool := w.all fun c => decide (c ∈ wDigits)
def letB (w : List Nat) : Bool := w.all fun c => decide (c ∈ wLetters)
def okN (w : List Nat) : Bool := decide (1 ≤ w.length) && (decide (w.length ≤ 8) && letB w)
def baseB (w : List Nat) : Bool := decide (1 ≤ w.length) && (decide (w.length ≤ 30) && digB w)
def valP (w : List Nat) : Int := (NumText.digitsVal w : Nat)
def plainR (w : List Nat) : Option Int := if baseB w = true then (if w.take 1 = [48] ∧ w ≠ [48] then none else some (valP w)) else none
def numR (w : List Nat) : Option Int := if w.take 1 = [45] then (if baseB (w.drop 1) = true then (if (w.drop 1).take 1 = [48] then none else some (-valP (w.drop 1))) else none) else plainR w
theorem dig_range {c : Nat} (h : c ∈ wDigits) : 48 ≤ c ∧ c ≤ 57 := by
  simp only [wDigits, List.mem_cons, List.not_mem_nil, or_false] at h
  omega
theorem digB_all {w : List Nat} (h : digB w = true) : NumText.AllDigits w := fun c hc => dig_range (of_decide_eq_true (List.all_eq_true.mp h c hc))
theorem base_len {w : List Nat} (h : baseB w = true) : 1 ≤ w.length ∧ w.length ≤ 30 ∧ digB w = true := by
  unfold baseB at h
  simp only [Bool.and_eq_true, decide_eq_true_eq] at h
  exact h
theorem fold_ge : ∀ (r : List Nat) (a : Nat), a ≤ r.foldl (fun acc c => acc * 10 + (c - 48)) a
  | [], a => Nat.le_refl _
  | c :: r, a => Nat.le_trans (by omega) (fold_ge r (a * 10 + (c - 48)))
theorem valP_pos {w : List Nat} (h : baseB w = true) (h0 : ¬ w.take 1 = [48]) : 1 ≤ valP w := by
  obtain ⟨h1, _, h3⟩ := base_len h
  cases w with
  | nil => simp at h1
  | cons c r =>
    have hc := digB_all h3 c List.mem_cons_self
    have c48 : c ≠ 48 := fun z => h0 (by rw [z]; rfl)
    have := fold_ge r (0 * 10 + (c - 48))
    show (1 : Int) ≤ ((NumText.digitsVal (c :: r) : Nat) : Int)
    unfold NumText.digitsVal
    rw [List.foldl_cons]
    omega
section
variable {h : VH}
theorem t_num {w : List Nat} (hb : baseB w = true) : cIntS h [nmV w] = some (.int (valP w)) := by
  obtain ⟨h1, h2, h3⟩ := base_len hb
  have hz : (mk w).length ≤ 30 := by rw [mk_len]; exact h2
  exact int_text (a := mk w) (by omega) (PySem.intText_digits (x := mk w) (digB_all h3) (by intro z; rw [show w = [] from z] at h1; simp at h1) (by omega))
theorem t_neg {w r : List Nat} (hw : w = 45 :: r) (hb : baseB r = true) : cIntS h [nmV w] = some (.int (-valP r)) := by
  obtain ⟨h1, h2, h3⟩ := base_len hb
  have hz : (mk w).length ≤ 31 := by rw [mk_len, hw, List.length_cons]; omega
  exact int_text (a := mk w) (by omega) (PySem.intText_neg (x := mk w) (cs := r) hw (digB_all h3) (by intro z; rw [z] at h1; simp at h1) (by omega))
theorem signs_any {j : Nat} {z a : List Nat} {ρ : VSt} {s : Str} (hs : VV.str s = nmV z) (hj : j < ρ.length) : lcGo (bNm j) tTrue (eBin (opInS false) (eVar j) (eC (.str s))) ρ (a.map fun c => nmV [c]) h = .ok ((a.map fun c => decide (c ∈ z)).map VV.bl) h := by
  rw [List.map_map]
  exact lc_map (b := bNm j) (t := tTrue) (fun c : Nat => nmV [c]) (VV.bl ∘ fun c => decide (c ∈ z)) (ys := a) fun c hc => ⟨_, rfl, rfl, by
    simp only [a_bin, a_var, a_c, List.getElem?_set_self hj, getV_some, bnd_ok, hs, t_inS, lift_some]; rfl, rfl⟩
theorem all_dec {z a : List Nat} : cAll h [.lst ((a.map fun c => decide (c ∈ z)).map VV.bl)] = some (.bl (a.all fun c => decide (c ∈ z))) := by
  rw [all_bls, List.all_map]; rfl
def bad (h : VH) : Res VV := .exc "BadText" ["at", "word"] [.int 0, .str "BadText"] h
def optR (o : Option Int) (h : VH) : Res VV := match o with
  | some n => .ok (.int n) h
  | none => bad h
def optV (o : Option Int) : VV := match o with
  | some n => .int n
  | none => .non
theorem t_fore1 {a : List Nat} (hl : a.length ≤ 100000) : opSl h (nmV a) none (some 1) = some (nmV (a.take 1)) := t_fore (k := 1) (by omega)
theorem t_rest1 {a : List Nat} (hl : a.length ≤ 100000) (h1 : 1 ≤ a.length) : opSl h (nmV a) (some 1) none = some (nmV (a.drop 1)) := t_rest (k := 1) (by omega) h1
theorem is_name_any {w : List Nat} (hl : w.length ≤ 100000) : F_is_name [nmV w] h = .ok (.bl (okN w)) h := by
  obtain ⟨m, hm⟩ : ∃ m : Int, (w.length : Int) = m := ⟨_, rfl⟩
  unfold F_is_name B_is_name okN
  walk_at "evu"
  simp only [t_len (a := w) (by omega), hm]
  walk_at "evu"
  by_cases c1 : 1 ≤ w.length
  · simp only [decide_eq_true (show (1 : Int) ≤ m by omega), decide_eq_true c1]
    walk_at "evu"
    by_cases c2 : w.length ≤ 8
    · simp only [decide_eq_true (show m ≤ 8 by omega), decide_eq_true c2]
      walk_at "evu"
      simp only [t_signs]
      walk_at "evu"
      rw [if_neg (by rw [List.length_map]; show ¬ _ > 16777216; omega)]
      simp only [wp, List.set_cons_zero, List.set_cons_succ]
      rw [signs_any l_letters (by simp), afterL_ok]
      walk_at "evu"
      simp only [all_dec]
      walk_at "evu"
      rw [fin_ret rfl]; rfl
    · simp only [decide_eq_false (show ¬ m ≤ 8 by omega), decide_eq_false c2]
      walk_at "evu"
      rw [fin_ret rfl]; rfl
  · simp only [decide_eq_false (show ¬ (1 : Int) ≤ m by omega), decide_eq_false c1]
    walk_at "evu"
    rw [fin_ret rfl]; rfl
theorem law_is_name_any {w : List Nat} (hl : w.length ≤ 100000) : F_law_is_name [nmV w] h = .ok (.bl (okN w)) h := is_name_any hl
theorem read_name_any {w : List Nat} (hl : w.length ≤ 100000) : F_read_name [nmV w] h = if okN w = true then .ok (nmV w) h else bad h := by
  unfold F_read_name B_read_name
  walk_at "evu"
  simp only [is_name_any hl]
  walk_at "evu"
  cases okN w
  · walk_at "evu"
    rfl
  · walk_at "evu"
    rw [fin_ret rfl]
theorem read_plain_any {w : List Nat} (hl : w.length ≤ 100000) : F_read_plain [nmV w] h = optR (plainR w) h := by
  obtain ⟨m, hm⟩ : ∃ m : Int, (w.length : Int) = m := ⟨_, rfl⟩
  unfold F_read_plain B_read_plain
  walk_at "evu"
  simp only [t_len (a := w) (by omega), hm]
  walk_at "evu"
  by_cases c1 : 1 ≤ w.length
  · simp only [decide_eq_true (show (1 : Int) ≤ m by omega)]
    walk_at "evu"
    by_cases c2 : w.length ≤ 30
    · simp only [decide_eq_true (show m ≤ 30 by omega)]
      walk_at "evu"
      simp only [t_signs]
      walk_at "evu"
      rw [if_neg (by rw [List.length_map]; show ¬ _ > 16777216; omega)]
      simp only [wp, List.set_cons_zero, List.set_cons_succ]
      rw [signs_any l_digits (by simp), afterL_ok]
      walk_at "evu"
      simp only [all_dec]
      walk_at "evu"
      cases c3 : digB w with
      | false =>
        simp only [show (w.all fun c => decide (c ∈ wDigits)) = false from c3]
        walk_at "evu"
        have : plainR w = none := by unfold plainR baseB; rw [c3]; simp
        rw [this]; rfl
      | true =>
        simp only [show (w.all fun c => decide (c ∈ wDigits)) = true from c3]
        walk_at "evu"
        have hb : baseB w = true := by unfold baseB; rw [decide_eq_true c1, decide_eq_true c2, c3]; rfl
        have tn := t_num (h := h) hb
        unfold plainR
        rw [if_pos hb]
        cases w with
        | nil => simp at c1
        | cons c r =>
          have hr : r.length < 1000000 := by rw [List.length_cons] at hl; omega
          simp only [t_at0 hr]
          walk_at "evu"
          simp only [t_eq]
          walk_at "evu"
          by_cases k : [c] = [48]
          · simp only [decide_eq_true k]
            walk_at "evu"
            simp only [t_ne]
            walk_at "evu"
            by_cases k2 : c :: r = [48]
            · simp only [decide_eq_true k2]
              walk_at "evu"
              simp only [tn]
              walk_at "evu"
              rw [fin_ret rfl, if_neg fun z => z.2 k2]; rfl
            · simp only [decide_eq_false k2]
              walk_at "evu"
              rw [if_pos ⟨k, k2⟩]; rfl
          · simp only [decide_eq_false k]
            walk_at "evu"
            simp only [tn]
            walk_at "evu"
            rw [fin_ret rfl, if_neg fun z => k z.1]; rfl
    · simp only [decide_eq_false (show ¬ m ≤ 30 by omega)]
      walk_at "evu"
      have : plainR w = none := by unfold plainR baseB; rw [decide_eq_false c2]; simp
      rw [this]; rfl
  · simp only [decide_eq_false (show ¬ (1 : Int) ≤ m by omega)]
    walk_at "evu"
    have : plainR w = none := by unfold plainR baseB; rw [decide_eq_false c1]; simp
    rw [this]; rfl
end
section
variable {h : VH}
theorem plainR_zero {w : List Nat} {v : Int} (e : plainR w = some v) : baseB w = true ∧ v = valP w ∧ (v = 0 ↔ w.take 1 = [48]) := by
  unfold plainR at e
  split at e
  · rename_i hb
    split at e
    · cases e
    · rename_i hn
      cases e
      refine ⟨hb, rfl, fun z => ?_, fun z => ?_⟩
      · by_cases c : w.take 1 = [48]
        · exact c
        · have := valP_pos hb c; omega
      · have : w = [48] := Classical.byContradiction fun q => hn ⟨z, q⟩
        rw [this]; rfl
  · cases e
theorem plainR_base {w : List Nat} (hb : baseB w = true) (hn : ¬ w.take 1 = [48]) : plainR w = some (valP w) := by
  unfold plainR
  rw [if_pos hb, if_neg fun z => hn z.1]
theorem read_number_any {w : List Nat} (hl : w.length ≤ 100000) : F_read_number [nmV w] h = optR (numR w) h := by
  unfold F_read_number B_read_number numR
  walk_at "evu"
  simp only [t_fore1 hl]
  walk_at "evu"
  simp only [t_eq]
  walk_at "evu"
  by_cases c : w.take 1 = [45]
  · simp only [decide_eq_true c]
    rw [if_pos c]
    walk_at "evu"
    have h1 : 1 ≤ w.length := by
      cases w with
      | nil => simp at c
      | cons => simp
    simp only [t_rest1 hl h1]
    walk_at "evu"
    simp only [read_plain_any (w := w.drop 1) (by rw [List.length_drop]; omega)]
    cases e : plainR (w.drop 1) with
    | none =>
      have : (if baseB (w.drop 1) = true then (if (w.drop 1).take 1 = [48] then none else some (-valP (w.drop 1))) else none) = none := by
        split
        · rename_i hb
          split
          · rfl
          · rename_i hn
            rw [plainR_base hb hn] at e; cases e
        · rfl
      rw [this]
      unfold optR bad
      walk_at "evu"
    | some v =>
      obtain ⟨hb, ev, hz⟩ := plainR_zero e
      rw [if_pos hb]
      unfold optR
      walk_at "evu"
      by_cases k : v = 0
      · simp only [decide_eq_true k]
        walk_at "evu"
        rw [if_pos (hz.mp k)]; rfl
      · simp only [decide_eq_false k]
        walk_at "evu"
        rw [fin_ret rfl, if_neg fun z => k (hz.mpr z), ev]
  · simp only [decide_eq_false c]
    rw [if_neg c]
    walk_at "evu"
    simp only [read_plain_any hl]
    cases plainR w with
    | none => unfold optR bad; walk_at "evu"
    | some v =>
      unfold optR
      walk_at "evu"
      rw [fin_ret rfl]
/-- what _law_number_in does with the figures -/
def numRest : SF :=
    (sSeq (sIf (tOr (tNot (tVal (eChain opLe opLe (eC (.int 1)) (eCall cLen (aCons (eVar 1) aNil)) (eC (.int 30))))) (tNot (tVal (eCall cAll (aCons (eLc [2] (iSeq (eVar 1)) (bNm 2) tTrue le_law_number_in_1) aNil))))) (sRet (eC .non)) sSkip)
    (sSeq (sIf (tAnd (tVal (eBin opEq (eBin opIx (eVar 1) (eC (.int 0))) (eC (.str "0")))) (tVal (eBin opNe (eVar 0) (eC (.str "0"))))) (sRet (eC .non)) sSkip)
    (sRet (eCall cIntS (aCons (eVar 0) aNil)))))
theorem numRest_no {w f : List Nat} (hl : f.length ≤ 100000) (hb : baseB f = false) : numRest [some (nmV w), some (nmV f), none] h = .ret .non h := by
  obtain ⟨m, hm⟩ : ∃ m : Int, (f.length : Int) = m := ⟨_, rfl⟩
  unfold numRest
  walk_at "evu"
  simp only [t_len (a := f) (by omega), hm]
  walk_at "evu"
  by_cases c1 : 1 ≤ f.length
  · simp only [decide_eq_true (show (1 : Int) ≤ m by omega)]
    walk_at "evu"
    by_cases c2 : f.length ≤ 30
    · simp only [decide_eq_true (show m ≤ 30 by omega)]
      walk_at "evu"
      simp only [t_signs]
      walk_at "evu"
      rw [if_neg (by rw [List.length_map]; show ¬ _ > 16777216; omega)]
      simp only [wp, List.set_cons_zero, List.set_cons_succ]
      rw [signs_any l_digits (by simp), afterL_ok]
      walk_at "evu"
      simp only [all_dec]
      walk_at "evu"
      have c3 : (f.all fun c => decide (c ∈ wDigits)) = false := by
        unfold baseB digB at hb
        rw [decide_eq_true c1, decide_eq_true c2, Bool.true_and, Bool.true_and] at hb
        exact hb
      simp only [c3]
      walk_at "evu"
    · simp only [decide_eq_false (show ¬ m ≤ 30 by omega)]
      walk_at "evu"
  · simp only [decide_eq_false (show ¬ (1 : Int) ≤ m by omega)]
    walk_at "evu"
theorem numRest_yes {w f : List Nat} {v : VV} (hb : baseB f = true) (hv : (f.take 1 = [48] → w = [48]) → cIntS h [nmV w] = some v) : numRest [some (nmV w), some (nmV f), none] h = .ret (if f.take 1 = [48] ∧ w ≠ [48] then .non else v) h := by
  obtain ⟨c1, c2, c3⟩ := base_len hb
  obtain ⟨m, hm⟩ : ∃ m : Int, (f.length : Int) = m := ⟨_, rfl⟩
  unfold numRest
  walk_at "evu"
  simp only [t_len (a := f) (by omega), hm]
  walk_at "evu"
  simp only [decide_eq_true (show (1 : Int) ≤ m by omega)]
  walk_at "evu"
  simp only [decide_eq_true (show m ≤ 30 by omega)]
  walk_at "evu"
  simp only [t_signs]
  walk_at "evu"
  rw [if_neg (by rw [List.length_map]; show ¬ _ > 16777216; omega)]
  simp only [wp, List.set_cons_zero, List.set_cons_succ]
  rw [signs_any l_digits (by simp), afterL_ok]
  walk_at "evu"
  simp only [all_dec, show (f.all fun c => decide (c ∈ wDigits)) = true from c3]
  walk_at "evu"
  cases f with
  | nil => simp at c1
  | cons c r =>
    simp only [t_at0 (c := c) (a := r) (by rw [List.length_cons] at c2; omega)]
    walk_at "evu"
    simp only [t_eq]
    walk_at "evu"
    by_cases k : [c] = [48]
    · simp only [decide_eq_true k]
      walk_at "evu"
      simp only [t_ne]
      walk_at "evu"
      by_cases k2 : w = [48]
      · simp only [decide_eq_true k2]
        walk_at "evu"
        simp only [hv fun _ => k2]
        walk_at "evu"
        rw [if_neg fun z => z.2 k2]
      · simp only [decide_eq_false k2]
        walk_at "evu"
        rw [if_pos ⟨k, k2⟩]
    · simp only [decide_eq_false k]
      walk_at "evu"
      simp only [hv fun z => absurd z k]
      walk_at "evu"
      rw [if_neg fun z => k z.1]
theorem number_in_any {w : List Nat} (hl : w.length ≤ 100000) : F_law_number_in [nmV w] h = .ok (optV (numR w)) h := by
  show fnF 3 (sSeq (sSet 1 (eIf (tVal (eBin opEq (eSl opSl (eVar 0) oNone (oSome (eC (.int 1)))) (eC (.str "-")))) (eSl opSl (eVar 0) (oSome (eC (.int 1))) oNone) (eVar 0))) numRest) [nmV w] h = _
  unfold numR
  walk_at "evu"
  simp only [t_fore1 hl]
  walk_at "evu"
  simp only [t_eq]
  walk_at "evu"
  by_cases c : w.take 1 = [45]
  · simp only [decide_eq_true c]
    rw [if_pos c]
    walk_at "evu"
    have h1 : 1 ≤ w.length := by
      cases w with
      | nil => simp at c
      | cons => simp
    have ew : w = 45 :: w.drop 1 := by
      cases w with
      | nil => simp at c
      | cons x r => rw [show x = 45 from (List.cons.inj (show [x] = [45] from c)).1]; rfl
    simp only [t_rest1 hl h1]
    walk_at "evu"
    cases hb : baseB (w.drop 1) with
    | false =>
      rw [numRest_no (by rw [List.length_drop]; omega) hb, fin_ret rfl]; rfl
    | true =>
      have hn : w ≠ [48] := fun z => by rw [z] at c; exact absurd c (by decide)
      rw [numRest_yes hb fun _ => t_neg ew hb, fin_ret rfl, if_pos rfl]
      by_cases k : (w.drop 1).take 1 = [48]
      · rw [if_pos ⟨k, hn⟩, if_pos k]; rfl
      · rw [if_neg fun z => k z.1, if_neg k]; rfl
  · simp only [decide_eq_false c]
    rw [if_neg c]
    walk_at "evu"
    unfold plainR
    cases hb : baseB w with
    | false => rw [numRest_no hl hb, fin_ret rfl]; rfl
    | true =>
      rw [numRest_yes hb fun _ => t_num hb, fin_ret rfl, if_pos rfl]
      split <;> rfl
theorem plain_in_any {w : List Nat} (hl : w.length ≤ 100000) : F_law_plain_in [nmV w] h = .ok (optV (plainR w)) h := by
  unfold F_law_plain_in B_law_plain_in
  walk_at "evu"
  simp only [t_fore1 hl]
  walk_at "evu"
  simp only [t_eq]
  walk_at "evu"
  by_cases c : w.take 1 = [45]
  · have : plainR w = none := by
      unfold plainR
      cases hb : baseB w with
      | false => rfl
      | true =>
        obtain ⟨h1, _, h3⟩ := base_len hb
        cases w with
        | nil => simp at h1
        | cons x r =>
          have := digB_all h3 x List.mem_cons_self
          have := (List.cons.inj (show [x] = [45] from c)).1
          omega
    simp only [decide_eq_true c]
    walk_at "evu"
    rw [this, fin_ret rfl]; rfl
  · simp only [decide_eq_false c]
    walk_at "evu"
    simp only [number_in_any hl]
    walk_at "evu"
    rw [fin_ret rfl]
    unfold numR
    rw [if_neg c]
end
open L2 hiding fin_ret fin_exc
/-! any text cut at a sign -/
def cutAt (s : Nat) : List Nat → List (List Nat)
  | [] => [[]]
  | c :: r => if c = s then [] :: cutAt s r else match cutAt s r with
    | [] => [[c]]
    | p :: ps => (c :: p) :: ps
theorem cutAt_ne (s : Nat) : ∀ a : List Nat, cutAt s a ≠ []
  | [] => by simp [cutAt]
  | c :: r => by
    unfold cutAt
    split
    · simp
    · split <;> simp
theorem cutAt_free (s : Nat) : ∀ a : List Nat, ∀ p ∈ cutAt s a, s ∉ p
  | [], p, hp => by simp [cutAt] at hp; subst hp; simp
  | c :: r, p, hp => by
    have ih := cutAt_free s r
    unfold cutAt at hp
    split at hp
    · rcases List.mem_cons.mp hp with rfl | hp
      · simp
      · exact ih p hp
    · rename_i hc
      split at hp
      · simp at hp; subst hp; simpa using fun e => hc e.symm
      · rename_i q qs e
        rw [e] at ih
        rcases List.mem_cons.mp hp with rfl | hp
        · have := ih q List.mem_cons_self
          simp only [List.mem_cons, not_or]
          exact ⟨fun e => hc e.symm, this⟩
        · exact ih p (List.mem_cons_of_mem _ hp)
theorem joinL_cons0 (s : Nat) (ps : List (List Nat)) (h : ps ≠ []) : TL.joinL [s] ([] :: ps) = s :: TL.joinL [s] ps := by
  cases ps with
  | nil => exact absurd rfl h
  | cons q r => rfl
theorem joinL_consC (s c : Nat) (p : List Nat) (ps : List (List Nat)) : TL.joinL [s] ((c :: p) :: ps) = c :: TL.joinL [s] (p :: ps) := by
  cases ps <;> rfl
theorem cutAt_join (s : Nat) : ∀ a : List Nat, TL.joinL [s] (cutAt s a) = a
  | [] => rfl
  | c :: r => by
    have ih := cutAt_join s r
    unfold cutAt
    split
    · rename_i hc
      rw [joinL_cons0 s _ (cutAt_ne s r), ih, hc]
    · split
      · rename_i e
        exact absurd e (cutAt_ne s r)
      · rename_i q qs e
        rw [joinL_consC, ← e, ih]
theorem cutAt_part (s : Nat) : ∀ a : List Nat, ∀ p ∈ cutAt s a, p.length ≤ a.length
  | [], p, hp => by simp [cutAt] at hp; subst hp; simp
  | c :: r, p, hp => by
    have ih := cutAt_part s r
    unfold cutAt at hp
    split at hp
    · rcases List.mem_cons.mp hp with rfl | hp
      · simp
      · exact Nat.le_succ_of_le (ih p hp)
    · split at hp
      · simp at hp; subst hp; simp
      · rename_i q qs e
        rw [e] at ih
        rcases List.mem_cons.mp hp with rfl | hp
        · have := ih q List.mem_cons_self
          simp only [List.length_cons]; omega
        · exact Nat.le_succ_of_le (ih p (List.mem_cons_of_mem _ hp))
theorem cutAt_len (s : Nat) : ∀ a : List Nat, (cutAt s a).length ≤ a.length + 1
  | [] => by simp [cutAt]
  | c :: r => by
    have ih := cutAt_len s r
    unfold cutAt
    split
    · simp only [List.length_cons]; omega
    · split
      · simp
      · rename_i q qs e
        rw [e] at ih
        simp only [List.length_cons] at ih ⊢; omega
def optL (f : List Nat → Option Int) : List (List Nat) → Option (List Int)
  | [] => some []
  | w :: ws => match f w with
    | none => none
    | some v => (optL f ws).map (v :: ·)
theorem optL_len {f : List Nat → Option Int} : ∀ {ws : List (List Nat)} {vs : List Int}, optL f ws = some vs → vs.length = ws.length
  | [], vs, e => by cases e; rfl
  | w :: ws, vs, e => by
    unfold optL at e
    split at e
    · cases e
    · cases q : optL f ws with
      | none => rw [q] at e; cases e
      | some us =>
        rw [q] at e; cases e
        rw [List.length_cons, List.length_cons, optL_len q]
def optLR (o : Option (List Int)) (h : VH) : Res (List VV) := match o with
  | some vs => .ok (vs.map VV.int) h
  | none => .exc "BadText" ["at", "word"] [.int 0, .str "BadText"] h
section
variable {h : VH}
theorem split_any {s : Nat} {a : List Nat} (hs : s < 256) (hl : a.length ≤ 1000000) : spR (nmV a) (.ok (nmV [s]) h) = .ok (.lst ((cutAt s a).map nmV)) h := by
  have := t_split (s := s) (ps := cutAt s a) (h := h) hs (cutAt_ne s a) (cutAt_free s a) (by rw [cutAt_join]; exact hl)
  rwa [cutAt_join] at this
/-- numbers read one by one, one may be refused -/
theorem lc_opt {j : Nat} {e : EF} {f : List Nat → Option Int} {ρ : VSt} : ∀ {ws : List (List Nat)}, (∀ w ∈ ws, e (ρ.set j (some (nmV w))) h = optR (f w) h) → lcGo (bNm j) tTrue e ρ (ws.map nmV) h = optLR (optL f ws) h
  | [], _ => rfl
  | w :: ws, hx => by
    have h1 := hx w List.mem_cons_self
    have ih := lc_opt (ws := ws) fun z hz => hx z (List.mem_cons_of_mem _ hz)
    rw [List.map_cons, lcGo]
    show (e (ρ.set j (some (nmV w))) h).bind _ = _
    rw [h1]
    unfold optL
    cases f w with
    | none => rfl
    | some v =>
      show (if (VV.int v).isObj = true then Res.no else (lcGo (bNm j) tTrue e ρ (ws.map nmV) h).bind _) = _
      rw [if_neg (by simp [VV.isObj]), ih]
      cases optL f ws <;> rfl
/-- names read one by one -/
def namesR (ws : List (List Nat)) (h : VH) : Res (List VV) := if ws.all okN = true then .ok (ws.map nmV) h else .exc "BadText" ["at", "word"] [.int 0, .str "BadText"] h
theorem lc_names {j : Nat} {e : EF} {ρ : VSt} : ∀ {ws : List (List Nat)}, (∀ w ∈ ws, e (ρ.set j (some (nmV w))) h = if okN w = true then .ok (nmV w) h else bad h) → lcGo (bNm j) tTrue e ρ (ws.map nmV) h = namesR ws h
  | [], _ => rfl
  | w :: ws, hx => by
    have h1 := hx w List.mem_cons_self
    have ih := lc_names (ws := ws) fun z hz => hx z (List.mem_cons_of_mem _ hz)
    rw [List.map_cons, lcGo]
    show (e (ρ.set j (some (nmV w))) h).bind _ = _
    rw [h1]
    unfold namesR at ih ⊢
    rw [List.all_cons]
    cases okN w with
    | false => rfl
    | true =>
      show (if (nmV w).isObj = true then Res.no else (lcGo (bNm j) tTrue e ρ (ws.map nmV) h).bind _) = _
      rw [if_neg (by simp [nmV, VV.isObj]), ih, Bool.true_and]
      cases ws.all okN <;> rfl
end
/-! deeds of any words -/
def faceR (w : List Nat) : Option (List Int) := optL plainR (cutAt 46 w)
def rowR (w : List Nat) : Option (List Int) := if w = [45] then some [] else optL numR (cutAt 44 w)
def intsT (l : List Int) : VV := .tup (l.map VV.int)
def wordsR : List (List Nat) → Option VV
  | [w, n] => if w ∈ wa then (if okN n = true then some (.tup [nmV w, nmV n]) else none) else none
  | [w, n, f] => if w ∈ wf then (if okN n = true then (faceR f).map fun l => .tup [nmV w, nmV n, intsT l] else none) else none
  | [w, n0, n1, n2, s0, s1, r] => if w = wKeep then (if okN n0 = true ∧ okN n1 = true ∧ okN n2 = true then (match plainR s0, plainR s1, rowR r with
      | some a, some b, some l => some (.tup [nmV wKeep, nmV n0, nmV n1, nmV n2, .int a, .int b, intsT l])
      | _, _, _ => none) else none) else none
  | _ => none
open L2 hiding fin_ret fin_exc
local macro_rules | `(tactic| walk_at "evu") => `(tactic| (walk_at "ev"; (try simp only [l_begin, l_drop, l_forget, l_put, l_take, l_finer, l_lesser, l_keep, l_bundle, l_ring, l_cut, l_all, l_blank, l_semi, l_dot, l_comma, l_minus, l_zero, List.any_cons, List.any_nil, obj_nm, obj_int, obj_tup, obj_lst, Bool.or_false, Bool.false_eq_true, false_or, la0, la1, ta0, ta1, ta2]); walk_at "ev"; (try simp only [l_begin, l_drop, l_forget, l_put, l_take, l_finer, l_lesser, l_keep, l_bundle, l_ring, l_cut, l_all, l_blank, l_semi, l_dot, l_comma, l_minus, l_zero, List.any_cons, List.any_nil, obj_nm, obj_int, obj_tup, obj_lst, Bool.or_false, Bool.false_eq_true, false_or, la0, la1, ta0, ta1, ta2]); walk_at "ev"))
def optT (o : Option (List Int)) (h : VH) : Res VV := match o with
  | some l => .ok (intsT l) h
  | none => bad h
def optD (o : Option VV) (h : VH) : Res VV := match o with
  | some v => .ok v h
  | none => bad h
def optDV (o : Option VV) : VV := match o with
  | some v => v
  | none => .non
theorem cut_bound {s : Nat} {w : List Nat} (hl : w.length ≤ 100000) : ¬ ((cutAt s w).map nmV).length > SZ := by
  have := cutAt_len s w
  rw [List.length_map]
  show ¬ _ > 16777216
  omega
theorem faceR_len {w : List Nat} {l : List Int} (hl : w.length ≤ 100000) (e : faceR w = some l) : l.length ≤ 100001 := by
  have := cutAt_len 46 w
  rw [optL_len e]; omega
theorem rowR_len {w : List Nat} {l : List Int} (hl : w.length ≤ 100000) (e : rowR w = some l) : l.length ≤ 100001 := by
  unfold rowR at e
  split at e
  · cases e; simp
  · have := cutAt_len 44 w
    rw [optL_len e]; omega
section
variable {h : VH}
theorem read_row_any {w : List Nat} (hl : w.length ≤ 100000) : F_read_row [nmV w] h = optT (rowR w) h := by
  unfold F_read_row B_read_row rowR
  walk_at "evu"
  simp only [t_eq]
  walk_at "evu"
  by_cases c : w = [45]
  · simp only [decide_eq_true c]
    walk_at "evu"
    rw [if_pos c, if_neg (by decide)]
    walk_at "evu"
    rw [fin_ret rfl]; rfl
  · simp only [decide_eq_false c]
    walk_at "evu"
    rw [if_neg c, split_any (by decide) (by omega)]
    walk_at "evu"
    rw [if_neg (cut_bound hl)]
    simp only [wp, List.set_cons_zero, List.set_cons_succ]
    rw [lc_opt (f := numR) fun p hp => by
      have := cutAt_part 44 w p hp
      walk_at "evu"
      rw [read_number_any (by omega)]]
    cases optL numR (cutAt 44 w) with
    | none => unfold optLR; walk_at "evu"; rfl
    | some l =>
      unfold optLR
      walk_at "evu"
      simp only [tuple_lst]
      walk_at "evu"
      rw [fin_ret rfl]; rfl
theorem cut3 {a b c d e f : VV} : cut [a, b, c, d, e, f] none (some 3) = [a, b, c] := rfl
theorem l3_2 {a b c : VV} : opIx h (.lst [a, b, c]) (.int 2) = some c := rfl
theorem l6_3 {a b c d e f : VV} : opIx h (.lst [a, b, c, d, e, f]) (.int 3) = some d := rfl
theorem l6_4 {a b c d e f : VV} : opIx h (.lst [a, b, c, d, e, f]) (.int 4) = some e := rfl
theorem wordsR_none {w : List Nat} {ws : List (List Nat)} (h1 : w ∈ wa → ws.length ≠ 1) (h2 : w ∈ wf → ws.length ≠ 2) (h3 : w = wKeep → ws.length ≠ 6) : wordsR (w :: ws) = none := by
  unfold wordsR
  split
  · rename_i e
    cases e
    rw [if_neg fun z => h1 z rfl]
  · rename_i e
    cases e
    rw [if_neg fun z => h2 z rfl]
  · rename_i e
    cases e
    rw [if_neg fun z => h3 z rfl]
  · rfl
set_option maxHeartbeats 2000000 in
theorem read_words_any {ws : List (List Nat)} (h0 : ws ≠ []) (hw : ∀ w ∈ ws, w.length ≤ 100000) (hn : ws.length ≤ 8000) : F_read_words [.lst (ws.map nmV)] h = optD (wordsR ws) h := by
  cases ws with
  | nil => exact absurd rfl h0
  | cons w ws =>
    rw [List.length_cons] at hn
    have nm : ∀ x ∈ ws, x.length ≤ 100000 := fun x hx => hw x (List.mem_cons_of_mem _ hx)
    obtain ⟨m, hm⟩ : ∃ m : Int, (ws.length : Int) = m := ⟨_, rfl⟩
    have hlen : cLen h [.lst (ws.map nmV)] = some (.int m) := by rw [len_lst, List.length_map, hm]
    unfold F_read_words B_read_words
    walk_at "evu"
    rw [starL_lst (by rw [List.length_map]; omega)]
    walk_at "evu"
    rw [if_neg (by decide)]
    walk_at "evu"
    simp only [in_wa]
    by_cases c1 : w ∈ wa
    · obtain ⟨k1, k2, k3⟩ := nk_a c1
      simp only [decide_eq_true c1]
      walk_at "evu"
      simp only [hlen]
      walk_at "evu"
      by_cases d1 : m = 1
      · obtain ⟨n, rfl⟩ : ∃ n, ws = [n] := List.length_eq_one_iff.mp (by omega)
        simp only [decide_eq_true d1]
        walk_at "evu"
        simp only [read_name_any (nm n (by simp))]
        rw [show wordsR [w, n] = if w ∈ wa then (if okN n = true then some (.tup [nmV w, nmV n]) else none) else none from rfl, if_pos c1]
        cases okN n
        · walk_at "evu"
          unfold bad
          walk_at "evu"
          rfl
        · walk_at "evu"
          rw [if_neg (by decide)]
          walk_at "evu"
          rw [fin_ret rfl]; rfl
      · simp only [decide_eq_false d1]
        walk_at "evu"
        rw [if_neg (by decide)]
        walk_at "evu"
        simp only [in_wf, decide_eq_false k3]
        walk_at "evu"
        simp only [t_ne, decide_eq_false k1]
        walk_at "evu"
        rw [wordsR_none (fun _ => by omega) (fun z => absurd z k3) (fun z => absurd z k1)]
        rfl
    · simp only [decide_eq_false c1]
      walk_at "evu"
      rw [if_neg (by decide)]
      walk_at "evu"
      simp only [in_wf]
      by_cases c2 : w ∈ wf
      · obtain ⟨k1, k2, k3⟩ := nk_f c2
        simp only [decide_eq_true c2]
        walk_at "evu"
        simp only [hlen]
        walk_at "evu"
        by_cases d1 : m = 2
        · obtain ⟨n, f, rfl⟩ : ∃ n f, ws = [n, f] := by
            match ws, (show ws.length = 2 by omega) with
            | [a, b], _ => exact ⟨a, b, rfl⟩
          simp only [decide_eq_true d1]
          walk_at "evu"
          simp only [read_name_any (nm n (by simp))]
          rw [show wordsR [w, n, f] = if w ∈ wf then (if okN n = true then (faceR f).map fun l => .tup [nmV w, nmV n, intsT l] else none) else none from rfl, if_pos c2]
          have hf := nm f (by simp)
          cases okN n
          · walk_at "evu"
            unfold bad
            walk_at "evu"
            rfl
          · walk_at "evu"
            rw [split_any (by decide) (by omega)]
            walk_at "evu"
            rw [if_neg (cut_bound hf)]
            simp only [wp, List.set_cons_zero, List.set_cons_succ]
            rw [lc_opt (f := plainR) fun p hp => by
              have := cutAt_part 46 f p hp
              walk_at "evu"
              rw [read_plain_any (by omega)]]
            unfold faceR
            cases optL plainR (cutAt 46 f) with
            | none => unfold optLR; walk_at "evu"; rfl
            | some l =>
              unfold optLR
              walk_at "evu"
              simp only [tuple_lst]
              walk_at "evu"
              rw [if_neg (by decide)]
              walk_at "evu"
              rw [fin_ret rfl]; rfl
        · simp only [decide_eq_false d1]
          walk_at "evu"
          simp only [t_ne, decide_eq_false k1]
          walk_at "evu"
          rw [wordsR_none (fun z => absurd z c1) (fun _ => by omega) (fun z => absurd z k1)]
          rfl
      · simp only [decide_eq_false c2]
        walk_at "evu"
        simp only [t_ne]
        by_cases c3 : w = wKeep
        · subst c3
          simp only [decide_true]
          walk_at "evu"
          simp only [hlen]
          walk_at "evu"
          by_cases d1 : m = 6
          · obtain ⟨n0, n1, n2, s0, s1, r, rfl⟩ : ∃ a b c d e f, ws = [a, b, c, d, e, f] := by
              match ws, (show ws.length = 6 by omega) with
              | [a, b, c, d, e, f], _ => exact ⟨a, b, c, d, e, f, rfl⟩
            simp only [decide_eq_true d1]
            walk_at "evu"
            simp only [sl_lst, cut3]
            walk_at "evu"
            rw [if_neg (by show ¬ _ > 16777216; simp)]
            simp only [wp, List.set_cons_zero, List.set_cons_succ]
            have em := lc_names (j := 4) (e := le_read_words_2) (ρ := [some (VV.lst [nmV wKeep, nmV n0, nmV n1, nmV n2, nmV s0, nmV s1, nmV r]), none, some (nmV wKeep), some (.lst [nmV n0, nmV n1, nmV n2, nmV s0, nmV s1, nmV r]), none, none]) (h := h) (ws := [n0, n1, n2]) (fun n hn => by
              have := nm n (by simp only [List.mem_cons, List.not_mem_nil, or_false] at hn ⊢; rcases hn with rfl | rfl | rfl <;> simp)
              walk_at "evu"
              rw [read_name_any this])
            simp only [List.map_cons, List.map_nil] at em
            simp only [em]
            rw [show wordsR [wKeep, n0, n1, n2, s0, s1, r] = if wKeep = wKeep then (if okN n0 = true ∧ okN n1 = true ∧ okN n2 = true then (match plainR s0, plainR s1, rowR r with
      | some a, some b, some l => some (.tup [nmV wKeep, nmV n0, nmV n1, nmV n2, .int a, .int b, intsT l])
      | _, _, _ => none) else none) else none from rfl, if_pos rfl]
            unfold namesR
            by_cases d2 : okN n0 = true ∧ okN n1 = true ∧ okN n2 = true
            · rw [if_pos (by simp [d2.1, d2.2.1, d2.2.2]), if_pos d2]
              walk_at "evu"
              simp only [l3_2]
              walk_at "evu"
              simp only [l6_3]
              walk_at "evu"
              simp only [read_plain_any (nm s0 (by simp))]
              cases plainR s0 with
              | none => unfold optR bad; walk_at "evu"; rfl
              | some a =>
                unfold optR
                walk_at "evu"
                simp only [l6_4]
                walk_at "evu"
                simp only [read_plain_any (nm s1 (by simp))]
                cases plainR s1 with
                | none => unfold optR bad; walk_at "evu"; rfl
                | some b =>
                  unfold optR
                  walk_at "evu"
                  simp only [at_5]
                  walk_at "evu"
                  simp only [read_row_any (nm r (by simp))]
                  cases rowR r with
                  | none => unfold optT bad; walk_at "evu"; rfl
                  | some l =>
                    unfold optT intsT
                    walk_at "evu"
                    rw [if_neg (by decide)]
                    walk_at "evu"
                    rw [fin_ret rfl]; rfl
            · rw [if_neg (by simpa using d2), if_neg d2]
              walk_at "evu"
              rfl
          · simp only [decide_eq_false d1]
            walk_at "evu"
            rw [wordsR_none (fun z => absurd z c1) (fun z => absurd z c2) (fun _ => by omega)]
            rfl
        · simp only [decide_eq_false c3]
          walk_at "evu"
          rw [wordsR_none (fun z => absurd z c1) (fun z => absurd z c2) (fun z => absurd z c3)]
          rfl
end
open L2 hiding fin_ret fin_exc
/-- data of few levels -/
structure Dt (n : Nat) (v : VV) : Prop where
  d : isD v = true
  c : (toD v).canLay0 = true
  p : (toD v).depth ≤ n
  e : dep v ≤ n
  w : wide v ≤ 200000
theorem Dt.up {n m : Nat} {v : VV} (h : Dt n v) (k : n ≤ m) : Dt m v := ⟨h.d, h.c, Nat.le_trans h.p k, Nat.le_trans h.e k, h.w⟩
theorem dt_int (i : Int) : Dt 0 (.int i) := ⟨rfl, by simp [toD, PyData.canLay0], by simp [toD, PyData.depth], by simp [dep], by simp [wide]⟩
theorem dt_non : Dt 0 .non := ⟨rfl, by simp [toD, PyData.canLay0], by simp [toD, PyData.depth], by simp [dep], by simp [wide]⟩
theorem dt_nm {l : List Nat} (hl : ∀ c ∈ l, c < 1114112) : Dt 0 (nmV l) := ⟨rfl, by
  show PyData.strOk (mk l) = true
  unfold PyData.strOk mk
  simpa using hl, by simp [nmV, toD, PyData.depth], by simp [nmV, dep], by simp [nmV, wide]⟩
theorem dt_all {n : Nat} : ∀ {vs : List VV}, (∀ v ∈ vs, Dt n v) → isDs vs = true ∧ PyData.canLayAll0 (toDs vs) = true ∧ PyData.depthAll (toDs vs) ≤ n ∧ deps vs ≤ n ∧ wides vs ≤ 200000
  | [], _ => ⟨rfl, by simp [toDs, PyData.canLayAll0], by simp [toDs, PyData.depthAll], by simp [deps], by simp [wides]⟩
  | v :: vs, hv => by
    obtain ⟨a1, a2, a3, a4, a5⟩ := hv v List.mem_cons_self
    obtain ⟨b1, b2, b3, b4, b5⟩ := dt_all (vs := vs) fun x hx => hv x (List.mem_cons_of_mem _ hx)
    rw [isDs, toDs, PyData.canLayAll0, PyData.depthAll, deps, wides, a1, b1, a2, b2]
    exact ⟨rfl, rfl, by omega, by omega, by omega⟩
theorem dt_tup {n : Nat} {vs : List VV} (hv : ∀ v ∈ vs, Dt n v) (hl : vs.length ≤ 200000) : Dt (n + 1) (.tup vs) := by
  obtain ⟨b1, b2, b3, b4, b5⟩ := dt_all hv
  exact ⟨by rw [isD]; exact b1, by rw [toD, PyData.canLay0]; exact b2, by rw [toD, PyData.depth]; omega, by rw [dep]; omega, by rw [wide]; omega⟩
theorem dt_lst {n : Nat} {vs : List VV} (hv : ∀ v ∈ vs, Dt n v) (hl : vs.length ≤ 200000) : Dt (n + 1) (.lst vs) := by
  obtain ⟨b1, b2, b3, b4, b5⟩ := dt_all hv
  exact ⟨by rw [isD]; exact b1, by rw [toD, PyData.canLay0]; exact b2, by rw [toD, PyData.depth]; omega, by rw [dep]; omega, by rw [wide]; omega⟩
theorem Dt.shaped {n : Nat} {v : VV} (h : Dt n v) (k : n ≤ 64) : SeqAt.shaped (toD v) = true := by
  unfold SeqAt.shaped
  rw [h.c, decide_eq_true (Nat.le_trans h.p k)]; rfl
theorem dt_ints {l : List Int} (hl : l.length ≤ 200000) : Dt 1 (intsT l) := dt_tup (fun v hv => by
  obtain ⟨i, _, rfl⟩ := List.mem_map.mp hv
  exact dt_int i) (by rw [List.length_map]; exact hl)
theorem okN_low {n : List Nat} (h : okN n = true) : ∀ c ∈ n, c < 1114112 := by
  unfold okN letB at h
  simp only [Bool.and_eq_true, decide_eq_true_eq] at h
  intro c hc
  have := of_decide_eq_true (List.all_eq_true.mp h.2.2 c hc)
  simp only [wLetters, List.mem_cons, List.not_mem_nil, or_false] at this
  omega
theorem wa_low {w : List Nat} (h : w ∈ wa) : ∀ c ∈ w, c < 1114112 := by
  simp only [wa, List.mem_cons, List.not_mem_nil, or_false] at h
  rcases h with rfl | rfl | rfl <;> decide
theorem wf_low {w : List Nat} (h : w ∈ wf) : ∀ c ∈ w, c < 1114112 := by
  simp only [wf, List.mem_cons, List.not_mem_nil, or_false] at h
  rcases h with rfl | rfl | rfl | rfl <;> decide
theorem all2 {P : VV → Prop} {a b : VV} (ha : P a) (hb : P b) : ∀ v ∈ [a, b], P v := fun v hv => by
  simp only [List.mem_cons, List.not_mem_nil, or_false] at hv
  rcases hv with rfl | rfl
  · exact ha
  · exact hb
theorem all3 {P : VV → Prop} {a b c : VV} (ha : P a) (hb : P b) (hc : P c) : ∀ v ∈ [a, b, c], P v := fun v hv => by
  simp only [List.mem_cons, List.not_mem_nil, or_false] at hv
  rcases hv with rfl | rfl | rfl
  · exact ha
  · exact hb
  · exact hc
/-- what words tell is data -/
theorem words_dt {ws : List (List Nat)} {v : VV} (hw : ∀ w ∈ ws, w.length ≤ 100000) (e : wordsR ws = some v) : Dt 2 v ∧ v.isObj = false ∧ isNon v = false ∧ lowV 1 v = true := by
  unfold wordsR at e
  split at e
  · rename_i w n
    split at e
    · rename_i hwa
      split at e
      · rename_i hn
        cases e
        exact ⟨(dt_tup (all2 (dt_nm (wa_low hwa)) (dt_nm (okN_low hn))) (by simp)).up (by decide), rfl, rfl, rfl⟩
      · cases e
    · cases e
  · rename_i w n f
    split at e
    · rename_i hwf
      split at e
      · rename_i hn
        cases q : faceR f with
        | none => rw [q] at e; cases e
        | some l =>
          rw [q] at e
          cases e
          have := faceR_len (hw f (by simp)) q
          exact ⟨dt_tup (n := 1) (all3 ((dt_nm (wf_low hwf)).up (by decide)) ((dt_nm (okN_low hn)).up (by decide)) (dt_ints (by omega))) (by simp), rfl, rfl, rfl⟩
      · cases e
    · cases e
  · rename_i w n0 n1 n2 s0 s1 r
    split at e
    · split at e
      · rename_i hn
        split at e
        · rename_i a b l ea eb el
          cases e
          have := rowR_len (hw r (by simp)) el
          refine ⟨dt_tup (n := 1) (fun v hv => ?_) (by simp), rfl, rfl, rfl⟩
          simp only [List.mem_cons, List.not_mem_nil, or_false] at hv
          rcases hv with rfl | rfl | rfl | rfl | rfl | rfl | rfl
          · exact (dt_nm (by decide)).up (by decide)
          · exact (dt_nm (okN_low hn.1)).up (by decide)
          · exact (dt_nm (okN_low hn.2.1)).up (by decide)
          · exact (dt_nm (okN_low hn.2.2)).up (by decide)
          · exact (dt_int _).up (by decide)
          · exact (dt_int _).up (by decide)
          · exact dt_ints (by omega)
        · cases e
      · cases e
    · cases e
  · cases e
theorem optV_dt (o : Option Int) : Dt 0 (optV o) := by
  cases o with
  | none => exact dt_non
  | some i => exact dt_int i
theorem optL_cons {f : List Nat → Option Int} (w : List Nat) (ws : List (List Nat)) : optL f (w :: ws) = match f w with
    | none => none
    | some v => (optL f ws).map (v :: ·) := rfl
theorem optL_any {f : List Nat → Option Int} : ∀ ws : List (List Nat), (ws.map fun w => optV (f w)).any isNon = (optL f ws).isNone
  | [] => rfl
  | w :: ws => by
    rw [List.map_cons, List.any_cons, optL_any ws, optL_cons]
    cases f w with
    | none => rfl
    | some v => cases optL f ws <;> rfl
theorem optL_map {f : List Nat → Option Int} : ∀ {ws : List (List Nat)} {vs : List Int}, optL f ws = some vs → (ws.map fun w => optV (f w)) = vs.map VV.int
  | [], vs, e => by cases e; rfl
  | w :: ws, vs, e => by
    unfold optL at e
    split at e
    · cases e
    · rename_i v ev
      cases q : optL f ws with
      | none => rw [q] at e; cases e
      | some us =>
        rw [q] at e; cases e
        rw [List.map_cons, optL_map q, ev]; rfl
section
variable {h : VH}
theorem inN_lst {n : Nat} {vs : List VV} (hv : ∀ v ∈ vs, Dt n v) (hn : n < 64) (hl : vs.length ≤ 200000) : opInN h .non (.lst vs) = some (.bl (vs.any isNon)) := by
  have k := dt_lst hv hl
  show (if isDs vs = true ∧ SeqAt.shaped (toD (.lst vs)) = true then some (VV.bl (vs.any isNon)) else none) = _
  rw [if_pos ⟨(dt_all hv).1, k.shaped hn⟩]
theorem inN_tup {n : Nat} {vs : List VV} (hv : ∀ v ∈ vs, Dt n v) (hn : n < 64) (hl : vs.length ≤ 200000) : opInN h .non (.tup vs) = some (.bl (vs.any isNon)) := by
  have k := dt_tup hv hl
  show (if isDs vs = true ∧ SeqAt.shaped (toD (.tup vs)) = true then some (VV.bl (vs.any isNon)) else none) = _
  rw [if_pos ⟨(dt_all hv).1, k.shaped hn⟩]
def optTV (o : Option (List Int)) : VV := match o with
  | some l => intsT l
  | none => .non
theorem obj_optV {o : Option Int} : (optV o).isObj = false := by cases o <;> rfl
theorem parts_in2 {w : List Nat} {s : Nat} {p : Bool} {o o2 : VO} (hs : s < 256) (hl : w.length ≤ 100000) (ho : lowO 2 o = true) (ho2 : lowO 2 o2 = true) : F_law_parts_in [nmV w, nmV [s], .bl p] [o, o2] = .ok (optTV (optL (if p = true then plainR else numR) (cutAt s w))) [o, o2] := by
  have hc := cutAt_len s w
  unfold F_law_parts_in B_law_parts_in
  walk_at "evu"
  rw [if_neg (by decide)]
  walk_at "evu"
  rw [split_any hs (by omega)]
  walk_at "evu"
  obtain ⟨ρ2, h2, e5, o4, rfl, rfl⟩ := for_pre (b := bNm 4) (body := lb_law_parts_in_1) nmV
    (fun pre ρ h => ∃ (o4 : Option VV), ρ = [some (nmV w), some (nmV [s]), some (VV.bl p), some (VV.obj 2), o4] ∧ h = [o, o2, .fl (pre.map fun x => optV ((if p = true then plainR else numR) x))])
    (cutAt s w) (ρ := [some (nmV w), some (nmV [s]), some (VV.bl p), some (VV.obj 2), none]) (h := [o, o2, .fl []]) ⟨none, rfl, rfl⟩ (by
      rintro pre x post ey ρ h ⟨o4, rfl, rfl⟩
      have hx : x ∈ cutAt s w := by rw [ey]; simp
      have hxl := cutAt_part s w x hx
      have hp : pre.length ≤ 100001 := by
        have := congrArg List.length ey
        rw [List.length_append] at this
        omega
      refine ⟨_, _, _, rfl, ?_, some (nmV x), rfl, rfl⟩
      walk_at "evu"
      cases p with
      | true =>
        walk_at "evu"
        rw [plain_in_any (by omega)]
        walk_at "evu"
        rw [appO_fl (by rw [List.length_map]; omega) obj_optV]
        walk_at "evu"
        rw [List.map_append]; rfl
      | false =>
        walk_at "evu"
        rw [number_in_any (by omega)]
        walk_at "evu"
        rw [appO_fl (by rw [List.length_map]; omega) obj_optV]
        walk_at "evu"
        rw [List.map_append]; rfl)
  rw [e5, thn_nx]
  walk_at "evu"
  generalize (if p = true then plainR else numR) = f
  rw [inN_lst (n := 0) (fun v hv => by
    obtain ⟨x, _, rfl⟩ := List.mem_map.mp hv
    exact optV_dt _) (by decide) (by rw [List.length_map]; omega), optL_any]
  cases q : optL f (cutAt s w) with
  | none =>
    simp only [Option.isNone]
    walk_at "evu"
    exact fin_low (h := [o, o2]) rfl rfl (by simp [ho, ho2])
  | some vs =>
    simp only [Option.isNone]
    walk_at "evu"
    rw [optL_map q]
    simp only [tuple_lst]
    walk_at "evu"
    exact fin_low (h := [o, o2]) rfl rfl (by simp [ho, ho2])
theorem parts_in1 {w : List Nat} {s : Nat} {p : Bool} {o : VO} (hs : s < 256) (hl : w.length ≤ 100000) (ho : lowO 1 o = true) : F_law_parts_in [nmV w, nmV [s], .bl p] [o] = .ok (optTV (optL (if p = true then plainR else numR) (cutAt s w))) [o] := by
  have hc := cutAt_len s w
  unfold F_law_parts_in B_law_parts_in
  walk_at "evu"
  rw [if_neg (by decide)]
  walk_at "evu"
  rw [split_any hs (by omega)]
  walk_at "evu"
  obtain ⟨ρ2, h2, e5, o4, rfl, rfl⟩ := for_pre (b := bNm 4) (body := lb_law_parts_in_1) nmV
    (fun pre ρ h => ∃ (o4 : Option VV), ρ = [some (nmV w), some (nmV [s]), some (VV.bl p), some (VV.obj 1), o4] ∧ h = [o, .fl (pre.map fun x => optV ((if p = true then plainR else numR) x))])
    (cutAt s w) (ρ := [some (nmV w), some (nmV [s]), some (VV.bl p), some (VV.obj 1), none]) (h := [o, .fl []]) ⟨none, rfl, rfl⟩ (by
      rintro pre x post ey ρ h ⟨o4, rfl, rfl⟩
      have hx : x ∈ cutAt s w := by rw [ey]; simp
      have hxl := cutAt_part s w x hx
      have hp : pre.length ≤ 100001 := by
        have := congrArg List.length ey
        rw [List.length_append] at this
        omega
      refine ⟨_, _, _, rfl, ?_, some (nmV x), rfl, rfl⟩
      walk_at "evu"
      cases p with
      | true =>
        walk_at "evu"
        rw [plain_in_any (by omega)]
        walk_at "evu"
        rw [appO_fl (by rw [List.length_map]; omega) obj_optV]
        walk_at "evu"
        rw [List.map_append]; rfl
      | false =>
        walk_at "evu"
        rw [number_in_any (by omega)]
        walk_at "evu"
        rw [appO_fl (by rw [List.length_map]; omega) obj_optV]
        walk_at "evu"
        rw [List.map_append]; rfl)
  rw [e5, thn_nx]
  walk_at "evu"
  generalize (if p = true then plainR else numR) = f
  rw [inN_lst (n := 0) (fun v hv => by
    obtain ⟨x, _, rfl⟩ := List.mem_map.mp hv
    exact optV_dt _) (by decide) (by rw [List.length_map]; omega), optL_any]
  cases q : optL f (cutAt s w) with
  | none =>
    simp only [Option.isNone]
    walk_at "evu"
    exact fin_low (h := [o]) rfl rfl (by simp [ho])
  | some vs =>
    simp only [Option.isNone]
    walk_at "evu"
    rw [optL_map q]
    simp only [tuple_lst]
    walk_at "evu"
    exact fin_low (h := [o]) rfl rfl (by simp [ho])
end
open L2 hiding fin_ret fin_exc
section
variable {h : VH}
theorem cut14 {a b c d e f g : VV} : cut [a, b, c, d, e, f, g] (some 1) (some 4) = [b, c, d] := rfl
theorem l7_2 {a b c d e f g : VV} : opIx h (.lst [a, b, c, d, e, f, g]) (.int 2) = some c := rfl
theorem l7_3 {a b c d e f g : VV} : opIx h (.lst [a, b, c, d, e, f, g]) (.int 3) = some d := rfl
theorem l7_4 {a b c d e f g : VV} : opIx h (.lst [a, b, c, d, e, f, g]) (.int 4) = some e := rfl
theorem l7_5 {a b c d e f g : VV} : opIx h (.lst [a, b, c, d, e, f, g]) (.int 5) = some f := rfl
theorem l7_6 {a b c d e f g : VV} : opIx h (.lst [a, b, c, d, e, f, g]) (.int 6) = some g := rfl
theorem l3_2b {a b c : VV} : opIx h (.lst [a, b, c]) (.int 2) = some c := rfl
theorem lc_isname {j : Nat} {e : EF} {ρ : VSt} : ∀ {ws : List (List Nat)}, (∀ w ∈ ws, e (ρ.set j (some (nmV w))) h = .ok (.bl (okN w)) h) → lcGo (bNm j) tTrue e ρ (ws.map nmV) h = .ok ((ws.map okN).map VV.bl) h := fun hx => by
  rw [List.map_map]
  exact lc_map (b := bNm j) (t := tTrue) nmV (VV.bl ∘ okN) fun w hw => ⟨_, rfl, rfl, hx w hw, rfl⟩
theorem isNon_tv {o : Option (List Int)} : opIsN h (optTV o) .non = some (.bl o.isNone) := by cases o <;> rfl
theorem optTV_dt {o : Option (List Int)} (hl : ∀ l, o = some l → l.length ≤ 200000) : Dt 1 (optTV o) := by
  cases o with
  | none => exact dt_non.up (by decide)
  | some l => exact dt_ints (hl l rfl)
theorem isNon_optV (o : Option Int) : isNon (optV o) = o.isNone := by cases o <;> rfl
theorem isNon_optTV (o : Option (List Int)) : isNon (optTV o) = o.isNone := by cases o <;> rfl
theorem obj_optTV {o : Option (List Int)} : (optTV o).isObj = false := by cases o <;> rfl
end
theorem chk {xs : List VV} {n : Nat} (h : xs.any VV.isObj = false) (k : n ≤ 16777216) : ¬ (xs.any VV.isObj = true ∨ n > SZ) := by
  rintro (z | z)
  · rw [h] at z; cases z
  · exact absurd k (Nat.not_le.mpr z)
set_option maxHeartbeats 2000000 in
theorem words_read_in2 {o o2 : VO} {ws : List (List Nat)} (h0 : ws ≠ []) (hw : ∀ w ∈ ws, w.length ≤ 100000) (hn : ws.length ≤ 8000) (ho : lowO 2 o = true) (ho2 : lowO 2 o2 = true) : F_law_words_read [.lst (ws.map nmV)] [o, o2] = .ok (optDV (wordsR ws)) [o, o2] := by
  cases ws with
  | nil => exact absurd rfl h0
  | cons w ws =>
    rw [List.length_cons] at hn
    have nm : ∀ x ∈ ws, x.length ≤ 100000 := fun x hx => hw x (List.mem_cons_of_mem _ hx)
    obtain ⟨m, hm⟩ : ∃ m : Int, ((w :: ws).length : Int) = m := ⟨_, rfl⟩
    have hm' : (ws.length : Int) + 1 = m := by rw [← hm, List.length_cons]; omega
    have hlen : ∀ h : VH, cLen h [.lst (nmV w :: ws.map nmV)] = some (.int m) := fun h => by rw [len_lst, ← hm, List.length_cons, List.length_cons, List.length_map]
    unfold F_law_words_read B_law_words_read
    walk_at "evu"
    rw [if_neg (by decide)]
    walk_at "evu"
    simp only [in_wa]
    by_cases c1 : w ∈ wa
    · obtain ⟨k1, k2, k3⟩ := nk_a c1
      simp only [decide_eq_true c1]
      walk_at "evu"
      simp only [hlen]
      walk_at "evu"
      by_cases d1 : m = 2
      · obtain ⟨n, rfl⟩ : ∃ n, ws = [n] := List.length_eq_one_iff.mp (by omega)
        simp only [decide_eq_true d1]
        walk_at "evu"
        simp only [law_is_name_any (nm n (by simp))]
        rw [show wordsR [w, n] = if w ∈ wa then (if okN n = true then some (.tup [nmV w, nmV n]) else none) else none from rfl, if_pos c1]
        cases okN n
        · walk_at "evu"
          rw [fin_ret (show [o, o2].length = 2 from rfl)]; rfl
        · walk_at "evu"
          rw [if_neg (chk (by simp [nmV, VV.isObj]) (by decide))]
          walk_at "evu"
          rw [fin_ret (show [o, o2].length = 2 from rfl)]; rfl
      · simp only [decide_eq_false d1]
        walk_at "evu"
        rw [wordsR_none (fun _ => by omega) (fun z => absurd z k3) (fun z => absurd z k1), fin_ret (show [o, o2].length = 2 from rfl)]
        rfl
    · simp only [decide_eq_false c1]
      walk_at "evu"
      rw [if_neg (by decide)]
      walk_at "evu"
      simp only [in_wf]
      by_cases c2 : w ∈ wf
      · obtain ⟨k1, k2, k3⟩ := nk_f c2
        simp only [decide_eq_true c2]
        walk_at "evu"
        simp only [hlen]
        walk_at "evu"
        by_cases d1 : m = 3
        · obtain ⟨n, f, rfl⟩ : ∃ n f, ws = [n, f] := by
            match ws, (show ws.length = 2 by omega) with
            | [a, b], _ => exact ⟨a, b, rfl⟩
          simp only [decide_eq_true d1]
          walk_at "evu"
          simp only [law_is_name_any (nm n (by simp))]
          rw [show wordsR [w, n, f] = if w ∈ wf then (if okN n = true then (faceR f).map fun l => .tup [nmV w, nmV n, intsT l] else none) else none from rfl, if_pos c2]
          have hf := nm f (by simp)
          cases okN n
          · walk_at "evu"
            rw [fin_ret (show [o, o2].length = 2 from rfl)]; rfl
          · walk_at "evu"
            simp only [l3_2b]
            walk_at "evu"
            rw [parts_in2 (by decide) hf ho ho2]
            walk_at "evu"
            simp only [isNon_tv]
            rw [show optL plainR (cutAt 46 f) = faceR f from rfl]
            cases faceR f with
            | none =>
              simp only [Option.isNone]
              walk_at "evu"
              rw [fin_ret (show [o, o2].length = 2 from rfl)]; rfl
            | some l =>
              simp only [Option.isNone]
              walk_at "evu"
              rw [if_neg (chk (by simp [optTV, intsT, nmV, VV.isObj]) (by decide))]
              walk_at "evu"
              rw [fin_ret (show [o, o2].length = 2 from rfl)]; rfl
        · simp only [decide_eq_false d1]
          walk_at "evu"
          rw [wordsR_none (fun z => absurd z c1) (fun _ => by omega) (fun z => absurd z k1), fin_ret (show [o, o2].length = 2 from rfl)]
          rfl
      · simp only [decide_eq_false c2]
        walk_at "evu"
        simp only [t_ne]
        by_cases c3 : w = wKeep
        · subst c3
          simp only [decide_true]
          walk_at "evu"
          simp only [hlen]
          walk_at "evu"
          by_cases d1 : m = 7
          · obtain ⟨n0, n1, n2, s0, s1, r, rfl⟩ : ∃ a b c d e f, ws = [a, b, c, d, e, f] := by
              match ws, (show ws.length = 6 by omega) with
              | [a, b, c, d, e, f], _ => exact ⟨a, b, c, d, e, f, rfl⟩
            simp only [decide_eq_true d1]
            walk_at "evu"
            simp only [sl_lst, cut14]
            walk_at "evu"
            rw [if_neg (by show ¬ _ > 16777216; simp)]
            simp only [wp, List.set_cons_zero, List.set_cons_succ]
            have em := lc_isname (j := 4) (e := le_law_words_read_1) (ρ := [some (VV.lst [nmV wKeep, nmV n0, nmV n1, nmV n2, nmV s0, nmV s1, nmV r]), none, none, none, none]) (h := [o, o2]) (ws := [n0, n1, n2]) (fun n hn => by
              have := nm n (by simp only [List.mem_cons, List.not_mem_nil, or_false] at hn ⊢; rcases hn with rfl | rfl | rfl <;> simp)
              walk_at "evu"
              rw [law_is_name_any this])
            simp only [List.map_cons, List.map_nil] at em
            simp only [em, afterL_ok]
            walk_at "evu"
            have ea : cAll [o, o2] [.lst [.bl (okN n0), .bl (okN n1), .bl (okN n2)]] = some (.bl (okN n0 && (okN n1 && (okN n2 && true)))) := (show cAll [o, o2] [.lst ([okN n0, okN n1, okN n2].map VV.bl)] = _ from all_bls)
            simp only [ea]
            rw [show wordsR [wKeep, n0, n1, n2, s0, s1, r] = if wKeep = wKeep then (if okN n0 = true ∧ okN n1 = true ∧ okN n2 = true then (match plainR s0, plainR s1, rowR r with
      | some a, some b, some l => some (.tup [nmV wKeep, nmV n0, nmV n1, nmV n2, .int a, .int b, intsT l])
      | _, _, _ => none) else none) else none from rfl, if_pos rfl]
            by_cases d2 : okN n0 = true ∧ okN n1 = true ∧ okN n2 = true
            · rw [if_pos d2]
              obtain ⟨q0, q1, q2⟩ := d2
              simp only [q0, q1, q2, Bool.and_true]
              walk_at "evu"
              simp only [l7_6]
              walk_at "evu"
              simp only [t_eq]
              have hr := nm r (by simp)
              by_cases d3 : r = [45]
              · simp only [decide_eq_true d3]
                walk_at "evu"
                rw [if_neg (by decide)]
                walk_at "evu"
                rw [show (VV.tup []) = optTV (rowR r) by unfold rowR; rw [if_pos d3]; rfl]
                simp only [l7_4]
                walk_at "evu"
                simp only [plain_in_any (nm s0 (by simp))]
                walk_at "evu"
                simp only [l7_5]
                walk_at "evu"
                simp only [plain_in_any (nm s1 (by simp))]
                walk_at "evu"
                rw [if_neg (by rw [obj_optV, obj_optV, obj_optTV]; decide)]
                walk_at "evu"
                rw [inN_tup (n := 1) (all3 ((optV_dt _).up (by decide)) ((optV_dt _).up (by decide)) (optTV_dt fun l hl => by have := rowR_len hr hl; omega)) (by decide) (by simp)]
                walk_at "evu"
                simp only [List.any_cons, List.any_nil, isNon_optV, isNon_optTV]
                cases plainR s0 with
                | none => walk_at "evu"; simp only [Option.isNone, Bool.true_or]; walk_at "evu"; rw [fin_ret (show [o, o2].length = 2 from rfl)]; rfl
                | some a => cases plainR s1 with
                  | none => walk_at "evu"; simp only [Option.isNone, Bool.true_or, Bool.or_true]; walk_at "evu"; rw [fin_ret (show [o, o2].length = 2 from rfl)]; rfl
                  | some b => cases rowR r with
                    | none => walk_at "evu"; simp only [Option.isNone, Bool.true_or, Bool.or_true, Bool.or_false]; walk_at "evu"; rw [fin_ret (show [o, o2].length = 2 from rfl)]; rfl
                    | some l =>
                      walk_at "evu"
                      simp only [Option.isNone, Bool.or_false]
                      walk_at "evu"
                      simp only [l7_2]
                      walk_at "evu"
                      simp only [l7_3]
                      walk_at "evu"
                      rw [if_neg (by first | decide | (simp [obj_nm]; decide))]
                      walk_at "evu"
                      rw [add_tup (by simp)]
                      walk_at "evu"
                      rw [fin_ret (show [o, o2].length = 2 from rfl)]; rfl
              · simp only [decide_eq_false d3]
                walk_at "evu"
                simp only [l7_6]
                walk_at "evu"
                rw [parts_in2 (by decide) hr ho ho2]
                walk_at "evu"
                rw [show optL numR (cutAt 44 r) = rowR r by unfold rowR; rw [if_neg d3]]
                simp only [l7_4]
                walk_at "evu"
                simp only [plain_in_any (nm s0 (by simp))]
                walk_at "evu"
                simp only [l7_5]
                walk_at "evu"
                simp only [plain_in_any (nm s1 (by simp))]
                walk_at "evu"
                rw [if_neg (by rw [obj_optV, obj_optV, obj_optTV]; decide)]
                walk_at "evu"
                rw [inN_tup (n := 1) (all3 ((optV_dt _).up (by decide)) ((optV_dt _).up (by decide)) (optTV_dt fun l hl => by have := rowR_len hr hl; omega)) (by decide) (by simp)]
                walk_at "evu"
                simp only [List.any_cons, List.any_nil, isNon_optV, isNon_optTV]
                cases plainR s0 with
                | none => walk_at "evu"; simp only [Option.isNone, Bool.true_or]; walk_at "evu"; rw [fin_ret (show [o, o2].length = 2 from rfl)]; rfl
                | some a => cases plainR s1 with
                  | none => walk_at "evu"; simp only [Option.isNone, Bool.true_or, Bool.or_true]; walk_at "evu"; rw [fin_ret (show [o, o2].length = 2 from rfl)]; rfl
                  | some b => cases rowR r with
                    | none => walk_at "evu"; simp only [Option.isNone, Bool.true_or, Bool.or_true, Bool.or_false]; walk_at "evu"; rw [fin_ret (show [o, o2].length = 2 from rfl)]; rfl
                    | some l =>
                      walk_at "evu"
                      simp only [Option.isNone, Bool.or_false]
                      walk_at "evu"
                      simp only [l7_2]
                      walk_at "evu"
                      simp only [l7_3]
                      walk_at "evu"
                      rw [if_neg (by first | decide | (simp [obj_nm]; decide))]
                      walk_at "evu"
                      rw [add_tup (by simp)]
                      walk_at "evu"
                      rw [fin_ret (show [o, o2].length = 2 from rfl)]; rfl
            · rw [if_neg d2]
              have : (okN n0 && (okN n1 && (okN n2 && true))) = false := by simpa using d2
              simp only [this]
              walk_at "evu"
              rw [fin_ret (show [o, o2].length = 2 from rfl)]; rfl
          · simp only [decide_eq_false d1]
            walk_at "evu"
            rw [wordsR_none (fun z => absurd z c1) (fun z => absurd z c2) (fun _ => by omega), fin_ret (show [o, o2].length = 2 from rfl)]
            rfl
        · simp only [decide_eq_false c3]
          walk_at "evu"
          rw [wordsR_none (fun z => absurd z c1) (fun z => absurd z c2) (fun z => absurd z c3), fin_ret (show [o, o2].length = 2 from rfl)]
          rfl
set_option maxHeartbeats 2000000 in
theorem words_read_in1 {o : VO} {ws : List (List Nat)} (h0 : ws ≠ []) (hw : ∀ w ∈ ws, w.length ≤ 100000) (hn : ws.length ≤ 8000) (ho : lowO 1 o = true) : F_law_words_read [.lst (ws.map nmV)] [o] = .ok (optDV (wordsR ws)) [o] := by
  cases ws with
  | nil => exact absurd rfl h0
  | cons w ws =>
    rw [List.length_cons] at hn
    have nm : ∀ x ∈ ws, x.length ≤ 100000 := fun x hx => hw x (List.mem_cons_of_mem _ hx)
    obtain ⟨m, hm⟩ : ∃ m : Int, ((w :: ws).length : Int) = m := ⟨_, rfl⟩
    have hm' : (ws.length : Int) + 1 = m := by rw [← hm, List.length_cons]; omega
    have hlen : ∀ h : VH, cLen h [.lst (nmV w :: ws.map nmV)] = some (.int m) := fun h => by rw [len_lst, ← hm, List.length_cons, List.length_cons, List.length_map]
    unfold F_law_words_read B_law_words_read
    walk_at "evu"
    rw [if_neg (by decide)]
    walk_at "evu"
    simp only [in_wa]
    by_cases c1 : w ∈ wa
    · obtain ⟨k1, k2, k3⟩ := nk_a c1
      simp only [decide_eq_true c1]
      walk_at "evu"
      simp only [hlen]
      walk_at "evu"
      by_cases d1 : m = 2
      · obtain ⟨n, rfl⟩ : ∃ n, ws = [n] := List.length_eq_one_iff.mp (by omega)
        simp only [decide_eq_true d1]
        walk_at "evu"
        simp only [law_is_name_any (nm n (by simp))]
        rw [show wordsR [w, n] = if w ∈ wa then (if okN n = true then some (.tup [nmV w, nmV n]) else none) else none from rfl, if_pos c1]
        cases okN n
        · walk_at "evu"
          rw [fin_ret (show [o].length = 1 from rfl)]; rfl
        · walk_at "evu"
          rw [if_neg (chk (by simp [nmV, VV.isObj]) (by decide))]
          walk_at "evu"
          rw [fin_ret (show [o].length = 1 from rfl)]; rfl
      · simp only [decide_eq_false d1]
        walk_at "evu"
        rw [wordsR_none (fun _ => by omega) (fun z => absurd z k3) (fun z => absurd z k1), fin_ret (show [o].length = 1 from rfl)]
        rfl
    · simp only [decide_eq_false c1]
      walk_at "evu"
      rw [if_neg (by decide)]
      walk_at "evu"
      simp only [in_wf]
      by_cases c2 : w ∈ wf
      · obtain ⟨k1, k2, k3⟩ := nk_f c2
        simp only [decide_eq_true c2]
        walk_at "evu"
        simp only [hlen]
        walk_at "evu"
        by_cases d1 : m = 3
        · obtain ⟨n, f, rfl⟩ : ∃ n f, ws = [n, f] := by
            match ws, (show ws.length = 2 by omega) with
            | [a, b], _ => exact ⟨a, b, rfl⟩
          simp only [decide_eq_true d1]
          walk_at "evu"
          simp only [law_is_name_any (nm n (by simp))]
          rw [show wordsR [w, n, f] = if w ∈ wf then (if okN n = true then (faceR f).map fun l => .tup [nmV w, nmV n, intsT l] else none) else none from rfl, if_pos c2]
          have hf := nm f (by simp)
          cases okN n
          · walk_at "evu"
            rw [fin_ret (show [o].length = 1 from rfl)]; rfl
          · walk_at "evu"
            simp only [l3_2b]
            walk_at "evu"
            rw [parts_in1 (by decide) hf ho]
            walk_at "evu"
            simp only [isNon_tv]
            rw [show optL plainR (cutAt 46 f) = faceR f from rfl]
            cases faceR f with
            | none =>
              simp only [Option.isNone]
              walk_at "evu"
              rw [fin_ret (show [o].length = 1 from rfl)]; rfl
            | some l =>
              simp only [Option.isNone]
              walk_at "evu"
              rw [if_neg (chk (by simp [optTV, intsT, nmV, VV.isObj]) (by decide))]
              walk_at "evu"
              rw [fin_ret (show [o].length = 1 from rfl)]; rfl
        · simp only [decide_eq_false d1]
          walk_at "evu"
          rw [wordsR_none (fun z => absurd z c1) (fun _ => by omega) (fun z => absurd z k1), fin_ret (show [o].length = 1 from rfl)]
          rfl
      · simp only [decide_eq_false c2]
        walk_at "evu"
        simp only [t_ne]
        by_cases c3 : w = wKeep
        · subst c3
          simp only [decide_true]
          walk_at "evu"
          simp only [hlen]
          walk_at "evu"
          by_cases d1 : m = 7
          · obtain ⟨n0, n1, n2, s0, s1, r, rfl⟩ : ∃ a b c d e f, ws = [a, b, c, d, e, f] := by
              match ws, (show ws.length = 6 by omega) with
              | [a, b, c, d, e, f], _ => exact ⟨a, b, c, d, e, f, rfl⟩
            simp only [decide_eq_true d1]
            walk_at "evu"
            simp only [sl_lst, cut14]
            walk_at "evu"
            rw [if_neg (by show ¬ _ > 16777216; simp)]
            simp only [wp, List.set_cons_zero, List.set_cons_succ]
            have em := lc_isname (j := 4) (e := le_law_words_read_1) (ρ := [some (VV.lst [nmV wKeep, nmV n0, nmV n1, nmV n2, nmV s0, nmV s1, nmV r]), none, none, none, none]) (h := [o]) (ws := [n0, n1, n2]) (fun n hn => by
              have := nm n (by simp only [List.mem_cons, List.not_mem_nil, or_false] at hn ⊢; rcases hn with rfl | rfl | rfl <;> simp)
              walk_at "evu"
              rw [law_is_name_any this])
            simp only [List.map_cons, List.map_nil] at em
            simp only [em, afterL_ok]
            walk_at "evu"
            have ea : cAll [o] [.lst [.bl (okN n0), .bl (okN n1), .bl (okN n2)]] = some (.bl (okN n0 && (okN n1 && (okN n2 && true)))) := (show cAll [o] [.lst ([okN n0, okN n1, okN n2].map VV.bl)] = _ from all_bls)
            simp only [ea]
            rw [show wordsR [wKeep, n0, n1, n2, s0, s1, r] = if wKeep = wKeep then (if okN n0 = true ∧ okN n1 = true ∧ okN n2 = true then (match plainR s0, plainR s1, rowR r with
      | some a, some b, some l => some (.tup [nmV wKeep, nmV n0, nmV n1, nmV n2, .int a, .int b, intsT l])
      | _, _, _ => none) else none) else none from rfl, if_pos rfl]
            by_cases d2 : okN n0 = true ∧ okN n1 = true ∧ okN n2 = true
            · rw [if_pos d2]
              obtain ⟨q0, q1, q2⟩ := d2
              simp only [q0, q1, q2, Bool.and_true]
              walk_at "evu"
              simp only [l7_6]
              walk_at "evu"
              simp only [t_eq]
              have hr := nm r (by simp)
              by_cases d3 : r = [45]
              · simp only [decide_eq_true d3]
                walk_at "evu"
                rw [if_neg (by decide)]
                walk_at "evu"
                rw [show (VV.tup []) = optTV (rowR r) by unfold rowR; rw [if_pos d3]; rfl]
                simp only [l7_4]
                walk_at "evu"
                simp only [plain_in_any (nm s0 (by simp))]
                walk_at "evu"
                simp only [l7_5]
                walk_at "evu"
                simp only [plain_in_any (nm s1 (by simp))]
                walk_at "evu"
                rw [if_neg (by rw [obj_optV, obj_optV, obj_optTV]; decide)]
                walk_at "evu"
                rw [inN_tup (n := 1) (all3 ((optV_dt _).up (by decide)) ((optV_dt _).up (by decide)) (optTV_dt fun l hl => by have := rowR_len hr hl; omega)) (by decide) (by simp)]
                walk_at "evu"
                simp only [List.any_cons, List.any_nil, isNon_optV, isNon_optTV]
                cases plainR s0 with
                | none => walk_at "evu"; simp only [Option.isNone, Bool.true_or]; walk_at "evu"; rw [fin_ret (show [o].length = 1 from rfl)]; rfl
                | some a => cases plainR s1 with
                  | none => walk_at "evu"; simp only [Option.isNone, Bool.true_or, Bool.or_true]; walk_at "evu"; rw [fin_ret (show [o].length = 1 from rfl)]; rfl
                  | some b => cases rowR r with
                    | none => walk_at "evu"; simp only [Option.isNone, Bool.true_or, Bool.or_true, Bool.or_false]; walk_at "evu"; rw [fin_ret (show [o].length = 1 from rfl)]; rfl
                    | some l =>
                      walk_at "evu"
                      simp only [Option.isNone, Bool.or_false]
                      walk_at "evu"
                      simp only [l7_2]
                      walk_at "evu"
                      simp only [l7_3]
                      walk_at "evu"
                      rw [if_neg (by first | decide | (simp [obj_nm]; decide))]
                      walk_at "evu"
                      rw [add_tup (by simp)]
                      walk_at "evu"
                      rw [fin_ret (show [o].length = 1 from rfl)]; rfl
              · simp only [decide_eq_false d3]
                walk_at "evu"
                simp only [l7_6]
                walk_at "evu"
                rw [parts_in1 (by decide) hr ho]
                walk_at "evu"
                rw [show optL numR (cutAt 44 r) = rowR r by unfold rowR; rw [if_neg d3]]
                simp only [l7_4]
                walk_at "evu"
                simp only [plain_in_any (nm s0 (by simp))]
                walk_at "evu"
                simp only [l7_5]
                walk_at "evu"
                simp only [plain_in_any (nm s1 (by simp))]
                walk_at "evu"
                rw [if_neg (by rw [obj_optV, obj_optV, obj_optTV]; decide)]
                walk_at "evu"
                rw [inN_tup (n := 1) (all3 ((optV_dt _).up (by decide)) ((optV_dt _).up (by decide)) (optTV_dt fun l hl => by have := rowR_len hr hl; omega)) (by decide) (by simp)]
                walk_at "evu"
                simp only [List.any_cons, List.any_nil, isNon_optV, isNon_optTV]
                cases plainR s0 with
                | none => walk_at "evu"; simp only [Option.isNone, Bool.true_or]; walk_at "evu"; rw [fin_ret (show [o].length = 1 from rfl)]; rfl
                | some a => cases plainR s1 with
                  | none => walk_at "evu"; simp only [Option.isNone, Bool.true_or, Bool.or_true]; walk_at "evu"; rw [fin_ret (show [o].length = 1 from rfl)]; rfl
                  | some b => cases rowR r with
                    | none => walk_at "evu"; simp only [Option.isNone, Bool.true_or, Bool.or_true, Bool.or_false]; walk_at "evu"; rw [fin_ret (show [o].length = 1 from rfl)]; rfl
                    | some l =>
                      walk_at "evu"
                      simp only [Option.isNone, Bool.or_false]
                      walk_at "evu"
                      simp only [l7_2]
                      walk_at "evu"
                      simp only [l7_3]
                      walk_at "evu"
                      rw [if_neg (by first | decide | (simp [obj_nm]; decide))]
                      walk_at "evu"
                      rw [add_tup (by simp)]
                      walk_at "evu"
                      rw [fin_ret (show [o].length = 1 from rfl)]; rfl
            · rw [if_neg d2]
              have : (okN n0 && (okN n1 && (okN n2 && true))) = false := by simpa using d2
              simp only [this]
              walk_at "evu"
              rw [fin_ret (show [o].length = 1 from rfl)]; rfl
          · simp only [decide_eq_false d1]
            walk_at "evu"
            rw [wordsR_none (fun z => absurd z c1) (fun z => absurd z c2) (fun _ => by omega), fin_ret (show [o].length = 1 from rfl)]
            rfl
        · simp only [decide_eq_false c3]
          walk_at "evu"
          rw [wordsR_none (fun z => absurd z c1) (fun z => absurd z c2) (fun z => absurd z c3), fin_ret (show [o].length = 1 from rfl)]
          rfl
open L2 hiding fin_ret fin_exc
/-! reading of any text -/
def partR (p : List Nat) : Option VV := if p.take 1 = [32] then wordsR (cutAt 32 (p.drop 1)) else none
def bundR : List (List Nat) → Option (List VV)
  | [] => some []
  | p :: ps => match partR p with
    | none => none
    | some v => (bundR ps).map (v :: ·)
def readR (a : List Nat) : Option VV :=
  if a = wAll then some (.tup [nmV wBundle, .tup []])
  else if a.take 4 = wAll then (bundR (cutAt 59 (a.drop 4))).map fun ds => .tup [nmV wBundle, .tup ds]
  else wordsR (cutAt 32 a)
theorem bundR_cons (p : List Nat) (ps : List (List Nat)) : bundR (p :: ps) = match partR p with
    | none => none
    | some v => (bundR ps).map (v :: ·) := rfl
theorem cut_words {s : Nat} {a : List Nat} (hl : a.length ≤ 7000) : cutAt s a ≠ [] ∧ (∀ w ∈ cutAt s a, w.length ≤ 100000) ∧ (cutAt s a).length ≤ 8000 :=
  ⟨cutAt_ne s a, fun w hw => by have := cutAt_part s a w hw; omega, by have := cutAt_len s a; omega⟩
theorem part_dt {p : List Nat} {v : VV} (hl : p.length ≤ 7000) (e : partR p = some v) : Dt 2 v ∧ v.isObj = false ∧ isNon v = false ∧ lowV 1 v = true := by
  unfold partR at e
  split at e
  · exact words_dt (cut_words (by rw [List.length_drop]; omega)).2.1 e
  · cases e
theorem bund_dt : ∀ {ps : List (List Nat)} {ds : List VV}, (∀ p ∈ ps, p.length ≤ 7000) → bundR ps = some ds → (∀ v ∈ ds, Dt 2 v) ∧ ds.length = ps.length
  | [], ds, _, e => by cases e; exact ⟨fun v hv => by simp at hv, rfl⟩
  | p :: ps, ds, hp, e => by
    rw [bundR_cons] at e
    cases q : partR p with
    | none => rw [q] at e; cases e
    | some v =>
      rw [q] at e
      cases q2 : bundR ps with
      | none => rw [q2] at e; cases e
      | some vs =>
        rw [q2] at e
        cases e
        obtain ⟨h1, h2⟩ := bund_dt (fun x hx => hp x (List.mem_cons_of_mem _ hx)) q2
        refine ⟨fun x hx => ?_, by rw [List.length_cons, List.length_cons, h2]⟩
        rcases List.mem_cons.mp hx with rfl | hx
        · exact (part_dt (hp p List.mem_cons_self) q).1
        · exact h1 x hx
theorem read_dt {a : List Nat} {v : VV} (hl : a.length ≤ 7000) (e : readR a = some v) : Dt 4 v ∧ v.isObj = false ∧ isNon v = false ∧ lowV 1 v = true := by
  unfold readR at e
  split at e
  · cases e
    exact ⟨(dt_tup (n := 1) (all2 ((dt_nm (by decide)).up (by decide)) (dt_tup (n := 0) (fun v hv => by simp at hv) (by simp))) (by simp)).up (by decide), rfl, rfl, rfl⟩
  · split at e
    · cases q : bundR (cutAt 59 (a.drop 4)) with
      | none => rw [q] at e; cases e
      | some ds =>
        rw [q] at e
        cases e
        have hc := cutAt_len 59 (a.drop 4)
        rw [List.length_drop] at hc
        obtain ⟨h1, h2⟩ := bund_dt (fun p hp => by
          have := cutAt_part 59 (a.drop 4) p hp
          rw [List.length_drop] at this
          omega) q
        exact ⟨dt_tup (n := 3) (all2 ((dt_nm (by decide)).up (by decide)) (dt_tup (n := 2) h1 (by omega))) (by simp), rfl, rfl, rfl⟩
    · obtain ⟨h1, h2⟩ := words_dt (cut_words hl).2.1 e
      exact ⟨h1.up (by decide), h2⟩
theorem optDV_dt {o : Option VV} {n : Nat} (h : ∀ v, o = some v → Dt n v ∧ v.isObj = false ∧ isNon v = false ∧ lowV 1 v = true) : Dt n (optDV o) ∧ (optDV o).isObj = false ∧ isNon (optDV o) = o.isNone ∧ lowV 1 (optDV o) = true := by
  cases o with
  | none => exact ⟨dt_non.up (by omega), rfl, rfl, rfl⟩
  | some v =>
    obtain ⟨h1, h2, h3, h4⟩ := h v rfl
    exact ⟨h1, h2, h3, h4⟩
theorem bundR_any : ∀ ps : List (List Nat), (∀ p ∈ ps, p.length ≤ 7000) → (ps.map fun p => optDV (partR p)).any isNon = (bundR ps).isNone
  | [], _ => rfl
  | p :: ps, hp => by
    rw [List.map_cons, List.any_cons, bundR_any ps fun x hx => hp x (List.mem_cons_of_mem _ hx), bundR_cons, (optDV_dt fun v e => part_dt (hp p List.mem_cons_self) e).2.2.1]
    cases partR p with
    | none => rfl
    | some v => cases bundR ps <;> rfl
theorem bundR_map : ∀ {ps : List (List Nat)} {ds : List VV}, bundR ps = some ds → (ps.map fun p => optDV (partR p)) = ds
  | [], ds, e => by cases e; rfl
  | p :: ps, ds, e => by
    rw [bundR_cons] at e
    cases q : partR p with
    | none => rw [q] at e; cases e
    | some v =>
      rw [q] at e
      cases q2 : bundR ps with
      | none => rw [q2] at e; cases e
      | some vs =>
        rw [q2] at e; cases e
        rw [List.map_cons, bundR_map q2, q]; rfl
theorem law_read_any {a : List Nat} {o : VO} (hl : a.length ≤ 7000) (ho : lowO 1 o = true) (ho2 : lowO 2 o = true) : F_law_read [nmV a] [o] = .ok (optDV (readR a)) [o] := by
  unfold F_law_read B_law_read readR
  walk_at "evu"
  simp only [t_eq]
  walk_at "evu"
  by_cases c1 : a = wAll
  · simp only [decide_eq_true c1]
    walk_at "evu"
    rw [if_neg (by decide)]
    walk_at "evu"
    rw [if_neg (by decide)]
    walk_at "evu"
    rw [if_pos c1, fin_ret (show [o].length = 1 from rfl)]; rfl
  · simp only [decide_eq_false c1]
    walk_at "evu"
    rw [if_neg c1]
    simp only [show ∀ h : VH, opSl h (nmV a) none (some 4) = some (nmV (a.take 4)) from fun h => t_fore (k := 4) (by omega)]
    walk_at "evu"
    simp only [t_ne]
    walk_at "evu"
    by_cases c2 : a.take 4 = wAll
    · simp only [decide_eq_true c2]
      have h4 : 4 ≤ a.length := by
        have := congrArg List.length c2
        rw [List.length_take] at this
        have : wAll.length = 4 := rfl
        omega
      walk_at "evu"
      rw [if_neg (by decide)]
      walk_at "evu"
      simp only [show ∀ h : VH, opSl h (nmV a) (some 4) none = some (nmV (a.drop 4)) from fun h => t_rest (k := 4) (by omega) h4]
      walk_at "evu"
      have hd : (a.drop 4).length ≤ 6996 := by rw [List.length_drop]; omega
      rw [if_pos c2]
      generalize a.drop 4 = d at hd
      rw [split_any (by decide) (by omega)]
      walk_at "evu"
      have hc := cutAt_len 59 d
      obtain ⟨ρ2, h2, e5, o4, rfl, rfl⟩ := for_pre (b := bNm 2) (body := lb_law_read_1) nmV
        (fun pre ρ h => ∃ (o4 : Option VV), ρ = [some (nmV a), some (VV.obj 1), o4] ∧ h = [o, .fl (pre.map fun p => optDV (partR p))])
        (cutAt 59 d) (ρ := [some (nmV a), some (VV.obj 1), none]) (h := [o, .fl []]) ⟨none, rfl, rfl⟩ (by
          rintro pre x post ey ρ h ⟨o4, rfl, rfl⟩
          have hx : x ∈ cutAt 59 d := by rw [ey]; simp
          have hxl := cutAt_part 59 d x hx
          have hp : pre.length ≤ 100001 := by
            have := congrArg List.length ey
            rw [List.length_append] at this
            omega
          have hob : (optDV (partR x)).isObj = false := (optDV_dt fun v e => part_dt (by omega) e).2.1
          refine ⟨_, _, _, rfl, ?_, some (nmV x), rfl, rfl⟩
          walk_at "evu"
          simp only [show ∀ h : VH, opSl h (nmV x) none (some 1) = some (nmV (x.take 1)) from fun h => t_fore1 (by omega)]
          walk_at "evu"
          simp only [t_eq]
          walk_at "evu"
          by_cases c3 : x.take 1 = [32]
          · simp only [decide_eq_true c3]
            have h1 : 1 ≤ x.length := by
              cases x with
              | nil => simp at c3
              | cons => simp
            walk_at "evu"
            simp only [show ∀ h : VH, opSl h (nmV x) (some 1) none = some (nmV (x.drop 1)) from fun h => t_rest1 (by omega) h1]
            walk_at "evu"
            rw [split_any (by decide) (by rw [List.length_drop]; omega)]
            walk_at "evu"
            obtain ⟨k1, k2, k3⟩ := cut_words (s := 32) (a := x.drop 1) (by rw [List.length_drop]; omega)
            rw [words_read_in2 k1 k2 k3 ho2 (by simp [lowO])]
            walk_at "evu"
            rw [show wordsR (cutAt 32 (x.drop 1)) = partR x by unfold partR; rw [if_pos c3]]
            rw [appO_fl (by rw [List.length_map]; omega) hob]
            walk_at "evu"
            rw [List.map_append]; rfl
          · simp only [decide_eq_false c3]
            walk_at "evu"
            rw [show VV.non = optDV (partR x) by unfold partR; rw [if_neg c3]; rfl]
            rw [appO_fl (by rw [List.length_map]; omega) hob]
            walk_at "evu"
            rw [List.map_append]; rfl)
      rw [e5, thn_nx]
      walk_at "evu"
      have hps : ∀ p ∈ cutAt 59 d, p.length ≤ 7000 := fun p hp => by
        have := cutAt_part 59 d p hp; omega
      rw [inN_lst (n := 2) (fun v hv => by
        obtain ⟨x, hx, rfl⟩ := List.mem_map.mp hv
        exact (optDV_dt fun v e => part_dt (hps x hx) e).1) (by decide) (by rw [List.length_map]; omega), bundR_any _ hps]
      cases q : bundR (cutAt 59 d) with
      | none =>
        simp only [Option.isNone]
        walk_at "evu"
        exact fin_low (h := [o]) rfl rfl (by simp [ho])
      | some ds =>
        simp only [Option.isNone]
        walk_at "evu"
        rw [bundR_map q]
        simp only [tuple_lst]
        walk_at "evu"
        rw [if_neg (by decide)]
        walk_at "evu"
        exact fin_low (h := [o]) rfl rfl (by simp [ho])
    · simp only [decide_eq_false c2]
      walk_at "evu"
      rw [split_any (by decide) (by omega)]
      walk_at "evu"
      obtain ⟨k1, k2, k3⟩ := cut_words (s := 32) (a := a) hl
      rw [words_read_in1 k1 k2 k3 ho]
      walk_at "evu"
      rw [if_neg c2, fin_ret (show [o].length = 1 from rfl)]
open L2 hiding fin_ret fin_exc
theorem trn_exc' {x : Str} {ns : List Str} {vs : List VV} {ρ : VSt} {h : VH} {k : VSt → VH → SR} {u : Tg k} : (SR.exc x ns vs ρ h).trn k u = .exc x ns vs ρ h := nr rfl
theorem optD_some {v : VV} {h : VH} : optD (some v) h = .ok v h := rfl
theorem of_turn_any {x0 x2 : Option VV} {o o2 : VO} {p : List Nat} {vs : List VV} (hp : p.length ≤ 7000) (hv : vs.length ≤ 100000) : lb_deed_of_1 [x0, some (.obj 2), some (nmV p)] [o, o2, .fl vs] = match partR p with
    | some v => .nx [x0, some (.obj 2), some (nmV p)] [o, o2, .fl (vs ++ [v])]
    | none => .exc "BadText" ["at", "word"] [.int 0, .str "BadText"] [x0, some (.obj 2), some (nmV p)] [o, o2, .fl vs] := by
  walk_at "evu"
  simp only [show ∀ h : VH, opSl h (nmV p) none (some 1) = some (nmV (p.take 1)) from fun h => t_fore1 (by omega)]
  walk_at "evu"
  simp only [t_ne]
  walk_at "evu"
  by_cases c3 : p.take 1 = [32]
  · simp only [decide_eq_true c3]
    have h1 : 1 ≤ p.length := by
      cases p with
      | nil => simp at c3
      | cons => simp
    walk_at "evu"
    simp only [show ∀ h : VH, opSl h (nmV p) (some 1) none = some (nmV (p.drop 1)) from fun h => t_rest1 (by omega) h1]
    walk_at "evu"
    rw [split_any (by decide) (by rw [List.length_drop]; omega)]
    walk_at "evu"
    obtain ⟨k1, k2, k3⟩ := cut_words (s := 32) (a := p.drop 1) (by rw [List.length_drop]; omega)
    rw [read_words_any k1 k2 k3]
    rw [show wordsR (cutAt 32 (p.drop 1)) = partR p by unfold partR; rw [if_pos c3]]
    cases q : partR p with
    | none => unfold optD bad; walk_at "evu"
    | some v =>
      rw [optD_some]
      walk_at "evu"
      rw [appO_fl (by omega) (part_dt hp q).2.1]
      walk_at "evu"
  · simp only [decide_eq_false c3]
    walk_at "evu"
    rw [show partR p = none by unfold partR; rw [if_neg c3]]
theorem of_loop {x0 : Option VV} {o o2 : VO} : ∀ {ps : List (List Nat)} {vs : List VV} {x2 : Option VV}, (∀ p ∈ ps, p.length ≤ 7000) → vs.length + ps.length ≤ 100000 →
    (∃ ds x3, bundR ps = some ds ∧ forGo (bNm 2) lb_deed_of_1 (ps.map nmV) [x0, some (.obj 2), x2] [o, o2, .fl vs] = .nx [x0, some (.obj 2), x3] [o, o2, .fl (vs ++ ds)])
    ∨ ∃ x3 ws, bundR ps = none ∧ forGo (bNm 2) lb_deed_of_1 (ps.map nmV) [x0, some (.obj 2), x2] [o, o2, .fl vs] = .exc "BadText" ["at", "word"] [.int 0, .str "BadText"] [x0, some (.obj 2), x3] [o, o2, .fl ws]
  | [], vs, x2, _, _ => .inl ⟨[], x2, rfl, by rw [List.map_nil, for_nil, List.append_nil]⟩
  | p :: ps, vs, x2, hp, hl => by
    rw [List.length_cons] at hl
    have t := of_turn_any (x0 := x0) (x2 := x2) (o := o) (o2 := o2) (p := p) (vs := vs) (hp p List.mem_cons_self) (by omega)
    have b1 : bNm 2 (nmV p) [x0, some (.obj 2), x2] = some [x0, some (.obj 2), some (nmV p)] := rfl
    rw [List.map_cons, for_cons, b1, obd_some, t, bundR_cons]
    cases q : partR p with
    | none =>
      rw [trn_exc']
      exact .inr ⟨_, _, rfl, rfl⟩
    | some v =>
      rw [trn_nx]
      rcases of_loop (ps := ps) (vs := vs ++ [v]) (x2 := some (nmV p)) (fun x hx => hp x (List.mem_cons_of_mem _ hx)) (by rw [List.length_append, List.length_cons, List.length_nil]; omega) with ⟨ds, x3, e1, e2⟩ | ⟨x3, ws, e1, e2⟩
      · rw [e1, e2]
        exact .inl ⟨v :: ds, x3, rfl, by rw [List.append_assoc]; rfl⟩
      · rw [e1, e2]
        exact .inr ⟨_, _, rfl, rfl⟩
theorem deed_of_any {a : List Nat} {o o2 : VO} (hl : a.length ≤ 7000) (ho : lowO 2 o = true) (ho2 : lowO 2 o2 = true) :
    (∃ v, readR a = some v ∧ F_deed_of [nmV a] [o, o2] = .ok v [o, o2]) ∨ (readR a = none ∧ ∃ t, F_deed_of [nmV a] [o, o2] = .exc "BadText" ["at", "word"] [.int 0, .str "BadText"] (o :: o2 :: t)) := by
  unfold F_deed_of B_deed_of
  walk_at "evu"
  simp only [t_eq]
  walk_at "evu"
  by_cases c1 : a = wAll
  · simp only [decide_eq_true c1]
    walk_at "evu"
    rw [if_neg (by decide)]
    walk_at "evu"
    rw [if_neg (by decide)]
    walk_at "evu"
    rw [fin_ret (show [o, o2].length = 2 from rfl)]
    exact .inl ⟨_, by unfold readR; rw [if_pos c1], rfl⟩
  · simp only [decide_eq_false c1]
    walk_at "evu"
    simp only [show ∀ h : VH, opSl h (nmV a) none (some 4) = some (nmV (a.take 4)) from fun h => t_fore (k := 4) (by omega)]
    walk_at "evu"
    simp only [t_ne]
    walk_at "evu"
    by_cases c2 : a.take 4 = wAll
    · simp only [decide_eq_true c2]
      have h4 : 4 ≤ a.length := by
        have := congrArg List.length c2
        rw [List.length_take] at this
        have : wAll.length = 4 := rfl
        omega
      walk_at "evu"
      rw [if_neg (by decide)]
      walk_at "evu"
      simp only [show ∀ h : VH, opSl h (nmV a) (some 4) none = some (nmV (a.drop 4)) from fun h => t_rest (k := 4) (by omega) h4]
      walk_at "evu"
      have hd : (a.drop 4).length ≤ 6996 := by rw [List.length_drop]; omega
      have eR : readR a = (bundR (cutAt 59 (a.drop 4))).map fun ds => .tup [nmV wBundle, .tup ds] := by unfold readR; rw [if_neg c1, if_pos c2]
      rw [eR]
      generalize a.drop 4 = d at hd
      rw [split_any (by decide) (by omega)]
      walk_at "evu"
      have hc := cutAt_len 59 d
      have hps : ∀ p ∈ cutAt 59 d, p.length ≤ 7000 := fun p hp => by
        have := cutAt_part 59 d p hp; omega
      rcases of_loop (x0 := some (nmV a)) (o := o) (o2 := o2) (ps := cutAt 59 d) (vs := []) (x2 := none) hps (by rw [List.length_nil]; omega) with ⟨ds, x3, e1, e2⟩ | ⟨x3, ws, e1, e2⟩
      · rw [e1, e2]
        refine .inl ⟨_, rfl, ?_⟩
        walk_at "evu"
        simp only [tuple_lst]
        walk_at "evu"
        rw [if_neg (by decide)]
        walk_at "evu"
        exact fin_low (h := [o, o2]) rfl rfl (by simp [ho, ho2])
      · rw [e1, e2]
        refine .inr ⟨rfl, ?_⟩
        walk_at "evu"
        exact ⟨_, rfl⟩
    · simp only [decide_eq_false c2]
      walk_at "evu"
      rw [split_any (by decide) (by omega)]
      walk_at "evu"
      obtain ⟨k1, k2, k3⟩ := cut_words (s := 32) (a := a) hl
      have eR : readR a = wordsR (cutAt 32 a) := by unfold readR; rw [if_neg c1, if_neg c2]
      rw [read_words_any k1 k2 k3, eR]
      cases q : wordsR (cutAt 32 a) with
      | none =>
        refine .inr ⟨rfl, ?_⟩
        unfold optD bad
        walk_at "evu"
        exact ⟨[], rfl⟩
      | some v =>
        refine .inl ⟨v, rfl, ?_⟩
        rw [optD_some]
        walk_at "evu"
        rw [fin_ret (show [o, o2].length = 2 from rfl)]
open L2 hiding fin_ret fin_exc
def wMarks : List Nat := [32, 10, 45, 43, 46, 44, 59, 58, 48, 65, 90, 97, 122, 57, 95, 33, 126, 35, 47]
theorem b_marks : VV.str " \n-+.,;:0AZaz9_!~#/" = nmV wMarks := by kernel_rfl
theorem b_0 : VV.str "-0" = nmV [45, 48] := by kernel_rfl
theorem b_1 : VV.str "00" = nmV [48, 48] := by kernel_rfl
theorem b_2 : VV.str "+3" = nmV [43, 51] := by kernel_rfl
theorem b_3 : VV.str "007" = nmV [48, 48, 55] := by kernel_rfl
theorem b_4 : VV.str "-01" = nmV [45, 48, 49] := by kernel_rfl
theorem b_5 : VV.str "" = nmV [] := by kernel_rfl
theorem b_6 : VV.str "a1" = nmV [97, 49] := by kernel_rfl
theorem b_7 : VV.str "abcdefghi" = nmV [97, 98, 99, 100, 101, 102, 103, 104, 105] := by kernel_rfl
theorem b_8 : VV.str "A" = nmV [65] := by kernel_rfl
theorem b_9 : VV.str "-7" = nmV [45, 55] := by kernel_rfl
theorem b_10 : VV.str "x" = nmV [120] := by kernel_rfl
theorem b_11 : VV.str "1." = nmV [49, 46] := by kernel_rfl
theorem b_12 : VV.str ".1" = nmV [46, 49] := by kernel_rfl
theorem b_13 : VV.str "1," = nmV [49, 44] := by kernel_rfl
theorem b_14 : VV.str "1,,2" = nmV [49, 44, 44, 50] := by kernel_rfl
theorem b_15 : VV.str "1,-2" = nmV [49, 44, 45, 50] := by kernel_rfl
theorem b_16 : VV.str "1.-2" = nmV [49, 46, 45, 50] := by kernel_rfl
theorem b_17 : VV.str "all: " = nmV [97, 108, 108, 58, 32] := by kernel_rfl
theorem b_18 : VV.str "\n" = nmV [10] := by kernel_rfl
theorem b_19 : VV.str "1" = nmV [49] := by kernel_rfl
theorem b_20 : VV.str "9" = nmV [57] := by kernel_rfl
def w31 : List Nat := List.replicate 31 49
def v31 : List Nat := List.replicate 31 57
section
variable {h : VH}
theorem mul31 : opMulS h (nmV [49]) (.int 31) = some (nmV w31) := by kernel_rfl
theorem mul39 : opMulS h (nmV [57]) (.int 31) = some (nmV v31) := by kernel_rfl
theorem mark_at {i : Int} (h0 : 0 ≤ i) (h1 : i < 19) : ∃ c, opIx h (nmV wMarks) (.int i) = some (nmV [c]) := by
  obtain ⟨k, rfl⟩ := Int.eq_ofNat_of_zero_le h0
  have hk : k < 19 := by omega
  have key : ∀ k : Fin 19, opIx h (nmV wMarks) (.int ((k : Nat) : Int)) = some (nmV [wMarks.getD (k : Nat) 0]) := by
    intro k
    match k with
    | ⟨n, hn⟩ =>
      rcases n with _ | _ | _ | _ | _ | _ | _ | _ | _ | _ | _ | _ | _ | _ | _ | _ | _ | _ | _ | n
      all_goals first | (exfalso; omega) | kernel_rfl
  exact ⟨_, key ⟨k, hk⟩⟩
def oddA : List (List Nat) := [[45, 48], [48, 48], [45], [43, 51], [48, 48, 55], [45, 48, 49], [], w31, 45 :: v31, [97, 49], [97, 98, 99, 100, 101, 102, 103, 104, 105], [65]]
def oddB : List (List Nat) := [[48], [45, 55], [120], [49, 46], [46, 49], [49, 44], [49, 44, 44, 50], [49, 44, 45, 50], [49, 46, 45, 50], [97, 108, 108, 58], [112, 117, 116]]
theorem odd_len : ∀ w ∈ oddA ++ oddB, w.length ≤ 32 := by decide
theorem nms_at {ws : List (List Nat)} {i : Int} (h0 : 0 ≤ i) (h1 : i < ws.length) : ∃ w, w ∈ ws ∧ opIx h (.lst (ws.map nmV)) (.int i) = some (nmV w) := by
  obtain ⟨k, rfl⟩ := Int.eq_ofNat_of_zero_le h0
  have hk : k < ws.length := by omega
  refine ⟨ws[k], List.getElem_mem hk, ?_⟩
  rw [x_lst]
  exact atI_in (by rw [List.getElem?_map, List.getElem?_eq_getElem hk]; rfl)
theorem sl_foreV {xs : List VV} {k : Nat} (hk : k ≤ xs.length) : opSl h (.lst xs) none (some (k : Int)) = some (.lst (xs.take k)) := by rw [sl_lst, cut_fore hk]
theorem sl_restV {xs : List VV} {k : Nat} (hk : k ≤ xs.length) : opSl h (.lst xs) (some (k : Int)) none = some (.lst (xs.drop k)) := by rw [sl_lst, cut_back hk]
theorem add_nms {a b : List (List Nat)} (hl : a.length + b.length ≤ 100000) : opAdd h (.lst (a.map nmV)) (.lst (b.map nmV)) = some (.lst ((a ++ b).map nmV)) := by
  show (if (a.map nmV).length + (b.map nmV).length ≤ SZ then some (VV.lst (a.map nmV ++ b.map nmV)) else none) = _
  rw [if_pos (by rw [List.length_map, List.length_map]; show a.length + b.length ≤ 16777216; omega), List.map_append]
end
/-! how long texts of words are -/
def tot (ps : List (List Nat)) : Nat := (ps.map (·.length)).sum + ps.length
theorem tot_cons (p : List Nat) (ps : List (List Nat)) : tot (p :: ps) = p.length + 1 + tot ps := by
  unfold tot; rw [List.map_cons, List.sum_cons, List.length_cons]; omega
theorem tot_app (a b : List (List Nat)) : tot (a ++ b) = tot a + tot b := by
  induction a with
  | nil => unfold tot; simp
  | cons p a ih => rw [List.cons_append, tot_cons, tot_cons, ih]; omega
theorem tot_cut (s : Nat) : ∀ a : List Nat, tot (cutAt s a) = a.length + 1
  | [] => rfl
  | c :: r => by
    have ih := tot_cut s r
    unfold cutAt
    split
    · rw [tot_cons, ih, List.length_cons, List.length_nil]; omega
    · split
      · rename_i e
        exact absurd e (cutAt_ne s r)
      · rename_i q qs e
        rw [e, tot_cons] at ih
        rw [tot_cons, List.length_cons, List.length_cons]; omega
theorem tot_td (ps : List (List Nat)) (i j : Nat) (h : i ≤ j) : tot (ps.take i) + tot (ps.drop j) ≤ tot ps := by
  have e1 := tot_app (ps.take j) (ps.drop j)
  rw [List.take_append_drop] at e1
  have e2 := tot_app ((ps.take j).take i) ((ps.take j).drop i)
  rw [List.take_append_drop, List.take_take, Nat.min_eq_left h] at e2
  omega
theorem tot_mem {ps : List (List Nat)} {p : List Nat} (hp : p ∈ ps) : p.length + 1 ≤ tot ps := by
  induction ps with
  | nil => simp at hp
  | cons q ps ih =>
    rw [tot_cons]
    rcases List.mem_cons.mp hp with rfl | hp
    · omega
    · have := ih hp; omega
theorem join_tot (s : Nat) (ps : List (List Nat)) : (TL.joinL [s] ps).length ≤ tot ps := by
  have := joinL_len [s] ps
  unfold tot
  rw [List.length_cons, List.length_nil] at this
  omega
theorem tot_len (ps : List (List Nat)) : ps.length ≤ tot ps := by unfold tot; omega
section
variable {h : VH}
theorem join_any {s : Nat} {ps : List (List Nat)} (hl : tot ps ≤ 1000000) : joinR (mk [s]) (.lst (ps.map nmV)) h = .ok (nmV (TL.joinL [s] ps)) h := by
  refine t_join ?_
  unfold tot at hl
  rw [List.length_cons, List.length_nil]
  omega
theorem repl_any {a : List Nat} (hl : a.length ≤ 100000) : ∃ a', replR " " "  " (nmV a) h = .ok (nmV a') h ∧ a'.length ≤ 3 * a.length + 2 := by
  refine ⟨TL.tl (Txt.replace (mk a) " " "  "), ?_, ?_⟩
  · show (if (mk a).length + ((mk a).length + 1) * (Str.ofString "  ").length ≤ 16777216 then Res.ok (VV.str (Txt.replace (mk a) " " "  ")) h else .no) = _
    rw [if_pos (by rw [mk_len, show (Str.ofString "  ").length = 2 from by kernel_rfl]; omega)]
    show Res.ok (VV.str (Txt.replace (mk a) " " "  ")) h = .ok (VV.str (mk (TL.tl _))) h
    rw [← mk_eq]
  · have := TK.replace_len (mk a) " " "  "
    rw [mk_len, show (Str.ofString "  ").length = 2 from by kernel_rfl, TL.len_tl] at this
    omega
theorem upper_any {a : List Nat} (hl : a.length ≤ 100000) : ∃ a', upR (nmV a) h = .ok (nmV a') h ∧ a'.length ≤ 3 * a.length := by
  refine ⟨TL.tl (Txt.upper (mk a)), ?_, ?_⟩
  · show (if (mk a).length ≤ 5592405 then Res.ok (VV.str (Txt.upper (mk a))) h else .no) = _
    rw [if_pos (by rw [mk_len]; omega)]
    show Res.ok (VV.str (Txt.upper (mk a))) h = .ok (VV.str (mk (TL.tl _))) h
    rw [← mk_eq]
  · have := PyProof.Rows.len_upper (mk a)
    rw [mk_len, TL.len_tl] at this
    omega
end
open L2 hiding fin_ret fin_exc
local macro_rules | `(tactic| walk_at "evu") => `(tactic| (walk_at "ev"; (try simp only [b_marks, b_0, b_1, b_2, b_3, b_4, b_5, b_6, b_7, b_8, b_9, b_10, b_11, b_12, b_13, b_14, b_15, b_16, b_17, b_18, b_19, b_20, l_begin, l_drop, l_forget, l_put, l_take, l_finer, l_lesser, l_keep, l_bundle, l_ring, l_cut, l_all, l_blank, l_semi, l_dot, l_comma, l_minus, l_zero, List.any_cons, List.any_nil, obj_nm, obj_int, obj_tup, obj_lst, Bool.or_false, Bool.false_eq_true, false_or, la0, la1, ta0, ta1, ta2]); walk_at "ev"; (try simp only [b_marks, b_0, b_1, b_2, b_3, b_4, b_5, b_6, b_7, b_8, b_9, b_10, b_11, b_12, b_13, b_14, b_15, b_16, b_17, b_18, b_19, b_20, l_begin, l_drop, l_forget, l_put, l_take, l_finer, l_lesser, l_keep, l_bundle, l_ring, l_cut, l_all, l_blank, l_semi, l_dot, l_comma, l_minus, l_zero, List.any_cons, List.any_nil, obj_nm, obj_int, obj_tup, obj_lst, Bool.or_false, Bool.false_eq_true, false_or, la0, la1, ta0, ta1, ta2]); walk_at "ev"))
theorem t_restG {h : VH} {a : List Nat} {k : Nat} (hl : a.length ≤ 16777216) : opSl h (nmV a) (some (k : Int)) none = some (nmV (a.drop k)) := by
  by_cases c : k ≤ a.length
  · exact t_rest hl c
  · show (if (mk a).length ≤ SZ then some (VV.str (cutS (mk a) (some (k : Int)) none)) else none) = _
    rw [mk_len, if_pos hl]
    have e : cutS (mk a) (some (k : Int)) none = mk (a.drop k) := by
      show mk ((a.drop (HT.sIx (mk a).length 0 (some (k : Int)))).take (HT.sIx (mk a).length (mk a).length none - HT.sIx (mk a).length 0 (some (k : Int)))) = _
      rw [HT.sIx_none, HT.sIx_nat, mk_len, Nat.min_eq_right (by omega), Nat.sub_self, List.take_zero, List.drop_of_length_le (by omega)]
    rw [e]; rfl
theorem t_restS {h : VH} {a : List Nat} {k : Nat} (hl : a.length ≤ 16777216) : opSl h (nmV a) (some ((k : Int) + 1)) none = some (nmV (a.drop (k + 1))) := t_restG (k := k + 1) hl
theorem sl_restS {h : VH} {xs : List VV} {k : Nat} (hk : k + 1 ≤ xs.length) : opSl h (.lst xs) (some ((k : Int) + 1)) none = some (.lst (xs.drop (k + 1))) := sl_restV (k := k + 1) hk
set_option maxHeartbeats 2000000 in
theorem bent_eq (b : Bx) {a : List Nat} (hl : a.length ≤ 20000) : ∃ (a' : List Nat) (b' : Bx), F_law_bent_text [.obj 0, nmV a] [b.v] = .ok (nmV a') [b'.v] ∧ a'.length ≤ 3 * a.length + 40 := by
  obtain ⟨ws, hws⟩ : ∃ ws, cutAt 32 a = ws := ⟨_, rfl⟩
  have w1 : 1 ≤ ws.length := by rw [← hws]; exact List.length_pos_iff.mpr (cutAt_ne 32 a)
  have w2 : ws.length ≤ a.length + 1 := by rw [← hws]; exact cutAt_len 32 a
  have w3 : tot ws = a.length + 1 := by rw [← hws]; exact tot_cut 32 a
  obtain ⟨l, hL⟩ : ∃ l : Int, (a.length : Int) = l := ⟨_, rfl⟩
  obtain ⟨m, hm⟩ : ∃ m : Int, (ws.length : Int) = m := ⟨_, rfl⟩
  obtain ⟨at', b1, e1, a0, a1⟩ := take1 b (m := l + 1) (by omega) (by omega)
  obtain ⟨on, b2, e2, o0, o1⟩ := take1 b1 (m := m) (by omega) (by omega)
  obtain ⟨mk', b3, e3, m0, m1⟩ := take1 b2 (m := 19) (by decide) (by decide)
  obtain ⟨r, b4, e4, r0, r1⟩ := take1 b3 (m := 8) (by decide) (by decide)
  obtain ⟨c, hc⟩ := mark_at (h := [b3.v]) m0 m1
  obtain ⟨A, rfl⟩ := Int.eq_ofNat_of_zero_le a0
  obtain ⟨O, rfl⟩ := Int.eq_ofNat_of_zero_le o0
  have hA : A ≤ a.length := by omega
  have hO : O < ws.length := by omega
  unfold F_law_bent_text B_law_bent_text
  walk_at "evu"
  rw [split_any (by decide) (by omega), hws]
  walk_at "evu"
  simp only [t_len (a := a) (by omega), hL]
  walk_at "evu"
  simp only [e1]
  walk_at "evu"
  simp only [show ∀ h : VH, cLen h [.lst (ws.map nmV)] = some (.int m) from fun h => by rw [len_lst, List.length_map, hm]]
  walk_at "evu"
  simp only [e2]
  walk_at "evu"
  simp only [show ∀ h : VH, cLen h [nmV wMarks] = some (.int 19) from fun h => t_len (a := wMarks) (by decide)]
  walk_at "evu"
  simp only [e3]
  walk_at "evu"
  simp only [hc]
  walk_at "evu"
  simp only [mul31]
  walk_at "evu"
  simp only [mul39]
  walk_at "evu"
  rw [t_add (by decide)]
  walk_at "evu"
  rw [if_neg (by decide)]
  walk_at "evu"
  rw [if_neg (by decide)]
  walk_at "evu"
  rw [add_lst (by decide)]
  walk_at "evu"
  simp only [e4]
  walk_at "evu"
  have eo : (VV.lst [nmV [45, 48], nmV [48, 48], nmV [45], nmV [43, 51], nmV [48, 48, 55], nmV [45, 48, 49], nmV [], nmV w31, nmV (45 :: v31), nmV [97, 49], nmV [97, 98, 99, 100, 101, 102, 103, 104, 105], nmV [65], nmV [48], nmV [45, 55], nmV [120], nmV [49, 46], nmV [46, 49], nmV [49, 44], nmV [49, 44, 44, 50], nmV [49, 44, 45, 50], nmV [49, 46, 45, 50], nmV wAll, nmV wPut]) = .lst ((oddA ++ oddB).map nmV) := rfl
  rw [eo]
  have sf : ∀ h : VH, opSl h (nmV a) none (some (A : Int)) = some (nmV (a.take A)) := fun h => t_fore (by omega)
  have sr : ∀ h : VH, opSl h (nmV a) (some (A : Int)) none = some (nmV (a.drop A)) := fun h => t_restG (by omega)
  have sr1 : ∀ h : VH, opSl h (nmV a) (some ((A : Int) + 1)) none = some (nmV (a.drop (A + 1))) := fun h => t_restS (by omega)
  have wf' : ∀ h : VH, opSl h (.lst (ws.map nmV)) none (some (O : Int)) = some (.lst ((ws.take O).map nmV)) := fun h => by rw [sl_foreV (by rw [List.length_map]; omega), List.map_take]
  have wr1 : ∀ h : VH, opSl h (.lst (ws.map nmV)) (some ((O : Int) + 1)) none = some (.lst ((ws.drop (O + 1)).map nmV)) := fun h => by rw [sl_restS (by rw [List.length_map]; omega), List.map_drop]
  have lt1 : (a.take A).length ≤ a.length := by rw [List.length_take]; omega
  have ld1 : (a.drop A).length + (a.take A).length ≤ a.length := by rw [List.length_take, List.length_drop]; omega
  have ld2 : (a.drop (A + 1)).length + (a.take A).length ≤ a.length := by rw [List.length_take, List.length_drop]; omega
  have td := tot_td ws O (O + 1) (by omega)
  have wl1 := tot_len (ws.take O)
  have wl2 := tot_len (ws.drop (O + 1))
  by_cases k0 : r = 0
  · simp only [decide_eq_true k0]
    walk_at "evu"
    simp only [sf]
    walk_at "evu"
    rw [t_add (by simp; omega)]
    walk_at "evu"
    simp only [sr]
    walk_at "evu"
    rw [t_add (by simp; omega)]
    walk_at "evu"
    exact ⟨_, b4, fin_o rfl rfl, by simp only [List.length_append, List.length_cons, List.length_nil]; omega⟩
  simp only [decide_eq_false k0]
  walk_at "evu"
  by_cases k1 : r = 1
  · simp only [decide_eq_true k1]
    walk_at "evu"
    simp only [sf]
    walk_at "evu"
    simp only [sr1]
    walk_at "evu"
    rw [t_add (by omega)]
    walk_at "evu"
    exact ⟨_, b4, fin_o rfl rfl, by simp only [List.length_append]; omega⟩
  simp only [decide_eq_false k1]
  walk_at "evu"
  by_cases k2 : r = 2
  · simp only [decide_eq_true k2]
    walk_at "evu"
    simp only [sf]
    walk_at "evu"
    rw [t_add (by simp; omega)]
    walk_at "evu"
    simp only [sr1]
    walk_at "evu"
    rw [t_add (by simp; omega)]
    walk_at "evu"
    exact ⟨_, b4, fin_o rfl rfl, by simp only [List.length_append, List.length_cons, List.length_nil]; omega⟩
  simp only [decide_eq_false k2]
  walk_at "evu"
  by_cases k3 : r = 3
  · simp only [decide_eq_true k3]
    walk_at "evu"
    simp only [wf']
    walk_at "evu"
    simp only [wr1]
    walk_at "evu"
    rw [add_nms (by omega)]
    walk_at "evu"
    rw [s_blank, join_any (by rw [tot_app]; omega)]
    walk_at "evu"
    refine ⟨_, b4, fin_o rfl rfl, ?_⟩
    have := join_tot 32 (ws.take O ++ ws.drop (O + 1))
    rw [tot_app] at this
    omega
  simp only [decide_eq_false k3]
  walk_at "evu"
  by_cases k4 : r = 4
  · simp only [decide_eq_true k4]
    walk_at "evu"
    obtain ⟨p, hp, ep⟩ : ∃ p, p ∈ ws ∧ ∀ h : VH, opIx h (.lst (ws.map nmV)) (.int (O : Int)) = some (nmV p) := by
      refine ⟨ws[O], List.getElem_mem hO, fun h => ?_⟩
      rw [x_lst]
      exact atI_in (by rw [List.getElem?_map, List.getElem?_eq_getElem hO]; rfl)
    have hpt := tot_mem hp
    simp only [wf']
    walk_at "evu"
    simp only [ep]
    walk_at "evu"
    simp only [ep]
    walk_at "evu"
    rw [if_neg (by first | decide | (simp [obj_nm]; decide))]
    walk_at "evu"
    rw [show VV.lst [nmV p, nmV p] = .lst ([p, p].map nmV) from rfl, add_nms (by simp; omega)]
    walk_at "evu"
    simp only [wr1]
    walk_at "evu"
    rw [add_nms (by rw [List.length_append]; simp; omega)]
    walk_at "evu"
    have e5 : tot (ws.take O ++ [p, p] ++ ws.drop (O + 1)) ≤ 3 * a.length + 3 := by
      rw [tot_app, tot_app, tot_cons, tot_cons, show tot [] = 0 from rfl]
      omega
    rw [s_blank, join_any (by omega)]
    walk_at "evu"
    refine ⟨_, b4, fin_o rfl rfl, ?_⟩
    have := join_tot 32 (ws.take O ++ [p, p] ++ ws.drop (O + 1))
    omega
  simp only [decide_eq_false k4]
  walk_at "evu"
  by_cases k5 : r = 5
  · simp only [decide_eq_true k5]
    walk_at "evu"
    simp only [wf']
    walk_at "evu"
    simp only [show ∀ h : VH, cLen h [.lst ((oddA ++ oddB).map nmV)] = some (.int 23) from fun h => by rw [len_lst, List.length_map]; rfl]
    walk_at "evu"
    obtain ⟨q, b5, e6, q0, q1⟩ := take1 b4 (m := 23) (by decide) (by decide)
    simp only [e6]
    walk_at "evu"
    obtain ⟨w, hw, ew⟩ := nms_at (ws := oddA ++ oddB) (h := [b5.v]) q0 (by show q < ((oddA ++ oddB).length : Int); rw [show (oddA ++ oddB).length = 23 from rfl]; exact q1)
    have wl := odd_len w hw
    simp only [ew]
    walk_at "evu"
    rw [if_neg (by first | decide | (simp [obj_nm]; decide))]
    walk_at "evu"
    rw [show VV.lst [nmV w] = .lst ([w].map nmV) from rfl, add_nms (by simp; omega)]
    walk_at "evu"
    simp only [wr1]
    walk_at "evu"
    rw [add_nms (by rw [List.length_append]; simp; omega)]
    walk_at "evu"
    have e7 : tot (ws.take O ++ [w] ++ ws.drop (O + 1)) ≤ a.length + 40 := by
      rw [tot_app, tot_app, tot_cons, show tot [] = 0 from rfl]
      omega
    rw [s_blank, join_any (by omega)]
    walk_at "evu"
    refine ⟨_, b5, fin_o rfl rfl, ?_⟩
    have := join_tot 32 (ws.take O ++ [w] ++ ws.drop (O + 1))
    omega
  simp only [decide_eq_false k5]
  walk_at "evu"
  obtain ⟨u, eu, hu⟩ := repl_any (h := [b4.v]) (a := a) (by omega)
  obtain ⟨v, ev, hv⟩ := upper_any (h := [b4.v]) (a := a) (by omega)
  rw [t_add (by simp; omega)]
  walk_at "evu"
  rw [t_add (by simp; omega)]
  walk_at "evu"
  rw [eu]
  walk_at "evu"
  rw [t_add (by simp; omega)]
  walk_at "evu"
  rw [ev]
  walk_at "evu"
  rw [t_add (by simp; omega)]
  walk_at "evu"
  rw [t_add (by simp; omega)]
  walk_at "evu"
  rw [if_neg (by first | decide | (simp [obj_nm]; decide))]
  walk_at "evu"
  have el : ∀ x y z : List Nat, ∃ es : List (List Nat), es.length = 8 ∧ VV.lst [nmV (a ++ [32]), nmV (32 :: a), nmV u, nmV (a ++ [10]), nmV [], nmV v, nmV (a ++ [59]), nmV (97 :: 108 :: 108 :: 58 :: 32 :: a)] = .lst (es.map nmV) ∧ ∀ w ∈ es, w.length ≤ 3 * a.length + 40 := fun _ _ _ => ⟨[a ++ [32], 32 :: a, u, a ++ [10], [], v, a ++ [59], 97 :: 108 :: 108 :: 58 :: 32 :: a], rfl, rfl, fun w hw => by
    simp only [List.mem_cons, List.not_mem_nil, or_false] at hw
    rcases hw with rfl | rfl | rfl | rfl | rfl | rfl | rfl | rfl <;> (try simp only [List.length_append, List.length_cons, List.length_nil]) <;> omega⟩
  obtain ⟨es, el8, ee, el⟩ := el [] [] []
  rw [ee]
  simp only [show ∀ h : VH, cLen h [.lst (es.map nmV)] = some (.int 8) from fun h => by rw [len_lst, List.length_map, el8]; rfl]
  walk_at "evu"
  obtain ⟨q, b5, e6, q0, q1⟩ := take1 b4 (m := 8) (by decide) (by decide)
  simp only [e6]
  walk_at "evu"
  obtain ⟨w, hw, ew⟩ := nms_at (ws := es) (h := [b5.v]) q0 (by rw [el8]; exact q1)
  simp only [ew]
  walk_at "evu"
  exact ⟨w, b5, fin_o rfl rfl, el w hw⟩
open L2 hiding fin_ret fin_exc
local macro_rules | `(tactic| walk_at "evu") => `(tactic| (walk_at "ev"; (try simp only [l_begin, l_drop, l_forget, l_put, l_take, l_finer, l_lesser, l_keep, l_bundle, l_ring, l_cut, l_all, l_blank, l_semi, l_dot, l_comma, l_minus, l_zero, List.any_cons, List.any_nil, obj_nm, obj_int, obj_tup, obj_lst, Bool.or_false, Bool.false_eq_true, false_or, la0, la1, ta0, ta1, ta2]); walk_at "ev"; (try simp only [l_begin, l_drop, l_forget, l_put, l_take, l_finer, l_lesser, l_keep, l_bundle, l_ring, l_cut, l_all, l_blank, l_semi, l_dot, l_comma, l_minus, l_zero, List.any_cons, List.any_nil, obj_nm, obj_int, obj_tup, obj_lst, Bool.or_false, Bool.false_eq_true, false_or, la0, la1, ta0, ta1, ta2]); walk_at "ev"))
theorem PD.text_few {d : PD} (ok : d.Ok) : d.text.length ≤ 230 := by
  have := join_tot 32 d.parts
  unfold PD.text
  cases d with
  | a w n =>
    obtain ⟨h1, h2⟩ := ok
    have := wa_len h1
    have := h2.le
    unfold PD.parts at *
    rw [tot_cons, tot_cons, show tot [] = 0 from rfl] at *
    omega
  | f w n face =>
    obtain ⟨h1, h2, h3, h4, h5⟩ := ok
    have := wf_len h1
    have := h2.le
    have := faceT_len h4 h5
    unfold PD.parts at *
    rw [tot_cons, tot_cons, tot_cons, show tot [] = 0 from rfl] at *
    omega
  | k n0 n1 n2 s0 s1 row =>
    obtain ⟨h1, h2, h3, h4, h5, h6, h7⟩ := ok
    have := h1.le
    have := h2.le
    have := h3.le
    have := numL_le h4
    have := numL_le h5
    have := rowT_len h6 h7
    have hk : wKeep.length = 4 := rfl
    unfold PD.parts at *
    rw [tot_cons, tot_cons, tot_cons, tot_cons, tot_cons, tot_cons, tot_cons, show tot [] = 0 from rfl] at *
    omega
theorem WD.text_few {d : WD} (ok : d.Ok) : d.text.length ≤ 700 := by
  cases d with
  | p d => exact Nat.le_trans (PD.text_few ok) (by decide)
  | b ds =>
    obtain ⟨hl, ok⟩ := ok
    have h1 := join_tot 59 (btext ds)
    have h2 : ∀ ds : List PD, (∀ d ∈ ds, d.Ok) → tot (btext ds) ≤ ds.length * 232 := by
      intro ds
      induction ds with
      | nil => intro _; simp [btext, tot]
      | cons d ds ih =>
        intro ok
        have := PD.text_few (ok d List.mem_cons_self)
        have := ih fun x hx => ok x (List.mem_cons_of_mem _ hx)
        show tot ((32 :: d.text) :: btext ds) ≤ _
        rw [tot_cons, List.length_cons, List.length_cons, Nat.add_mul, Nat.one_mul]
        omega
    have := h2 ds ok
    have := Nat.mul_le_mul_right 232 hl
    unfold WD.text
    rw [List.length_append]
    show 4 + _ ≤ _
    omega
theorem alike_told {v : VV} {h : VH} (hv : Dt 4 v) : F_law_alike 6 [.lst [v], .lst [v]] h = .ok (.bl true) h := by
  have k := dt_lst (n := 4) (vs := [v]) (fun x hx => by rw [List.mem_singleton.mp hx]; exact hv) (by simp)
  exact alike_refl 6 _ h k.d (by have := k.e; omega) (by have := k.w; show _ ≤ 16777216; omega)
theorem words_tup {ws : List (List Nat)} {v : VV} (e : wordsR ws = some v) : ∃ xs, v = .tup xs := by
  unfold wordsR at e
  split at e
  · split at e
    · split at e
      · cases e; exact ⟨_, rfl⟩
      · cases e
    · cases e
  · rename_i w n f
    split at e
    · split at e
      · cases q : faceR f with
        | none => rw [q] at e; cases e
        | some l => rw [q] at e; cases e; exact ⟨_, rfl⟩
      · cases e
    · cases e
  · split at e
    · split at e
      · split at e
        · cases e; exact ⟨_, rfl⟩
        · cases e
      · cases e
    · cases e
  · cases e
theorem read_tup {a : List Nat} {v : VV} (e : readR a = some v) : ∃ xs, v = .tup xs := by
  unfold readR at e
  split at e
  · cases e; exact ⟨_, rfl⟩
  · split at e
    · cases q : bundR (cutAt 59 (a.drop 4)) with
      | none => rw [q] at e; cases e
      | some ds => rw [q] at e; cases e; exact ⟨_, rfl⟩
    · exact words_tup e
theorem ne_let {h : VH} : opNe h (.tup [.str "let", .int (-1)]) (.tup [.str "let", .int (-1)]) = some (.bl false) := by kernel_rfl
theorem ne_badtext {h : VH} : opNe h (.tup [.str "BadText", .int 0]) (.tup [.str "BadText", .int 0]) = some (.bl false) := by kernel_rfl
theorem neL_nil {h : VH} {o : VO} : opNeL (o :: .fl [] :: h) (.obj 1) (.lst []) = some (.bl false) := by kernel_rfl
theorem bends {x0 x2 : Option VV} {a : List Nat} {n : Int} (b : Bx) (n0 : 1 ≤ n) (n1 : n ≤ 2) (ha : a.length ≤ 700) {o4 o5 o6 o7 : Option VV} : ∃ (a' : List Nat) (b' : Bx) (p4 : Option VV), forGo (bNm 4) lb_law_1 ((List.range n.toNat).map fun (i : Nat) => VV.int (0 + (i : Int))) [x0, some (.obj 0), x2, some (nmV a), o4, o5, o6, o7] [b.v] = .nx [x0, some (.obj 0), x2, some (nmV a'), p4, o5, o6, o7] [b'.v] ∧ a'.length ≤ 7000 := by
  obtain ⟨ρ2, h2, e5, a', b5, p4, rfl, rfl, hl⟩ := for_pre (b := bNm 4) (body := lb_law_1) (fun (i : Nat) => VV.int (0 + (i : Int)))
    (fun pre ρ h => ∃ (a' : List Nat) (b : Bx) (o4 : Option VV), ρ = [x0, some (.obj 0), x2, some (nmV a'), o4, o5, o6, o7] ∧ h = [b.v] ∧ a'.length ≤ (if pre.length = 0 then 700 else if pre.length = 1 then 2140 else 7000))
    (List.range n.toNat) (ρ := [x0, some (.obj 0), x2, some (nmV a), o4, o5, o6, o7]) (h := [b.v]) ⟨a, b, o4, rfl, rfl, by simpa using ha⟩ (by
      rintro pre k post ey ρ h ⟨a', b, o4, rfl, rfl, hl⟩
      have hp : pre.length ≤ 1 := by
        have := congrArg List.length ey
        rw [List.length_range, List.length_append, List.length_cons] at this
        omega
      have hl2 : a'.length ≤ 2140 := by
        split at hl
        · omega
        · split at hl <;> omega
      obtain ⟨a2, b2, e, hl3⟩ := bent_eq b (a := a') (by omega)
      refine ⟨_, _, _, rfl, ?_, a2, b2, some (.int (0 + (k : Int))), rfl, rfl, ?_⟩
      · walk_at "evu"
        simp only [e]
        walk_at "evu"
      · rw [List.length_append, List.length_cons, List.length_nil]
        rcases (by omega : pre.length = 0 ∨ pre.length = 1) with z | z
        · rw [z] at hl ⊢
          simp only [if_true] at hl
          simp only [Nat.zero_add, Nat.one_ne_zero, if_false, if_true]
          omega
        · rw [z] at hl ⊢
          simp only [Nat.one_ne_zero, if_false, if_true] at hl
          rw [if_neg (by decide), if_neg (by decide)]
          omega)
  refine ⟨a', b5, p4, e5, ?_⟩
  split at hl
  · omega
  · split at hl <;> omega
theorem law_turn (b : Bx) {x0 x2 o3 o4 o5 o6 o7 : Option VV} : ∃ (b' : Bx) (o : VO) (p3 p4 p5 p6 p7 : Option VV), lb_law_2 [x0, some (.obj 0), x2, o3, o4, o5, o6, o7] [b.v] = .nx [x0, some (.obj 0), x2, p3, p4, p5, p6, p7] [b'.v, o] := by
  obtain ⟨d, b1, e1, ok⟩ := written_eq b
  walk_at "evu"
  simp only [e1]
  walk_at "evu"
  simp only [law_text_eq ok]
  walk_at "evu"
  obtain ⟨r, b2, e2, r0, r1⟩ := take1 b1 (m := 2) (by decide) (by decide)
  simp only [e2]
  walk_at "evu"
  rw [if_pos (rngB (by omega) (by omega))]
  walk_at "evu"
  rw [rng_eq]
  obtain ⟨a, b3, p4, e3, hl⟩ := bends (x0 := x0) (x2 := x2) (a := d.text) (n := 1 + r) b2 (by omega) (by omega) (WD.text_few ok) (o4 := o4) (o5 := o5) (o6 := o6) (o7 := o7)
  rw [e3]
  walk_at "evu"
  simp only [law_read_any (a := a) (o := b3.v) hl rfl rfl]
  walk_at "evu"
  rw [if_neg (by decide)]
  walk_at "evu"
  rcases deed_of_any (a := a) (o := b3.v) (o2 := .fl []) hl rfl rfl with ⟨v, ev, ed⟩ | ⟨ev, t, ed⟩
  · obtain ⟨v1, v2, v3, v4⟩ := read_dt hl ev
    have er : eRef [Str.ofString "BadText"] lm_law_1 [x0, some (VV.obj 0), x2, some (nmV a), p4, some (optDV (readR a)), some (VV.obj 1), o7] [b3.v, VO.fl []] = .ok (.tup [.str "let", .int (-1)]) [b3.v, .fl [v]] := by
      refine (ref_ok (v := .non) (h' := [b3.v, .fl [v]]) ?_).trans rfl
      walk_at "evu"
      simp only [ed]
      walk_at "evu"
      rw [appO_fl (by decide) v2]
      rfl
    rw [er, ev]
    have en : opIsN [b3.v, .fl [v]] (optDV (some v)) .non = some (.bl false) := by
      obtain ⟨xs, rfl⟩ := read_tup ev
      rfl
    walk_at "evu"
    simp only [en]
    walk_at "evu"
    rw [if_neg (by decide)]
    walk_at "evu"
    simp only [ne_let]
    walk_at "evu"
    rw [show optDV (some v) = v from rfl, if_neg (by rw [v2]; decide)]
    walk_at "evu"
    simp only [alike_told v1]
    walk_at "evu"
    exact ⟨_, _, _, _, _, _, _, rfl⟩
  · have er : eRef [Str.ofString "BadText"] lm_law_1 [x0, some (VV.obj 0), x2, some (nmV a), p4, some (optDV (readR a)), some (VV.obj 1), o7] [b3.v, VO.fl []] = .ok (.tup [.str "BadText", .int 0]) [b3.v, .fl []] := by
      refine (ref_exc (x := "BadText") (n := 0) (h' := b3.v :: .fl [] :: t) ?_ List.mem_cons_self).trans ?_
      · walk_at "evu"
        simp only [ed]
        walk_at "evu"
      · congr 1
        unfold trim
        split
        · rename_i hq
          cases t with
          | nil => rfl
          | cons => simp at hq
        · rfl
    rw [er, ev]
    walk_at "evu"
    simp only [show opIsN [b3.v, .fl []] (optDV none) .non = some (.bl true) from rfl]
    walk_at "evu"
    rw [if_neg (by decide)]
    walk_at "evu"
    simp only [ne_badtext]
    walk_at "evu"
    rw [if_neg (by decide)]
    walk_at "evu"
    simp only [neL_nil]
    walk_at "evu"
    exact ⟨_, _, _, _, _, _, _, rfl⟩
theorem law_true : ∀ ns : List Int, ns.length ≤ 63 → (∀ z ∈ ns, Builtin.Int.intBits z ≤ 1048576) → ∃ h', F_law [.scr (ns.map VV.int)] [] = .ok (.bl true) h' := by
  intro ns _ _
  obtain ⟨b0, e0⟩ := box_eq ns
  unfold F_law B_law
  walk_at "evu"
  simp only [e0]
  walk_at "evu"
  rw [if_pos (by decide)]
  walk_at "evu"
  rw [rng_eq]
  obtain ⟨ρ2, h2, e5, b5, o2, o3, o4, o5, o6, o7, rfl, rfl⟩ := for_pre (b := bNm 2) (body := sTrim lb_law_2) (fun (i : Nat) => VV.int (0 + (i : Int)))
    (fun pre ρ h => ∃ (b : Bx) (o2 o3 o4 o5 o6 o7 : Option VV), ρ = [some (.scr (ns.map VV.int)), some (.obj 0), o2, o3, o4, o5, o6, o7] ∧ h = [b.v])
    (List.range (Int.toNat 10)) (ρ := [some (.scr (ns.map VV.int)), some (.obj 0), none, none, none, none, none, none]) (h := [b0.v]) ⟨b0, none, none, none, none, none, none, rfl, rfl⟩ (by
      rintro pre k post ey ρ h ⟨b, o2, o3, o4, o5, o6, o7, rfl, rfl⟩
      obtain ⟨b', o, p3, p4, p5, p6, p7, e⟩ := law_turn b (x0 := some (.scr (ns.map VV.int))) (x2 := some (.int (0 + (k : Int)))) (o3 := o3) (o4 := o4) (o5 := o5) (o6 := o6) (o7 := o7)
      exact ⟨_, _, _, rfl, sTrim_nx e, b', _, _, _, _, _, _, rfl, rfl⟩)
  rw [e5, thn_nx]
  walk_at "evu"
  exact ⟨_, rfl⟩
end L
namespace L
open PySem L2 J
structure Blt (K : PySem.W.Frag) (mg : Str → Option Value) : Prop where
  n_ValueError : mg "ValueError" = none
  n_all : mg "all" = none
  n_bool : mg "bool" = none
  n_int : mg "int" = none
  n_isinstance : mg "isinstance" = none
  n_len : mg "len" = none
  n_list : mg "list" = none
  n_range : mg "range" = none
  n_str : mg "str" = none
  n_tuple : mg "tuple" = none
  n_zip : mg "zip" = none
  g_FIGURES_MOST : ∃ t, mg "FIGURES_MOST" = some (.int 30 t)
  g_LETTERS : ∃ t, mg "LETTERS" = some (.str "abcdefghijklmnopqrstuvwxyz" t)
  g_SIGNS_MOST : ∃ t, mg "SIGNS_MOST" = some (.int 8 t)
section
variable {P : Program} {w : World} {K : PySem.W.Frag} {mg : Str → Option Value} {base : Heap}
theorem sc_WebError_init : FnScope ["self", "word", "at"] ["self", "word", "at"] (defScope s_WebError_init) := ⟨rfl, rfl, rfl, by decide +kernel, rfl, by decide +kernel, by decide +kernel⟩
theorem we_L {f : Addr} {fd : FuncData} {dvs : List V} {kws : List (Str × V)} (D : Dm K "__init__" "WebError.__init__" s_WebError_init dvs kws f fd) : FnOk P w K mg base (L2N.CX P w) 1 f fd ["self", "word", "at"] (spWE K) := we_fn D.F sc_WebError_init rfl (.inl rfl) (.inl rfl) (.inl rfl)
theorem sc_BadText_init : FnScope ["self", "at"] ["self", "at"] (defScope s_BadText_init) := ⟨rfl, rfl, rfl, by decide +kernel, rfl, by decide +kernel, by decide +kernel⟩
theorem ox_BadText {f fB B : Addr} {fd fdB : FuncData} (D : Dm K "__init__" "BadText.__init__" s_BadText_init [.int (-1)] [] f fd) (mW : mg "WebError" = some (.ref B)) (rd : ClX.CRead K B (.type "type")) (cv : PySem.W.findCls K (.ref B) (.type "type") "__init__" = some (.val (.ref fB))) (kB : PySem.W.keepIn K (.ref fB) = true) (FB : FnOk P w K mg base (L2N.CX P w) 1 fB fdB ["self", "word", "at"] (spWE K)) (hbB : Binds K fdB ["self", "word", "at"] []) : FnOk P w K mg base (L2N.CX P w) 2 f fd ["self", "at"] (spOX K "BadText") :=
  ox_fn D.F sc_BadText_init rfl (.inl rfl) (.inl rfl) rfl mW rd cv kB FB hbB (fun env => ⟨_, rfl⟩)
theorem sc_law_kinds : FnScope ["_law_e", "_law_h", "_law_w", "_law_at"] ["_law_e"] (defScope s_law_kinds) := ⟨rfl, rfl, rfl, by decide +kernel, rfl, by decide +kernel, by decide +kernel⟩
theorem sc_law_refusal : FnScope ["_law_ask", "_law_found", "_law_kinds_here", "_law_e"] ["_law_ask"] (defScope s_law_refusal) := ⟨rfl, rfl, rfl, by decide +kernel, rfl, by decide +kernel, by decide +kernel⟩
theorem kinds_L (B : Blt K mg) {WE f : Addr} {k : Nat} : KindsOk P w K mg base WE k (defBody s_law_kinds) (defScope s_law_kinds) f := by
  intro cdv A outer s H a C dd oe x i R hz hf hd hot hr
  obtain ⟨C0, m0, k0⟩ := R.ks 0 (by decide)
  replace m0 : mg "BadFace" = some (.ref C0) := m0
  obtain ⟨C1, m1, k1⟩ := R.ks 1 (by decide)
  replace m1 : mg "Full" = some (.ref C1) := m1
  obtain ⟨C2, m2, k2⟩ := R.ks 2 (by decide)
  replace m2 : mg "BadSize" = some (.ref C2) := m2
  obtain ⟨C3, m3, k3⟩ := R.ks 3 (by decide)
  replace m3 : mg "BadRow" = some (.ref C3) := m3
  obtain ⟨C4, m4, k4⟩ := R.ks 4 (by decide)
  replace m4 : mg "BadRests" = some (.ref C4) := m4
  obtain ⟨C5, m5, k5⟩ := R.ks 5 (by decide)
  replace m5 : mg "NotShut" = some (.ref C5) := m5
  obtain ⟨C6, m6, k6⟩ := R.ks 6 (by decide)
  replace m6 : mg "BadMap" = some (.ref C6) := m6
  obtain ⟨C7, m7, k7⟩ := R.ks 7 (by decide)
  replace m7 : mg "NotFace" = some (.ref C7) := m7
  obtain ⟨C8, m8, k8⟩ := R.ks 8 (by decide)
  replace m8 : mg "NotNear" = some (.ref C8) := m8
  obtain ⟨C9, m9, k9⟩ := R.ks 9 (by decide)
  replace m9 : mg "NoFace" = some (.ref C9) := m9
  obtain ⟨C10, m10, k10⟩ := R.ks 10 (by decide)
  replace m10 : mg "NotFree" = some (.ref C10) := m10
  obtain ⟨C11, m11, k11⟩ := R.ks 11 (by decide)
  replace m11 : mg "BadName" = some (.ref C11) := m11
  obtain ⟨C12, m12, k12⟩ := R.ks 12 (by decide)
  replace m12 : mg "Taken" = some (.ref C12) := m12
  obtain ⟨C13, m13, k13⟩ := R.ks 13 (by decide)
  replace m13 : mg "NoWeb" = some (.ref C13) := m13
  obtain ⟨C14, m14, k14⟩ := R.ks 14 (by decide)
  replace m14 : mg "NoRow" = some (.ref C14) := m14
  obtain ⟨C15, m15, k15⟩ := R.ks 15 (by decide)
  replace m15 : mg "BadKind" = some (.ref C15) := m15
  obtain ⟨C16, m16, k16⟩ := R.ks 16 (by decide)
  replace m16 : mg "Unlike" = some (.ref C16) := m16
  obtain ⟨C17, m17, k17⟩ := R.ks 17 (by decide)
  replace m17 : mg "Had" = some (.ref C17) := m17
  obtain ⟨C18, m18, k18⟩ := R.ks 18 (by decide)
  replace m18 : mg "NothingLeft" = some (.ref C18) := m18
  obtain ⟨C19, m19, k19⟩ := R.ks 19 (by decide)
  replace m19 : mg "BadText" = some (.ref C19) := m19
  exact (js_cons (js_set (i := 1) sc_law_kinds.nd rfl (by first | exact Or.inl rfl | exact Or.inr rfl) (j_lst (ja_cons (j_isE (i := 0) (List.mem_cons_self ..) R.ec hz hf hd (by intro z; cases z) (by rfl) B.n_isinstance rfl (.inl rfl) (by rfl) m0 k0) (ja_cons (j_isE (i := 0) (List.mem_cons_self ..) R.ec hz hf hd (by intro z; cases z) (by rfl) B.n_isinstance rfl (.inl rfl) (by rfl) m1 k1) (ja_cons (j_isE (i := 0) (List.mem_cons_self ..) R.ec hz hf hd (by intro z; cases z) (by rfl) B.n_isinstance rfl (.inl rfl) (by rfl) m2 k2) (ja_cons (j_isE (i := 0) (List.mem_cons_self ..) R.ec hz hf hd (by intro z; cases z) (by rfl) B.n_isinstance rfl (.inl rfl) (by rfl) m3 k3) ja_nil))))))
      (js_cons (js_set (i := 1) sc_law_kinds.nd rfl (by first | exact Or.inl rfl | exact Or.inr rfl) (j_bin or_add (j_var 1 (pv 1)) (j_lst (ja_cons (j_isE (i := 0) (List.mem_cons_self ..) R.ec hz hf hd (by intro z; cases z) (by rfl) B.n_isinstance rfl (.inl rfl) (by rfl) m4 k4) (ja_cons (j_isE (i := 0) (List.mem_cons_self ..) R.ec hz hf hd (by intro z; cases z) (by rfl) B.n_isinstance rfl (.inl rfl) (by rfl) m5 k5) (ja_cons (j_isE (i := 0) (List.mem_cons_self ..) R.ec hz hf hd (by intro z; cases z) (by rfl) B.n_isinstance rfl (.inl rfl) (by rfl) m6 k6) (ja_cons (j_isE (i := 0) (List.mem_cons_self ..) R.ec hz hf hd (by intro z; cases z) (by rfl) B.n_isinstance rfl (.inl rfl) (by rfl) m7 k7) ja_nil)))))))
      (js_cons (js_set (i := 1) sc_law_kinds.nd rfl (by first | exact Or.inl rfl | exact Or.inr rfl) (j_bin or_add (j_var 1 (pv 1)) (j_lst (ja_cons (j_isE (i := 0) (List.mem_cons_self ..) R.ec hz hf hd (by intro z; cases z) (by rfl) B.n_isinstance rfl (.inl rfl) (by rfl) m8 k8) (ja_cons (j_isE (i := 0) (List.mem_cons_self ..) R.ec hz hf hd (by intro z; cases z) (by rfl) B.n_isinstance rfl (.inl rfl) (by rfl) m9 k9) (ja_cons (j_isE (i := 0) (List.mem_cons_self ..) R.ec hz hf hd (by intro z; cases z) (by rfl) B.n_isinstance rfl (.inl rfl) (by rfl) m10 k10) (ja_cons (j_isE (i := 0) (List.mem_cons_self ..) R.ec hz hf hd (by intro z; cases z) (by rfl) B.n_isinstance rfl (.inl rfl) (by rfl) m11 k11) ja_nil)))))))
      (js_cons (js_set (i := 1) sc_law_kinds.nd rfl (by first | exact Or.inl rfl | exact Or.inr rfl) (j_bin or_add (j_var 1 (pv 1)) (j_lst (ja_cons (j_isE (i := 0) (List.mem_cons_self ..) R.ec hz hf hd (by intro z; cases z) (by rfl) B.n_isinstance rfl (.inl rfl) (by rfl) m12 k12) (ja_cons (j_isE (i := 0) (List.mem_cons_self ..) R.ec hz hf hd (by intro z; cases z) (by rfl) B.n_isinstance rfl (.inl rfl) (by rfl) m13 k13) (ja_cons (j_isE (i := 0) (List.mem_cons_self ..) R.ec hz hf hd (by intro z; cases z) (by rfl) B.n_isinstance rfl (.inl rfl) (by rfl) m14 k14) (ja_cons (j_isE (i := 0) (List.mem_cons_self ..) R.ec hz hf hd (by intro z; cases z) (by rfl) B.n_isinstance rfl (.inl rfl) (by rfl) m15 k15) ja_nil)))))))
      (js_cons (js_set (i := 1) sc_law_kinds.nd rfl (by first | exact Or.inl rfl | exact Or.inr rfl) (j_bin or_add (j_var 1 (pv 1)) (j_lst (ja_cons (j_isE (i := 0) (List.mem_cons_self ..) R.ec hz hf hd (by intro z; cases z) (by rfl) B.n_isinstance rfl (.inl rfl) (by rfl) m16 k16) (ja_cons (j_isE (i := 0) (List.mem_cons_self ..) R.ec hz hf hd (by intro z; cases z) (by rfl) B.n_isinstance rfl (.inl rfl) (by rfl) m17 k17) (ja_cons (j_isE (i := 0) (List.mem_cons_self ..) R.ec hz hf hd (by intro z; cases z) (by rfl) B.n_isinstance rfl (.inl rfl) (by rfl) m18 k18) (ja_cons (j_isE (i := 0) (List.mem_cons_self ..) R.ec hz hf hd (by intro z; cases z) (by rfl) B.n_isinstance rfl (.inl rfl) (by rfl) m19 k19) ja_nil)))))))
      (js_cons (js_set (i := 2) sc_law_kinds.nd rfl (by first | exact Or.inl rfl | exact Or.inr rfl) j_str)
      (js_cons (js_set (i := 2) sc_law_kinds.nd rfl (by first | exact Or.inl rfl | exact Or.inr rfl) (j_split (j_bin or_add (j_var 2 (pv 2)) j_str) j_str))
      (js_one (js_ret (j_lcH ⟨_, hot, List.mem_cons_self ..⟩ sc_law_kinds.nd (ji_range1H (by rfl) B.n_range j_int) (blkOk_by (own := [("_law_at", 3)]) (by kernel_rfl)) (fun _ _ _ _ _ => (pg_name (i := 3) sc_law_kinds.nd rfl (by first | exact Or.inl rfl | exact Or.inr rfl))) (pat_nm 3) (fun _ _ _ _ _ => (jts_one (jt_val (j_ix ir_ix (j_var 1 (pv 1)) (j_var 3 (pv 3)) (fun _ _ => rfl))))) (fun _ _ _ _ _ => (j_ix ir_ix (j_var 2 (pv 2)) (j_var 3 (pv 3)) (fun _ _ => rfl)))))))))))))
theorem okR_L (B : Blt K mg) {WE g0 fk : Addr} {fdg fdk : FuncData} (mw : mg "WebError" = some (.ref WE)) (Dr : Dm K "_law_refusal" "_law_refusal" s_law_refusal [] [] g0 fdg) (hmr : mg "_law_refusal" = some (.ref g0)) (Dk : Dm K "_law_kinds" "_law_kinds" s_law_kinds [] [] fk fdk) (hmk : mg "_law_kinds" = some (.ref fk)) (RX : ∀ x ∈ (["BadText"] : List Str), ∃ i C, RefC K mg WE x i C) : OkR P w K mg base ["BadText"] 0 :=
  ⟨g0, hmr, Dr.F.kp, fun X hP hw hK hm hb => by
    subst hP hw hK hm hb
    exact fun W fb k params body scope hr hk L hbind hbody pins s1 σ H1 Q g ρ h0 f c' pm2 ctv I1 hf hfn hfr hco rh1 rs pp => ref_run hmr Dr.F sc_law_refusal (Dr.F.bindsN (fun _ _ _ _ _ _ us hl => match us, hl with | [_], _ => rfl)) rfl rfl rfl rfl rfl rfl rfl rfl rfl B.n_isinstance B.n_ValueError mw Dk.F sc_law_kinds hmk (Dk.F.bindsN (fun _ _ _ _ _ _ us hl => match us, hl with | [_], _ => rfl)) (kinds_L B) RX hr hk L hbind hbody I1 hf hfn hfr hco rh1 rs pp⟩
theorem sc_law_box : FnScope ["_law_script", "_law_seed", "_law_cell"] ["_law_script"] (defScope s_law_box) := ⟨rfl, rfl, rfl, by decide +kernel, rfl, by decide +kernel, by decide +kernel⟩
theorem fn_law_box (B : Blt K mg) {f : Addr} {fd : FuncData} (D : Dm K "_law_box" "_law_box" s_law_box [] [] f fd) : FnOk P w K mg base (L2N.CX P w) 1 f fd ["_law_script"] (spF ⟨K, mg⟩ 1 F_law_box) :=
  fnokM_of (k := 0) (N := ["_law_script", "_law_seed", "_law_cell"]) (n := 3) D sc_law_box rfl (by decide) rfl fun cdv A outer s H E hr =>
      (js_cons (js_set (i := 1) sc_law_box.nd rfl (by first | exact Or.inl rfl | exact Or.inr rfl) j_int)
      (js_cons (js_for (passes_of rfl) rfl (ji_seq (j_sl (j_var 0 (pv 0)) jo_none (jo_some j_int))) (pg_name (i := 2) sc_law_box.nd rfl (by first | exact Or.inl rfl | exact Or.inr rfl)) (pat_nm 2) (js_one (js_set (i := 1) sc_law_box.nd rfl (by first | exact Or.inl rfl | exact Or.inr rfl) (j_bin or_mod (j_bin or_add (j_bin or_add (j_bin or_mul (j_var 1 (pv 1)) j_int) (j_var 2 (pv 2))) j_int) j_int))))
      (js_one (js_ret (j_lstO (ja_cons (j_callTy cr_listJ (by rfl) B.n_list (by decide +kernel) (ja_cons (j_sl (j_var 0 (pv 0)) jo_none (jo_some j_int)) ja_nil)) (ja_cons j_int (ja_cons j_int (ja_cons j_int (ja_cons (j_var 1 (pv 1)) ja_nil))))))))))
theorem ok_law_box_L0 (B : Blt K mg) {f : Addr} {fd : FuncData} (D : Dm K "_law_box" "_law_box" s_law_box [] [] f fd) (hm : mg "_law_box" = some (.ref f)) : Ok1 P w K mg base 1 "_law_box" 1 [] F_law_box := ok_of ⟨D.F, hm⟩ (fn_law_box B D) (fun _ _ _ _ _ _ us hl => match us, hl with | [_], _ => rfl)
theorem sc_law_mixed : FnScope ["_law_number", "_law_turn", "_law_one", "_law_two"] ["_law_number", "_law_turn"] (defScope s_law_mixed) := ⟨rfl, rfl, rfl, by decide +kernel, rfl, by decide +kernel, by decide +kernel⟩
theorem fn_law_mixed (B : Blt K mg) {f : Addr} {fd : FuncData} (D : Dm K "_law_mixed" "_law_mixed" s_law_mixed [] [] f fd) : FnOk P w K mg base (L2N.CX P w) 1 f fd ["_law_number", "_law_turn"] (spF ⟨K, mg⟩ 2 F_law_mixed) :=
  fnokM_of (k := 0) (N := ["_law_number", "_law_turn", "_law_one", "_law_two"]) (n := 4) D sc_law_mixed rfl (by decide) rfl fun cdv A outer s H E hr =>
      (js_cons (js_set (i := 2) sc_law_mixed.nd rfl (by first | exact Or.inl rfl | exact Or.inr rfl) (j_bin or_mod (j_bin or_add (j_bin or_add (j_bin or_mul (j_var 0 (pv 0)) j_int) (j_bin or_mul (j_var 1 (pv 1)) j_int)) j_int) j_int))
      (js_cons (js_set (i := 3) sc_law_mixed.nd rfl (by first | exact Or.inl rfl | exact Or.inr rfl) (j_bin or_mod (j_bin or_add (j_bin or_add (j_bin or_mul (j_var 2 (pv 2)) (j_bin or_add (j_bin or_mod (j_var 2 (pv 2)) j_int) j_int)) (j_bin or_mul (j_var 1 (pv 1)) j_int)) (j_bin or_mod (j_var 0 (pv 0)) j_int)) j_int))
      (js_one (js_ret (j_bin or_fdiv (j_var 3 (pv 3)) j_int)))))
theorem ok_law_mixed_L0 (B : Blt K mg) {f : Addr} {fd : FuncData} (D : Dm K "_law_mixed" "_law_mixed" s_law_mixed [] [] f fd) (hm : mg "_law_mixed" = some (.ref f)) : Ok1 P w K mg base 1 "_law_mixed" 2 [] F_law_mixed := ok_of ⟨D.F, hm⟩ (fn_law_mixed B D) (fun _ _ _ _ _ _ us hl => match us, hl with | [_, _], _ => rfl)
theorem sc_law_take : FnScope ["_law_box_here", "_law_many", "_law_cell", "_law_left"] ["_law_box_here", "_law_many"] (defScope s_law_take) := ⟨rfl, rfl, rfl, by decide +kernel, rfl, by decide +kernel, by decide +kernel⟩
theorem fn_law_take (B : Blt K mg) {f : Addr} {fd : FuncData} (D : Dm K "_law_take" "_law_take" s_law_take [] [] f fd) (O_law_mixed_L0 : Ok1 P w K mg base 1 "_law_mixed" 2 [] F_law_mixed) : FnOk P w K mg base (L2N.CX P w) 2 f fd ["_law_box_here", "_law_many"] (spF ⟨K, mg⟩ 2 F_law_take) :=
  fnokM_of (k := 1) (N := ["_law_box_here", "_law_many", "_law_cell", "_law_left"]) (n := 4) D sc_law_take rfl (by decide) rfl fun cdv A outer s H E hr =>
      (js_cons (js_setI (j_bin or_add (j_ix ir_ix (j_var 0 (pv 0)) j_int (fun _ _ => rfl)) j_int) (j_var 0 (pv 0)) j_int)
      (js_cons (js_if (jt_cmp or_gt (j_ix ir_ix (j_var 0 (pv 0)) j_int (fun _ _ => rfl)) j_int (nomark _)) (js_cons (js_set (i := 3) sc_law_take.nd rfl (by first | exact Or.inl rfl | exact Or.inr rfl) (j_ix ir_ix (j_var 0 (pv 0)) j_int (fun _ _ => rfl)))
      (js_cons (js_setI (j_bin or_fdiv (j_var 3 (pv 3)) (j_var 1 (pv 1))) (j_var 0 (pv 0)) j_int)
      (js_one (js_ret (j_bin or_mod (j_var 3 (pv 3)) (j_var 1 (pv 1))))))) js_nil)
      (js_cons (js_if (jt_cmp or_ge (j_ix ir_ix (j_var 0 (pv 0)) j_int (fun _ _ => rfl)) (j_callB cr_len (by rfl) B.n_len (by decide +kernel) (ja_cons (j_ix ir_ix (j_var 0 (pv 0)) j_int (fun _ _ => rfl)) ja_nil)) (nomark _)) (js_one (js_ret (j_bin or_mod (j_callO O_law_mixed_L0 (hr.mono (by decide)) (by rfl) (L2N.takes_of rfl rfl rfl rfl) (ja_cons (j_ix ir_ix (j_var 0 (pv 0)) j_int (fun _ _ => rfl)) (ja_cons (j_ix ir_ix (j_var 0 (pv 0)) j_int (fun _ _ => rfl)) ja_nil))) (j_var 1 (pv 1))))) js_nil)
      (js_cons (js_set (i := 2) sc_law_take.nd rfl (by first | exact Or.inl rfl | exact Or.inr rfl) (j_ix ir_ix (j_ix ir_ix (j_var 0 (pv 0)) j_int (fun _ _ => rfl)) (j_ix ir_ix (j_var 0 (pv 0)) j_int (fun _ _ => rfl)) (fun _ _ => rfl)))
      (js_cons (js_setI (j_bin or_add (j_ix ir_ix (j_var 0 (pv 0)) j_int (fun _ _ => rfl)) j_int) (j_var 0 (pv 0)) j_int)
      (js_cons (js_if (jt_cmp or_lt (j_var 2 (pv 2)) (j_bin or_pow j_int j_int) (nomark _)) (js_one (js_ret (j_bin or_mod (j_callO O_law_mixed_L0 (hr.mono (by decide)) (by rfl) (L2N.takes_of rfl rfl rfl rfl) (ja_cons (j_var 2 (pv 2)) (ja_cons (j_ix ir_ix (j_var 0 (pv 0)) j_int (fun _ _ => rfl)) ja_nil))) (j_var 1 (pv 1))))) js_nil)
      (js_cons (js_setI (j_bin or_fdiv (j_var 2 (pv 2)) (j_var 1 (pv 1))) (j_var 0 (pv 0)) j_int)
      (js_one (js_ret (j_bin or_mod (j_var 2 (pv 2)) (j_var 1 (pv 1))))))))))))
theorem ok_law_take_L0 (B : Blt K mg) {f : Addr} {fd : FuncData} (D : Dm K "_law_take" "_law_take" s_law_take [] [] f fd) (O_law_mixed_L0 : Ok1 P w K mg base 1 "_law_mixed" 2 [] F_law_mixed) (hm : mg "_law_take" = some (.ref f)) : Ok1 P w K mg base 2 "_law_take" 2 [] F_law_take := ok_of ⟨D.F, hm⟩ (fn_law_take B D O_law_mixed_L0) (fun _ _ _ _ _ _ us hl => match us, hl with | [_, _], _ => rfl)
theorem sc_law_ten_names : FnScope ["_law_box_here", "_law_size", "_law_base", "_law_at", "_law_letters", "_law_start", "_law_found", "_law_k", "_law_row", "_law_one"] ["_law_box_here"] (defScope s_law_ten_names) := ⟨rfl, rfl, rfl, by decide +kernel, rfl, by decide +kernel, by decide +kernel⟩
theorem fn_law_ten_names (B : Blt K mg) {f : Addr} {fd : FuncData} (D : Dm K "_law_ten_names" "_law_ten_names" s_law_ten_names [] [] f fd) (O_law_take_L0 : Ok1 P w K mg base 2 "_law_take" 2 [] F_law_take) : FnOk P w K mg base (L2N.CX P w) 3 f fd ["_law_box_here"] (spF ⟨K, mg⟩ 1 F_law_ten_names) :=
  fnokM_of (k := 2) (N := ["_law_box_here", "_law_size", "_law_base", "_law_at", "_law_letters", "_law_start", "_law_found", "_law_k", "_law_row", "_law_one"]) (n := 10) D sc_law_ten_names rfl (by decide) rfl fun cdv A outer s H E hr =>
      (js_cons (js_set (i := 1) sc_law_ten_names.nd rfl (by first | exact Or.inl rfl | exact Or.inr rfl) (j_callO O_law_take_L0 (hr.mono (by decide)) (by rfl) (L2N.takes_of rfl rfl rfl rfl) (ja_cons (j_var 0 (pv 0)) (ja_cons j_int ja_nil))))
      (js_cons (js_setLc (i := 2) rfl sc_law_ten_names.nd rfl rfl (sw_true rfl rfl rfl (by decide +kernel)) (ji_range1 (by rfl) B.n_range (j_var 1 (pv 1))) (blkOk_by (own := [("_law_k", 7)]) (by kernel_rfl)) (fun _ _ _ _ _ => (pg_name (i := 7) sc_law_ten_names.nd rfl (by first | exact Or.inl rfl | exact Or.inr rfl))) (pat_nm 7) (fun _ _ _ _ _ => jts_nil) (fun _ _ _ _ _ => (j_callO O_law_take_L0 (hr.mono (by decide)) (by rfl) takesN0 (ja_cons (j_var 0 (pv 0)) (ja_cons j_int ja_nil)))))
      (js_cons (js_set (i := 3) sc_law_ten_names.nd rfl (by first | exact Or.inl rfl | exact Or.inr rfl) (j_callO O_law_take_L0 (hr.mono (by decide)) (by rfl) (L2N.takes_of rfl rfl rfl rfl) (ja_cons (j_var 0 (pv 0)) (ja_cons (j_bin or_add (j_var 1 (pv 1)) j_int) ja_nil))))
      (js_cons (js_set (i := 4) sc_law_ten_names.nd rfl (by first | exact Or.inl rfl | exact Or.inr rfl) j_str)
      (js_cons (js_set (i := 5) sc_law_ten_names.nd rfl (by first | exact Or.inl rfl | exact Or.inr rfl) (j_callO O_law_take_L0 (hr.mono (by decide)) (by rfl) (L2N.takes_of rfl rfl rfl rfl) (ja_cons (j_var 0 (pv 0)) (ja_cons j_int ja_nil))))
      (js_cons (js_set (i := 6) sc_law_ten_names.nd rfl (by first | exact Or.inl rfl | exact Or.inr rfl) (j_lstO ja_nil))
      (js_cons (js_for (passes_of rfl) rfl (ji_range1 (by rfl) B.n_range j_int) (pg_name (i := 7) sc_law_ten_names.nd rfl (by first | exact Or.inl rfl | exact Or.inr rfl)) (pat_nm 7) (js_cons (js_set (i := 8) sc_law_ten_names.nd rfl (by first | exact Or.inl rfl | exact Or.inr rfl) (j_sl (j_bin or_add (j_bin or_add (j_sl (j_var 2 (pv 2)) jo_none (jo_some (j_var 3 (pv 3)))) (j_lst (ja_cons (j_bin or_mod (j_bin or_add (j_var 5 (pv 5)) (j_var 7 (pv 7))) j_int) ja_nil))) (j_sl (j_var 2 (pv 2)) (jo_some (j_var 3 (pv 3))) jo_none)) (jo_some (j_bin or_mod (j_var 7 (pv 7)) (j_bin or_add (j_var 3 (pv 3)) j_int))) jo_none))
      (js_one (js_expr (j_app (j_var 6 (pv 6)) (j_join j_str (j_lc rfl sc_law_ten_names.nd (ji_seq (j_var 8 (pv 8))) (blkOk_by (own := [("_law_one", 9)]) (by kernel_rfl)) (fun _ _ _ _ _ => (pg_name (i := 9) sc_law_ten_names.nd rfl (by first | exact Or.inl rfl | exact Or.inr rfl))) (pat_nm 9) (fun _ _ _ _ _ => jts_nil) (fun _ _ _ _ _ => (j_ix ir_ix (j_var 4 (pv 4)) (j_var 9 (pv 9)) (fun _ _ => rfl))))))))))
      (js_one (js_ret (j_frzD (j_var 6 (pv 6))))))))))))
theorem ok_law_ten_names_L0 (B : Blt K mg) {f : Addr} {fd : FuncData} (D : Dm K "_law_ten_names" "_law_ten_names" s_law_ten_names [] [] f fd) (O_law_take_L0 : Ok1 P w K mg base 2 "_law_take" 2 [] F_law_take) (hm : mg "_law_ten_names" = some (.ref f)) : Ok1 P w K mg base 3 "_law_ten_names" 1 [] F_law_ten_names := ok_of ⟨D.F, hm⟩ (fn_law_ten_names B D O_law_take_L0) (fun _ _ _ _ _ _ us hl => match us, hl with | [_], _ => rfl)
theorem sc_law_great_number : FnScope ["_law_box_here"] ["_law_box_here"] (defScope s_law_great_number) := ⟨rfl, rfl, rfl, by decide +kernel, rfl, by decide +kernel, by decide +kernel⟩
theorem fn_law_great_number (B : Blt K mg) {f : Addr} {fd : FuncData} (D : Dm K "_law_great_number" "_law_great_number" s_law_great_number [] [] f fd) (O_law_take_L0 : Ok1 P w K mg base 2 "_law_take" 2 [] F_law_take) : FnOk P w K mg base (L2N.CX P w) 3 f fd ["_law_box_here"] (spF ⟨K, mg⟩ 1 F_law_great_number) :=
  fnokM_of (k := 2) (N := ["_law_box_here"]) (n := 1) D sc_law_great_number rfl (by decide) rfl fun cdv A outer s H E hr =>
      (js_one (js_ret (j_ix ir_ix (j_lst (ja_cons j_int (ja_cons j_int (ja_cons (j_callO O_law_take_L0 (hr.mono (by decide)) (by rfl) (L2N.takes_of rfl rfl rfl rfl) (ja_cons (j_var 0 (pv 0)) (ja_cons j_int ja_nil))) (ja_cons (j_bin or_sub (j_bin or_pow j_int j_int) j_int) (ja_cons (j_callO O_law_take_L0 (hr.mono (by decide)) (by rfl) (L2N.takes_of rfl rfl rfl rfl) (ja_cons (j_var 0 (pv 0)) (ja_cons (j_bin or_pow j_int j_int) ja_nil))) ja_nil)))))) (j_callO O_law_take_L0 (hr.mono (by decide)) (by rfl) (L2N.takes_of rfl rfl rfl rfl) (ja_cons (j_var 0 (pv 0)) (ja_cons j_int ja_nil))) (fun _ _ => rfl))))
theorem ok_law_great_number_L0 (B : Blt K mg) {f : Addr} {fd : FuncData} (D : Dm K "_law_great_number" "_law_great_number" s_law_great_number [] [] f fd) (O_law_take_L0 : Ok1 P w K mg base 2 "_law_take" 2 [] F_law_take) (hm : mg "_law_great_number" = some (.ref f)) : Ok1 P w K mg base 3 "_law_great_number" 1 [] F_law_great_number := ok_of ⟨D.F, hm⟩ (fn_law_great_number B D O_law_take_L0) (fun _ _ _ _ _ _ us hl => match us, hl with | [_], _ => rfl)
theorem sc_law_plain_deed : FnScope ["_law_box_here", "_law_names", "_law_word", "_law_many", "_law_numbers", "_law_sizes", "_law_kind", "_law_face", "_law_k"] ["_law_box_here"] (defScope s_law_plain_deed) := ⟨rfl, rfl, rfl, by decide +kernel, rfl, by decide +kernel, by decide +kernel⟩
theorem fn_law_plain_deed (B : Blt K mg) {f : Addr} {fd : FuncData} (D : Dm K "_law_plain_deed" "_law_plain_deed" s_law_plain_deed [] [] f fd) (O_law_ten_names_L0 : Ok1 P w K mg base 3 "_law_ten_names" 1 [] F_law_ten_names) (O_law_take_L0 : Ok1 P w K mg base 2 "_law_take" 2 [] F_law_take) (O_law_great_number_L0 : Ok1 P w K mg base 3 "_law_great_number" 1 [] F_law_great_number) : FnOk P w K mg base (L2N.CX P w) 4 f fd ["_law_box_here"] (spF ⟨K, mg⟩ 1 F_law_plain_deed) :=
  fnokM_of (k := 3) (N := ["_law_box_here", "_law_names", "_law_word", "_law_many", "_law_numbers", "_law_sizes", "_law_kind", "_law_face", "_law_k"]) (n := 9) D sc_law_plain_deed rfl (by decide) rfl fun cdv A outer s H E hr =>
      (js_cons (js_set (i := 1) sc_law_plain_deed.nd rfl (by first | exact Or.inl rfl | exact Or.inr rfl) (j_callO O_law_ten_names_L0 (hr.mono (by decide)) (by rfl) (L2N.takes_of rfl rfl rfl rfl) (ja_cons (j_var 0 (pv 0)) ja_nil)))
      (js_cons (js_set (i := 2) sc_law_plain_deed.nd rfl (by first | exact Or.inl rfl | exact Or.inr rfl) (j_ix ir_ix (j_lst (ja_cons j_str (ja_cons j_str (ja_cons j_str (ja_cons j_str (ja_cons j_str (ja_cons j_str (ja_cons j_str (ja_cons j_str (ja_cons j_str ja_nil)))))))))) (j_callO O_law_take_L0 (hr.mono (by decide)) (by rfl) (L2N.takes_of rfl rfl rfl rfl) (ja_cons (j_var 0 (pv 0)) (ja_cons j_int ja_nil))) (fun _ _ => rfl)))
      (js_cons (js_if (jt_cmp (or_in hr) (j_var 2 (pv 2)) (j_tup (ja_cons j_str (ja_cons j_str (ja_cons j_str ja_nil)))) rfl) (js_one (js_ret (j_tup (ja_cons (j_var 2 (pv 2)) (ja_cons (j_ix ir_ix (j_var 1 (pv 1)) j_int (fun _ _ => rfl)) ja_nil))))) js_nil)
      (js_cons (js_if (jt_cmp (or_ne hr) (j_var 2 (pv 2)) j_str (nomark _)) (js_cons (js_setLc (i := 7) rfl sc_law_plain_deed.nd rfl rfl (sw_true rfl rfl rfl (by decide +kernel)) (ji_range1 (by rfl) B.n_range (j_bin or_add j_int (j_callO O_law_take_L0 (hr.mono (by decide)) (by rfl) (L2N.takes_of rfl rfl rfl rfl) (ja_cons (j_var 0 (pv 0)) (ja_cons j_int ja_nil))))) (blkOk_by (own := [("_law_k", 8)]) (by kernel_rfl)) (fun _ _ _ _ _ => (pg_name (i := 8) sc_law_plain_deed.nd rfl (by first | exact Or.inl rfl | exact Or.inr rfl))) (pat_nm 8) (fun _ _ _ _ _ => jts_nil) (fun _ _ _ _ _ => (j_callO O_law_great_number_L0 (hr.mono (by decide)) (by rfl) takesN0 (ja_cons (j_var 0 (pv 0)) ja_nil))))
      (js_one (js_ret (j_tup (ja_cons (j_var 2 (pv 2)) (ja_cons (j_ix ir_ix (j_var 1 (pv 1)) j_int (fun _ _ => rfl)) (ja_cons (j_callTy cr_tupleJ (by rfl) B.n_tuple (by decide +kernel) (ja_cons (j_var 7 (pv 7)) ja_nil)) ja_nil))))))) js_nil)
      (js_cons (js_set (i := 3) sc_law_plain_deed.nd rfl (by first | exact Or.inl rfl | exact Or.inr rfl) (j_callO O_law_take_L0 (hr.mono (by decide)) (by rfl) (L2N.takes_of rfl rfl rfl rfl) (ja_cons (j_var 0 (pv 0)) (ja_cons j_int ja_nil))))
      (js_cons (js_setLc (i := 4) rfl sc_law_plain_deed.nd rfl rfl (sw_true rfl rfl rfl (by decide +kernel)) (ji_range1 (by rfl) B.n_range (j_var 3 (pv 3))) (blkOk_by (own := [("_law_k", 8)]) (by kernel_rfl)) (fun _ _ _ _ _ => (pg_name (i := 8) sc_law_plain_deed.nd rfl (by first | exact Or.inl rfl | exact Or.inr rfl))) (pat_nm 8) (fun _ _ _ _ _ => jts_nil) (fun _ _ _ _ _ => (j_bin or_mul (j_bin or_sub j_int (j_bin or_mul j_int (j_callO O_law_take_L0 (hr.mono (by decide)) (by rfl) takesN0 (ja_cons (j_var 0 (pv 0)) (ja_cons j_int ja_nil))))) (j_callO O_law_great_number_L0 (hr.mono (by decide)) (by rfl) takesN0 (ja_cons (j_var 0 (pv 0)) ja_nil)))))
      (js_cons (js_set (i := 5) sc_law_plain_deed.nd rfl (by first | exact Or.inl rfl | exact Or.inr rfl) (j_tup (ja_cons (j_callO O_law_great_number_L0 (hr.mono (by decide)) (by rfl) (L2N.takes_of rfl rfl rfl rfl) (ja_cons (j_var 0 (pv 0)) ja_nil)) (ja_cons (j_callO O_law_great_number_L0 (hr.mono (by decide)) (by rfl) (L2N.takes_of rfl rfl rfl rfl) (ja_cons (j_var 0 (pv 0)) ja_nil)) ja_nil))))
      (js_cons (js_set (i := 6) sc_law_plain_deed.nd rfl (by first | exact Or.inl rfl | exact Or.inr rfl) (j_ix ir_ix (j_lst (ja_cons j_str (ja_cons j_str (ja_cons (j_ix ir_ix (j_var 1 (pv 1)) j_int (fun _ _ => rfl)) ja_nil)))) (j_callO O_law_take_L0 (hr.mono (by decide)) (by rfl) (L2N.takes_of rfl rfl rfl rfl) (ja_cons (j_var 0 (pv 0)) (ja_cons j_int ja_nil))) (fun _ _ => rfl)))
      (js_one (js_ret (j_bin or_add (j_bin or_add (j_tup (ja_cons (j_var 2 (pv 2)) (ja_cons (j_ix ir_ix (j_var 1 (pv 1)) j_int (fun _ _ => rfl)) (ja_cons (j_ix ir_ix (j_var 1 (pv 1)) j_int (fun _ _ => rfl)) (ja_cons (j_var 6 (pv 6)) ja_nil))))) (j_var 5 (pv 5))) (j_tup (ja_cons (j_callTy cr_tupleJ (by rfl) B.n_tuple (by decide +kernel) (ja_cons (j_var 4 (pv 4)) ja_nil)) ja_nil)))))))))))))
theorem ok_law_plain_deed_L0 (B : Blt K mg) {f : Addr} {fd : FuncData} (D : Dm K "_law_plain_deed" "_law_plain_deed" s_law_plain_deed [] [] f fd) (O_law_ten_names_L0 : Ok1 P w K mg base 3 "_law_ten_names" 1 [] F_law_ten_names) (O_law_take_L0 : Ok1 P w K mg base 2 "_law_take" 2 [] F_law_take) (O_law_great_number_L0 : Ok1 P w K mg base 3 "_law_great_number" 1 [] F_law_great_number) (hm : mg "_law_plain_deed" = some (.ref f)) : Ok1 P w K mg base 4 "_law_plain_deed" 1 [] F_law_plain_deed := ok_of ⟨D.F, hm⟩ (fn_law_plain_deed B D O_law_ten_names_L0 O_law_take_L0 O_law_great_number_L0) (fun _ _ _ _ _ _ us hl => match us, hl with | [_], _ => rfl)
theorem sc_law_written_deed : FnScope ["_law_box_here", "_law_k"] ["_law_box_here"] (defScope s_law_written_deed) := ⟨rfl, rfl, rfl, by decide +kernel, rfl, by decide +kernel, by decide +kernel⟩
theorem fn_law_written_deed (B : Blt K mg) {f : Addr} {fd : FuncData} (D : Dm K "_law_written_deed" "_law_written_deed" s_law_written_deed [] [] f fd) (O_law_take_L0 : Ok1 P w K mg base 2 "_law_take" 2 [] F_law_take) (O_law_plain_deed_L0 : Ok1 P w K mg base 4 "_law_plain_deed" 1 [] F_law_plain_deed) : FnOk P w K mg base (L2N.CX P w) 5 f fd ["_law_box_here"] (spF ⟨K, mg⟩ 1 F_law_written_deed) :=
  fnokM_of (k := 4) (N := ["_law_box_here", "_law_k"]) (n := 2) D sc_law_written_deed rfl (by decide) rfl fun cdv A outer s H E hr =>
      (js_cons (js_if (jt_cmp or_gt (j_callO O_law_take_L0 (hr.mono (by decide)) (by rfl) (L2N.takes_of rfl rfl rfl rfl) (ja_cons (j_var 0 (pv 0)) (ja_cons j_int ja_nil))) j_int (nomark _)) (js_one (js_ret (j_callO O_law_plain_deed_L0 (hr.mono (by decide)) (by rfl) (L2N.takes_of rfl rfl rfl rfl) (ja_cons (j_var 0 (pv 0)) ja_nil)))) js_nil)
      (js_one (js_ret (j_tup (ja_cons j_str (ja_cons (j_callTy cr_tupleJ (by rfl) B.n_tuple (by decide +kernel) (ja_cons (j_lc rfl sc_law_written_deed.nd (ji_range1 (by rfl) B.n_range (j_callO O_law_take_L0 (hr.mono (by decide)) (by rfl) (L2N.takes_of rfl rfl rfl rfl) (ja_cons (j_var 0 (pv 0)) (ja_cons j_int ja_nil)))) (blkOk_by (own := [("_law_k", 1)]) (by kernel_rfl)) (fun _ _ _ _ _ => (pg_name (i := 1) sc_law_written_deed.nd rfl (by first | exact Or.inl rfl | exact Or.inr rfl))) (pat_nm 1) (fun _ _ _ _ _ => jts_nil) (fun _ _ _ _ _ => (j_callO O_law_plain_deed_L0 (hr.mono (by decide)) (by rfl) takesN0 (ja_cons (j_var 0 (pv 0)) ja_nil)))) ja_nil)) ja_nil))))))
theorem ok_law_written_deed_L0 (B : Blt K mg) {f : Addr} {fd : FuncData} (D : Dm K "_law_written_deed" "_law_written_deed" s_law_written_deed [] [] f fd) (O_law_take_L0 : Ok1 P w K mg base 2 "_law_take" 2 [] F_law_take) (O_law_plain_deed_L0 : Ok1 P w K mg base 4 "_law_plain_deed" 1 [] F_law_plain_deed) (hm : mg "_law_written_deed" = some (.ref f)) : Ok1 P w K mg base 5 "_law_written_deed" 1 [] F_law_written_deed := ok_of ⟨D.F, hm⟩ (fn_law_written_deed B D O_law_take_L0 O_law_plain_deed_L0) (fun _ _ _ _ _ _ us hl => match us, hl with | [_], _ => rfl)
theorem sc_law_row_text : FnScope ["_law_numbers", "_law_number"] ["_law_numbers"] (defScope s_law_row_text) := ⟨rfl, rfl, rfl, by decide +kernel, rfl, by decide +kernel, by decide +kernel⟩
theorem fn_law_row_text (B : Blt K mg) {f : Addr} {fd : FuncData} (D : Dm K "_law_row_text" "_law_row_text" s_law_row_text [] [] f fd) : FnOk P w K mg base (L2N.CX P w) 1 f fd ["_law_numbers"] (spF ⟨K, mg⟩ 1 F_law_row_text) :=
  fnokM_of (k := 0) (N := ["_law_numbers", "_law_number"]) (n := 2) D sc_law_row_text rfl (by decide) rfl fun cdv A outer s H E hr =>
      (js_one (js_ret (j_if (jt_cmp or_gt (j_callB cr_len (by rfl) B.n_len (by decide +kernel) (ja_cons (j_var 0 (pv 0)) ja_nil)) j_int (nomark _)) (j_join j_str (j_lc rfl sc_law_row_text.nd (ji_seq (j_var 0 (pv 0))) (blkOk_by (own := [("_law_number", 1)]) (by kernel_rfl)) (fun _ _ _ _ _ => (pg_name (i := 1) sc_law_row_text.nd rfl (by first | exact Or.inl rfl | exact Or.inr rfl))) (pat_nm 1) (fun _ _ _ _ _ => jts_nil) (fun _ _ _ _ _ => (j_callTy cr_strJ (by rfl) B.n_str (by decide +kernel) (ja_cons (j_var 1 (pv 1)) ja_nil))))) j_str)))
theorem ok_law_row_text_L0 (B : Blt K mg) {f : Addr} {fd : FuncData} (D : Dm K "_law_row_text" "_law_row_text" s_law_row_text [] [] f fd) (hm : mg "_law_row_text" = some (.ref f)) : Ok1 P w K mg base 1 "_law_row_text" 1 [] F_law_row_text := ok_of ⟨D.F, hm⟩ (fn_law_row_text B D) (fun _ _ _ _ _ _ us hl => match us, hl with | [_], _ => rfl)
theorem sc_law_text : FnScope ["_law_deed", "_law_point", "_law_some", "_law_thing"] ["_law_deed"] (defScope s_law_text) := ⟨rfl, rfl, rfl, by decide +kernel, rfl, by decide +kernel, by decide +kernel⟩
theorem fn_law_text (B : Blt K mg) {f : Addr} {fd : FuncData} (D : Dm K "_law_text" "_law_text" s_law_text [] [] f fd) (O_law_row_text_L0 : Ok1 P w K mg base 1 "_law_row_text" 1 [] F_law_row_text) (hm : mg "_law_text" = some (.ref f)) : ∀ d : Nat, FnOk P w K mg base (L2N.CX P w) (1 + d) f fd ["_law_deed"] (spF ⟨K, mg⟩ 1 (F_law_text d))
  | 0 => fn_no rfl
  | d + 1 => by
    have OkR : Ok1 P w K mg base (1 + d) "_law_text" 1 [] (F_law_text d) := ok_of ⟨D.F, hm⟩ (fn_law_text B D O_law_row_text_L0 hm d) (fun _ _ _ _ _ _ us hl => match us, hl with | [_], _ => rfl)
    exact fnokM_of (k := 1 + d) (N := ["_law_deed", "_law_point", "_law_some", "_law_thing"]) (n := 4) D sc_law_text rfl (by decide) rfl fun cdv A outer s H E hr =>
      (js_cons (js_if (jt_cmp (or_eq hr) (j_ix ir_ix (j_var 0 (pv 0)) j_int (fun _ _ => rfl)) j_str (nomark _)) (js_one (js_ret (j_bin or_add j_str (j_join j_str (j_lc rfl sc_law_text.nd (ji_seq (j_ix ir_ix (j_var 0 (pv 0)) j_int (fun _ _ => rfl))) (blkOk_by (own := [("_law_some", 2)]) (by kernel_rfl)) (fun _ _ _ _ _ => (pg_name (i := 2) sc_law_text.nd rfl (by first | exact Or.inl rfl | exact Or.inr rfl))) (pat_nm 2) (fun _ _ _ _ _ => jts_nil) (fun _ _ _ _ _ => (j_bin or_add j_str (j_callO OkR hr (by rfl) takesN0 (ja_cons (j_var 2 (pv 2)) ja_nil))))))))) js_nil)
      (js_cons (js_if (jt_cmp (or_eq hr) (j_ix ir_ix (j_var 0 (pv 0)) j_int (fun _ _ => rfl)) j_str (nomark _)) (js_one (js_ret (j_join j_str (j_bin or_add (j_lc rfl sc_law_text.nd (ji_seq (j_sl (j_var 0 (pv 0)) jo_none (jo_some j_int))) (blkOk_by (own := [("_law_thing", 3)]) (by kernel_rfl)) (fun _ _ _ _ _ => (pg_name (i := 3) sc_law_text.nd rfl (by first | exact Or.inl rfl | exact Or.inr rfl))) (pat_nm 3) (fun _ _ _ _ _ => jts_nil) (fun _ _ _ _ _ => (j_callTy cr_strJ (by rfl) B.n_str (by decide +kernel) (ja_cons (j_var 3 (pv 3)) ja_nil)))) (j_lst (ja_cons (j_callO O_law_row_text_L0 (hr.mono (by omega)) (by rfl) (L2N.takes_of rfl rfl rfl rfl) (ja_cons (j_ix ir_ix (j_var 0 (pv 0)) j_int (fun _ _ => rfl)) ja_nil)) ja_nil)))))) js_nil)
      (js_cons (js_if (jt_cmp (or_in hr) (j_ix ir_ix (j_var 0 (pv 0)) j_int (fun _ _ => rfl)) (j_tup (ja_cons j_str (ja_cons j_str (ja_cons j_str ja_nil)))) rfl) (js_one (js_ret (j_bin or_add (j_bin or_add (j_ix ir_ix (j_var 0 (pv 0)) j_int (fun _ _ => rfl)) j_str) (j_ix ir_ix (j_var 0 (pv 0)) j_int (fun _ _ => rfl))))) js_nil)
      (js_one (js_ret (j_bin or_add (j_bin or_add (j_bin or_add (j_bin or_add (j_ix ir_ix (j_var 0 (pv 0)) j_int (fun _ _ => rfl)) j_str) (j_ix ir_ix (j_var 0 (pv 0)) j_int (fun _ _ => rfl))) j_str) (j_join j_str (j_lc rfl sc_law_text.nd (ji_seq (j_ix ir_ix (j_var 0 (pv 0)) j_int (fun _ _ => rfl))) (blkOk_by (own := [("_law_point", 1)]) (by kernel_rfl)) (fun _ _ _ _ _ => (pg_name (i := 1) sc_law_text.nd rfl (by first | exact Or.inl rfl | exact Or.inr rfl))) (pat_nm 1) (fun _ _ _ _ _ => jts_nil) (fun _ _ _ _ _ => (j_callTy cr_strJ (by rfl) B.n_str (by decide +kernel) (ja_cons (j_var 1 (pv 1)) ja_nil)))))))))))
theorem ok_law_text_L0 (B : Blt K mg) {f : Addr} {fd : FuncData} (D : Dm K "_law_text" "_law_text" s_law_text [] [] f fd) (O_law_row_text_L0 : Ok1 P w K mg base 1 "_law_row_text" 1 [] F_law_row_text) (hm : mg "_law_text" = some (.ref f)) : Ok1 P w K mg base 4 "_law_text" 1 [] (F_law_text 3) := ok_of ⟨D.F, hm⟩ (fn_law_text B D O_law_row_text_L0 hm 3) (fun _ _ _ _ _ _ us hl => match us, hl with | [_], _ => rfl)
theorem sc_law_bent_text : FnScope ["_law_box_here", "_law_text_here", "_law_marks", "_law_words", "_law_at", "_law_one", "_law_mark", "_law_odd", "_law_way", "_law_ends"] ["_law_box_here", "_law_text_here"] (defScope s_law_bent_text) := ⟨rfl, rfl, rfl, by decide +kernel, rfl, by decide +kernel, by decide +kernel⟩
theorem fn_law_bent_text (B : Blt K mg) {f : Addr} {fd : FuncData} (D : Dm K "_law_bent_text" "_law_bent_text" s_law_bent_text [] [] f fd) (O_law_take_L0 : Ok1 P w K mg base 2 "_law_take" 2 [] F_law_take) : FnOk P w K mg base (L2N.CX P w) 3 f fd ["_law_box_here", "_law_text_here"] (spF ⟨K, mg⟩ 2 F_law_bent_text) :=
  fnokM_of (k := 2) (N := ["_law_box_here", "_law_text_here", "_law_marks", "_law_words", "_law_at", "_law_one", "_law_mark", "_law_odd", "_law_way", "_law_ends"]) (n := 10) D sc_law_bent_text rfl (by decide) rfl fun cdv A outer s H E hr =>
      (js_cons (js_set (i := 2) sc_law_bent_text.nd rfl (by first | exact Or.inl rfl | exact Or.inr rfl) j_str)
      (js_cons (js_set (i := 3) sc_law_bent_text.nd rfl (by first | exact Or.inl rfl | exact Or.inr rfl) (j_split (j_var 1 (pv 1)) j_str))
      (js_cons (js_set (i := 4) sc_law_bent_text.nd rfl (by first | exact Or.inl rfl | exact Or.inr rfl) (j_callO O_law_take_L0 (hr.mono (by decide)) (by rfl) (L2N.takes_of rfl rfl rfl rfl) (ja_cons (j_var 0 (pv 0)) (ja_cons (j_bin or_add (j_callB cr_len (by rfl) B.n_len (by decide +kernel) (ja_cons (j_var 1 (pv 1)) ja_nil)) j_int) ja_nil))))
      (js_cons (js_set (i := 5) sc_law_bent_text.nd rfl (by first | exact Or.inl rfl | exact Or.inr rfl) (j_callO O_law_take_L0 (hr.mono (by decide)) (by rfl) (L2N.takes_of rfl rfl rfl rfl) (ja_cons (j_var 0 (pv 0)) (ja_cons (j_callB cr_len (by rfl) B.n_len (by decide +kernel) (ja_cons (j_var 3 (pv 3)) ja_nil)) ja_nil))))
      (js_cons (js_set (i := 6) sc_law_bent_text.nd rfl (by first | exact Or.inl rfl | exact Or.inr rfl) (j_ix ir_ix (j_var 2 (pv 2)) (j_callO O_law_take_L0 (hr.mono (by decide)) (by rfl) (L2N.takes_of rfl rfl rfl rfl) (ja_cons (j_var 0 (pv 0)) (ja_cons (j_callB cr_len (by rfl) B.n_len (by decide +kernel) (ja_cons (j_var 2 (pv 2)) ja_nil)) ja_nil))) (fun _ _ => rfl)))
      (js_cons (js_set (i := 7) sc_law_bent_text.nd rfl (by first | exact Or.inl rfl | exact Or.inr rfl) (j_lst (ja_cons j_str (ja_cons j_str (ja_cons j_str (ja_cons j_str (ja_cons j_str (ja_cons j_str (ja_cons j_str (ja_cons (j_bin or_mulS j_str j_int) (ja_cons (j_bin or_add j_str (j_bin or_mulS j_str j_int)) (ja_cons j_str (ja_cons j_str (ja_cons j_str ja_nil))))))))))))))
      (js_cons (js_set (i := 7) sc_law_bent_text.nd rfl (by first | exact Or.inl rfl | exact Or.inr rfl) (j_bin or_add (j_var 7 (pv 7)) (j_lst (ja_cons j_str (ja_cons j_str (ja_cons j_str (ja_cons j_str (ja_cons j_str (ja_cons j_str (ja_cons j_str (ja_cons j_str (ja_cons j_str (ja_cons j_str (ja_cons j_str ja_nil))))))))))))))
      (js_cons (js_set (i := 8) sc_law_bent_text.nd rfl (by first | exact Or.inl rfl | exact Or.inr rfl) (j_callO O_law_take_L0 (hr.mono (by decide)) (by rfl) (L2N.takes_of rfl rfl rfl rfl) (ja_cons (j_var 0 (pv 0)) (ja_cons j_int ja_nil))))
      (js_cons (js_if (jt_cmp (or_eq hr) (j_var 8 (pv 8)) j_int (nomark _)) (js_one (js_ret (j_bin or_add (j_bin or_add (j_sl (j_var 1 (pv 1)) jo_none (jo_some (j_var 4 (pv 4)))) (j_var 6 (pv 6))) (j_sl (j_var 1 (pv 1)) (jo_some (j_var 4 (pv 4))) jo_none)))) js_nil)
      (js_cons (js_if (jt_cmp (or_eq hr) (j_var 8 (pv 8)) j_int (nomark _)) (js_one (js_ret (j_bin or_add (j_sl (j_var 1 (pv 1)) jo_none (jo_some (j_var 4 (pv 4)))) (j_sl (j_var 1 (pv 1)) (jo_some (j_bin or_add (j_var 4 (pv 4)) j_int)) jo_none)))) js_nil)
      (js_cons (js_if (jt_cmp (or_eq hr) (j_var 8 (pv 8)) j_int (nomark _)) (js_one (js_ret (j_bin or_add (j_bin or_add (j_sl (j_var 1 (pv 1)) jo_none (jo_some (j_var 4 (pv 4)))) (j_var 6 (pv 6))) (j_sl (j_var 1 (pv 1)) (jo_some (j_bin or_add (j_var 4 (pv 4)) j_int)) jo_none)))) js_nil)
      (js_cons (js_if (jt_cmp (or_eq hr) (j_var 8 (pv 8)) j_int (nomark _)) (js_one (js_ret (j_join j_str (j_bin or_add (j_sl (j_var 3 (pv 3)) jo_none (jo_some (j_var 5 (pv 5)))) (j_sl (j_var 3 (pv 3)) (jo_some (j_bin or_add (j_var 5 (pv 5)) j_int)) jo_none))))) js_nil)
      (js_cons (js_if (jt_cmp (or_eq hr) (j_var 8 (pv 8)) j_int (nomark _)) (js_one (js_ret (j_join j_str (j_bin or_add (j_bin or_add (j_sl (j_var 3 (pv 3)) jo_none (jo_some (j_var 5 (pv 5)))) (j_lst (ja_cons (j_ix ir_ix (j_var 3 (pv 3)) (j_var 5 (pv 5)) (fun _ _ => rfl)) (ja_cons (j_ix ir_ix (j_var 3 (pv 3)) (j_var 5 (pv 5)) (fun _ _ => rfl)) ja_nil)))) (j_sl (j_var 3 (pv 3)) (jo_some (j_bin or_add (j_var 5 (pv 5)) j_int)) jo_none))))) js_nil)
      (js_cons (js_if (jt_cmp (or_eq hr) (j_var 8 (pv 8)) j_int (nomark _)) (js_one (js_ret (j_join j_str (j_bin or_add (j_bin or_add (j_sl (j_var 3 (pv 3)) jo_none (jo_some (j_var 5 (pv 5)))) (j_lst (ja_cons (j_ix ir_ix (j_var 7 (pv 7)) (j_callO O_law_take_L0 (hr.mono (by decide)) (by rfl) (L2N.takes_of rfl rfl rfl rfl) (ja_cons (j_var 0 (pv 0)) (ja_cons (j_callB cr_len (by rfl) B.n_len (by decide +kernel) (ja_cons (j_var 7 (pv 7)) ja_nil)) ja_nil))) (fun _ _ => rfl)) ja_nil))) (j_sl (j_var 3 (pv 3)) (jo_some (j_bin or_add (j_var 5 (pv 5)) j_int)) jo_none))))) js_nil)
      (js_cons (js_set (i := 9) sc_law_bent_text.nd rfl (by first | exact Or.inl rfl | exact Or.inr rfl) (j_lst (ja_cons (j_bin or_add (j_var 1 (pv 1)) j_str) (ja_repl (j_var 1 (pv 1)) (j_var 1 (pv 1)) (ja_cons (j_bin or_add (j_var 1 (pv 1)) j_str) (ja_cons j_str (ja_cons (j_upper (j_var 1 (pv 1))) (ja_cons (j_bin or_add (j_var 1 (pv 1)) j_str) (ja_cons (j_bin or_add j_str (j_var 1 (pv 1))) ja_nil)))))))))
      (js_one (js_ret (j_ix ir_ix (j_var 9 (pv 9)) (j_callO O_law_take_L0 (hr.mono (by decide)) (by rfl) (L2N.takes_of rfl rfl rfl rfl) (ja_cons (j_var 0 (pv 0)) (ja_cons (j_callB cr_len (by rfl) B.n_len (by decide +kernel) (ja_cons (j_var 9 (pv 9)) ja_nil)) ja_nil))) (fun _ _ => rfl)))))))))))))))))))
theorem ok_law_bent_text_L0 (B : Blt K mg) {f : Addr} {fd : FuncData} (D : Dm K "_law_bent_text" "_law_bent_text" s_law_bent_text [] [] f fd) (O_law_take_L0 : Ok1 P w K mg base 2 "_law_take" 2 [] F_law_take) (hm : mg "_law_bent_text" = some (.ref f)) : Ok1 P w K mg base 3 "_law_bent_text" 2 [] F_law_bent_text := ok_of ⟨D.F, hm⟩ (fn_law_bent_text B D O_law_take_L0) (fun _ _ _ _ _ _ us hl => match us, hl with | [_, _], _ => rfl)
theorem sc_law_is_name : FnScope ["_law_text_here", "_law_mark"] ["_law_text_here"] (defScope s_law_is_name) := ⟨rfl, rfl, rfl, by decide +kernel, rfl, by decide +kernel, by decide +kernel⟩
theorem fn_law_is_name (B : Blt K mg) {f : Addr} {fd : FuncData} (D : Dm K "_law_is_name" "_law_is_name" s_law_is_name [] [] f fd) : FnOk P w K mg base (L2N.CX P w) 1 f fd ["_law_text_here"] (spF ⟨K, mg⟩ 1 F_law_is_name) :=
  fnokM_of (k := 0) (N := ["_law_text_here", "_law_mark"]) (n := 2) D sc_law_is_name rfl (by decide) rfl fun cdv A outer s H E hr =>
      (js_one (js_ret (j_and (j_chain or_le or_le j_int (j_callB cr_len (by rfl) B.n_len (by decide +kernel) (ja_cons (j_var 0 (pv 0)) ja_nil)) j_int) (j_one (j_callB (cr_allJ rfl) (by rfl) B.n_all (by decide +kernel) (ja_cons (j_lc rfl sc_law_is_name.nd (ji_seq (j_var 0 (pv 0))) (blkOk_by (own := [("_law_mark", 1)]) (by kernel_rfl)) (fun _ _ _ _ _ => (pg_name (i := 1) sc_law_is_name.nd rfl (by first | exact Or.inl rfl | exact Or.inr rfl))) (pat_nm 1) (fun _ _ _ _ _ => jts_nil) (fun _ _ _ _ _ => (j_cmp or_inS (j_var 1 (pv 1)) j_str rfl))) ja_nil))))))
theorem ok_law_is_name_L0 (B : Blt K mg) {f : Addr} {fd : FuncData} (D : Dm K "_law_is_name" "_law_is_name" s_law_is_name [] [] f fd) (hm : mg "_law_is_name" = some (.ref f)) : Ok1 P w K mg base 1 "_law_is_name" 1 [] F_law_is_name := ok_of ⟨D.F, hm⟩ (fn_law_is_name B D) (fun _ _ _ _ _ _ us hl => match us, hl with | [_], _ => rfl)
theorem sc_law_number_in : FnScope ["_law_word", "_law_figures", "_law_mark"] ["_law_word"] (defScope s_law_number_in) := ⟨rfl, rfl, rfl, by decide +kernel, rfl, by decide +kernel, by decide +kernel⟩
theorem fn_law_number_in (B : Blt K mg) {f : Addr} {fd : FuncData} (D : Dm K "_law_number_in" "_law_number_in" s_law_number_in [] [] f fd) : FnOk P w K mg base (L2N.CX P w) 1 f fd ["_law_word"] (spF ⟨K, mg⟩ 1 F_law_number_in) :=
  fnokM_of (k := 0) (N := ["_law_word", "_law_figures", "_law_mark"]) (n := 3) D sc_law_number_in rfl (by decide) rfl fun cdv A outer s H E hr =>
      (js_cons (js_set (i := 1) sc_law_number_in.nd rfl (by first | exact Or.inl rfl | exact Or.inr rfl) (j_if (jt_cmp (or_eq hr) (j_sl (j_var 0 (pv 0)) jo_none (jo_some j_int)) j_str (nomark _)) (j_sl (j_var 0 (pv 0)) (jo_some j_int) jo_none) (j_var 0 (pv 0))))
      (js_cons (js_if (PW.pt (jw_or (jt_not (jt_chain or_le or_le j_int (j_callB cr_len (by rfl) B.n_len (by decide +kernel) (ja_cons (j_var 1 (pv 1)) ja_nil)) j_int)) (jw_or1 (jt_not (jt_val (j_callB (cr_allJ rfl) (by rfl) B.n_all (by decide +kernel) (ja_cons (j_lc rfl sc_law_number_in.nd (ji_seq (j_var 1 (pv 1))) (blkOk_by (own := [("_law_mark", 2)]) (by kernel_rfl)) (fun _ _ _ _ _ => (pg_name (i := 2) sc_law_number_in.nd rfl (by first | exact Or.inl rfl | exact Or.inr rfl))) (pat_nm 2) (fun _ _ _ _ _ => jts_nil) (fun _ _ _ _ _ => (j_cmp or_inS (j_var 2 (pv 2)) j_str rfl))) ja_nil))))))) (js_one (js_ret j_non)) js_nil)
      (js_cons (js_if (PW.pt (jw_and (jt_cmp (or_eq hr) (j_ix ir_ix (j_var 1 (pv 1)) j_int (fun _ _ => rfl)) j_str (nomark _)) (jw_and1 (jt_cmp (or_ne hr) (j_var 0 (pv 0)) j_str (nomark _))))) (js_one (js_ret j_non)) js_nil)
      (js_one (js_ret (j_callTy cr_intS (by rfl) B.n_int (by decide +kernel) (ja_cons (j_var 0 (pv 0)) ja_nil)))))))
theorem ok_law_number_in_L0 (B : Blt K mg) {f : Addr} {fd : FuncData} (D : Dm K "_law_number_in" "_law_number_in" s_law_number_in [] [] f fd) (hm : mg "_law_number_in" = some (.ref f)) : Ok1 P w K mg base 1 "_law_number_in" 1 [] F_law_number_in := ok_of ⟨D.F, hm⟩ (fn_law_number_in B D) (fun _ _ _ _ _ _ us hl => match us, hl with | [_], _ => rfl)
theorem sc_law_plain_in : FnScope ["_law_word"] ["_law_word"] (defScope s_law_plain_in) := ⟨rfl, rfl, rfl, by decide +kernel, rfl, by decide +kernel, by decide +kernel⟩
theorem fn_law_plain_in (B : Blt K mg) {f : Addr} {fd : FuncData} (D : Dm K "_law_plain_in" "_law_plain_in" s_law_plain_in [] [] f fd) (O_law_number_in_L0 : Ok1 P w K mg base 1 "_law_number_in" 1 [] F_law_number_in) : FnOk P w K mg base (L2N.CX P w) 2 f fd ["_law_word"] (spF ⟨K, mg⟩ 1 F_law_plain_in) :=
  fnokM_of (k := 1) (N := ["_law_word"]) (n := 1) D sc_law_plain_in rfl (by decide) rfl fun cdv A outer s H E hr =>
      (js_one (js_ret (j_if (jt_cmp (or_eq hr) (j_sl (j_var 0 (pv 0)) jo_none (jo_some j_int)) j_str (nomark _)) j_non (j_callO O_law_number_in_L0 (hr.mono (by decide)) (by rfl) (L2N.takes_of rfl rfl rfl rfl) (ja_cons (j_var 0 (pv 0)) ja_nil)))))
theorem ok_law_plain_in_L0 (B : Blt K mg) {f : Addr} {fd : FuncData} (D : Dm K "_law_plain_in" "_law_plain_in" s_law_plain_in [] [] f fd) (O_law_number_in_L0 : Ok1 P w K mg base 1 "_law_number_in" 1 [] F_law_number_in) (hm : mg "_law_plain_in" = some (.ref f)) : Ok1 P w K mg base 2 "_law_plain_in" 1 [] F_law_plain_in := ok_of ⟨D.F, hm⟩ (fn_law_plain_in B D O_law_number_in_L0) (fun _ _ _ _ _ _ us hl => match us, hl with | [_], _ => rfl)
theorem sc_law_parts_in : FnScope ["_law_text_here", "_law_between", "_law_plain", "_law_found", "_law_word"] ["_law_text_here", "_law_between", "_law_plain"] (defScope s_law_parts_in) := ⟨rfl, rfl, rfl, by decide +kernel, rfl, by decide +kernel, by decide +kernel⟩
theorem fn_law_parts_in (B : Blt K mg) {f : Addr} {fd : FuncData} (D : Dm K "_law_parts_in" "_law_parts_in" s_law_parts_in [] [] f fd) (O_law_plain_in_L0 : Ok1 P w K mg base 2 "_law_plain_in" 1 [] F_law_plain_in) (O_law_number_in_L0 : Ok1 P w K mg base 1 "_law_number_in" 1 [] F_law_number_in) : FnOk P w K mg base (L2N.CX P w) 3 f fd ["_law_text_here", "_law_between", "_law_plain"] (spF ⟨K, mg⟩ 3 F_law_parts_in) :=
  fnokM_of (k := 2) (N := ["_law_text_here", "_law_between", "_law_plain", "_law_found", "_law_word"]) (n := 5) D sc_law_parts_in rfl (by decide) rfl fun cdv A outer s H E hr =>
      (js_cons (js_set (i := 3) sc_law_parts_in.nd rfl (by first | exact Or.inl rfl | exact Or.inr rfl) (j_lstO ja_nil))
      (js_cons (js_for (passes_of rfl) rfl (ji_seq (j_split (j_var 0 (pv 0)) (j_var 1 (pv 1)))) (pg_name (i := 4) sc_law_parts_in.nd rfl (by first | exact Or.inl rfl | exact Or.inr rfl)) (pat_nm 4) (js_one (js_expr (j_app (j_var 3 (pv 3)) (j_if (jt_val (j_var 2 (pv 2))) (j_callO O_law_plain_in_L0 (hr.mono (by decide)) (by rfl) (L2N.takes_of rfl rfl rfl rfl) (ja_cons (j_var 4 (pv 4)) ja_nil)) (j_callO O_law_number_in_L0 (hr.mono (by decide)) (by rfl) (L2N.takes_of rfl rfl rfl rfl) (ja_cons (j_var 4 (pv 4)) ja_nil)))))))
      (js_one (js_ret (j_if (jt_cmp (or_inN hr) j_non (j_frzD (j_var 3 (pv 3))) rfl) j_non (j_callTy cr_tupleJ (by rfl) B.n_tuple (by decide +kernel) (ja_cons (j_frzD (j_var 3 (pv 3))) ja_nil)))))))
theorem ok_law_parts_in_L0 (B : Blt K mg) {f : Addr} {fd : FuncData} (D : Dm K "_law_parts_in" "_law_parts_in" s_law_parts_in [] [] f fd) (O_law_plain_in_L0 : Ok1 P w K mg base 2 "_law_plain_in" 1 [] F_law_plain_in) (O_law_number_in_L0 : Ok1 P w K mg base 1 "_law_number_in" 1 [] F_law_number_in) (hm : mg "_law_parts_in" = some (.ref f)) : Ok1 P w K mg base 3 "_law_parts_in" 3 [] F_law_parts_in := ok_of ⟨D.F, hm⟩ (fn_law_parts_in B D O_law_plain_in_L0 O_law_number_in_L0) (fun _ _ _ _ _ _ us hl => match us, hl with | [_, _, _], _ => rfl)
theorem sc_law_words_read : FnScope ["_law_words", "_law_numbers", "_law_things", "_law_face", "_law_word"] ["_law_words"] (defScope s_law_words_read) := ⟨rfl, rfl, rfl, by decide +kernel, rfl, by decide +kernel, by decide +kernel⟩
theorem fn_law_words_read (B : Blt K mg) {f : Addr} {fd : FuncData} (D : Dm K "_law_words_read" "_law_words_read" s_law_words_read [] [] f fd) (O_law_is_name_L0 : Ok1 P w K mg base 1 "_law_is_name" 1 [] F_law_is_name) (O_law_parts_in_L0 : Ok1 P w K mg base 3 "_law_parts_in" 3 [] F_law_parts_in) (O_law_plain_in_L0 : Ok1 P w K mg base 2 "_law_plain_in" 1 [] F_law_plain_in) : FnOk P w K mg base (L2N.CX P w) 4 f fd ["_law_words"] (spF ⟨K, mg⟩ 1 F_law_words_read) :=
  fnokM_of (k := 3) (N := ["_law_words", "_law_numbers", "_law_things", "_law_face", "_law_word"]) (n := 5) D sc_law_words_read rfl (by decide) rfl fun cdv A outer s H E hr =>
      (js_cons (js_if (jt_cmp (or_in hr) (j_ix ir_ix (j_var 0 (pv 0)) j_int (fun _ _ => rfl)) (j_tup (ja_cons j_str (ja_cons j_str (ja_cons j_str ja_nil)))) rfl) (js_one (js_ret (j_if (PW.pt (jw_and (jt_cmp (or_eq hr) (j_callB cr_len (by rfl) B.n_len (by decide +kernel) (ja_cons (j_var 0 (pv 0)) ja_nil)) j_int (nomark _)) (jw_and1 (jt_val (j_callO O_law_is_name_L0 (hr.mono (by decide)) (by rfl) (L2N.takes_of rfl rfl rfl rfl) (ja_cons (j_ix ir_ix (j_var 0 (pv 0)) j_int (fun _ _ => rfl)) ja_nil)))))) (j_tup (ja_cons (j_ix ir_ix (j_var 0 (pv 0)) j_int (fun _ _ => rfl)) (ja_cons (j_ix ir_ix (j_var 0 (pv 0)) j_int (fun _ _ => rfl)) ja_nil))) j_non))) js_nil)
      (js_cons (js_if (jt_cmp (or_in hr) (j_ix ir_ix (j_var 0 (pv 0)) j_int (fun _ _ => rfl)) (j_tup (ja_cons j_str (ja_cons j_str (ja_cons j_str (ja_cons j_str ja_nil))))) rfl) (js_cons (js_if (PW.pt (jw_or (jt_cmp (or_ne hr) (j_callB cr_len (by rfl) B.n_len (by decide +kernel) (ja_cons (j_var 0 (pv 0)) ja_nil)) j_int (nomark _)) (jw_or1 (jt_not (jt_val (j_callO O_law_is_name_L0 (hr.mono (by decide)) (by rfl) (L2N.takes_of rfl rfl rfl rfl) (ja_cons (j_ix ir_ix (j_var 0 (pv 0)) j_int (fun _ _ => rfl)) ja_nil))))))) (js_one (js_ret j_non)) js_nil)
      (js_cons (js_set (i := 3) sc_law_words_read.nd rfl (by first | exact Or.inl rfl | exact Or.inr rfl) (j_callO O_law_parts_in_L0 (hr.mono (by decide)) (by rfl) (L2N.takes_of rfl rfl rfl rfl) (ja_cons (j_ix ir_ix (j_var 0 (pv 0)) j_int (fun _ _ => rfl)) (ja_cons j_str (ja_cons j_bl ja_nil)))))
      (js_one (js_ret (j_if (jt_cmp or_isN (j_var 3 (pv 3)) j_non (nomark _)) j_non (j_tup (ja_cons (j_ix ir_ix (j_var 0 (pv 0)) j_int (fun _ _ => rfl)) (ja_cons (j_ix ir_ix (j_var 0 (pv 0)) j_int (fun _ _ => rfl)) (ja_cons (j_var 3 (pv 3)) ja_nil))))))))) js_nil)
      (js_cons (js_if (PW.pt (jw_or (jt_cmp (or_ne hr) (j_ix ir_ix (j_var 0 (pv 0)) j_int (fun _ _ => rfl)) j_str (nomark _)) (jw_or (jt_cmp (or_ne hr) (j_callB cr_len (by rfl) B.n_len (by decide +kernel) (ja_cons (j_var 0 (pv 0)) ja_nil)) j_int (nomark _)) (jw_or1 (jt_not (jt_val (j_callB (cr_allJ rfl) (by rfl) B.n_all (by decide +kernel) (ja_cons (j_lc rfl sc_law_words_read.nd (ji_seq (j_sl (j_var 0 (pv 0)) (jo_some j_int) (jo_some j_int))) (blkOk_by (own := [("_law_word", 4)]) (by kernel_rfl)) (fun _ _ _ _ _ => (pg_name (i := 4) sc_law_words_read.nd rfl (by first | exact Or.inl rfl | exact Or.inr rfl))) (pat_nm 4) (fun _ _ _ _ _ => jts_nil) (fun _ _ _ _ _ => (j_callO O_law_is_name_L0 (hr.mono (by decide)) (by rfl) takesN0 (ja_cons (j_var 4 (pv 4)) ja_nil)))) ja_nil)))))))) (js_one (js_ret j_non)) js_nil)
      (js_cons (js_set (i := 1) sc_law_words_read.nd rfl (by first | exact Or.inl rfl | exact Or.inr rfl) (j_if (jt_cmp (or_eq hr) (j_ix ir_ix (j_var 0 (pv 0)) j_int (fun _ _ => rfl)) j_str (nomark _)) (j_tup ja_nil) (j_callO O_law_parts_in_L0 (hr.mono (by decide)) (by rfl) (L2N.takes_of rfl rfl rfl rfl) (ja_cons (j_ix ir_ix (j_var 0 (pv 0)) j_int (fun _ _ => rfl)) (ja_cons j_str (ja_cons j_bl ja_nil))))))
      (js_cons (js_set (i := 2) sc_law_words_read.nd rfl (by first | exact Or.inl rfl | exact Or.inr rfl) (j_tup (ja_cons (j_callO O_law_plain_in_L0 (hr.mono (by decide)) (by rfl) (L2N.takes_of rfl rfl rfl rfl) (ja_cons (j_ix ir_ix (j_var 0 (pv 0)) j_int (fun _ _ => rfl)) ja_nil)) (ja_cons (j_callO O_law_plain_in_L0 (hr.mono (by decide)) (by rfl) (L2N.takes_of rfl rfl rfl rfl) (ja_cons (j_ix ir_ix (j_var 0 (pv 0)) j_int (fun _ _ => rfl)) ja_nil)) (ja_cons (j_var 1 (pv 1)) ja_nil)))))
      (js_one (js_ret (j_if (jt_cmp (or_inN hr) j_non (j_var 2 (pv 2)) rfl) j_non (j_bin or_add (j_tup (ja_cons (j_ix ir_ix (j_var 0 (pv 0)) j_int (fun _ _ => rfl)) (ja_cons (j_ix ir_ix (j_var 0 (pv 0)) j_int (fun _ _ => rfl)) (ja_cons (j_ix ir_ix (j_var 0 (pv 0)) j_int (fun _ _ => rfl)) (ja_cons (j_ix ir_ix (j_var 0 (pv 0)) j_int (fun _ _ => rfl)) ja_nil))))) (j_var 2 (pv 2)))))))))))
theorem ok_law_words_read_L0 (B : Blt K mg) {f : Addr} {fd : FuncData} (D : Dm K "_law_words_read" "_law_words_read" s_law_words_read [] [] f fd) (O_law_is_name_L0 : Ok1 P w K mg base 1 "_law_is_name" 1 [] F_law_is_name) (O_law_parts_in_L0 : Ok1 P w K mg base 3 "_law_parts_in" 3 [] F_law_parts_in) (O_law_plain_in_L0 : Ok1 P w K mg base 2 "_law_plain_in" 1 [] F_law_plain_in) (hm : mg "_law_words_read" = some (.ref f)) : Ok1 P w K mg base 4 "_law_words_read" 1 [] F_law_words_read := ok_of ⟨D.F, hm⟩ (fn_law_words_read B D O_law_is_name_L0 O_law_parts_in_L0 O_law_plain_in_L0) (fun _ _ _ _ _ _ us hl => match us, hl with | [_], _ => rfl)
theorem sc_law_read : FnScope ["_law_text_here", "_law_found", "_law_part"] ["_law_text_here"] (defScope s_law_read) := ⟨rfl, rfl, rfl, by decide +kernel, rfl, by decide +kernel, by decide +kernel⟩
theorem fn_law_read (B : Blt K mg) {f : Addr} {fd : FuncData} (D : Dm K "_law_read" "_law_read" s_law_read [] [] f fd) (O_law_words_read_L0 : Ok1 P w K mg base 4 "_law_words_read" 1 [] F_law_words_read) : FnOk P w K mg base (L2N.CX P w) 5 f fd ["_law_text_here"] (spF ⟨K, mg⟩ 1 F_law_read) :=
  fnokM_of (k := 4) (N := ["_law_text_here", "_law_found", "_law_part"]) (n := 3) D sc_law_read rfl (by decide) rfl fun cdv A outer s H E hr =>
      (js_cons (js_if (jt_cmp (or_eq hr) (j_var 0 (pv 0)) j_str (nomark _)) (js_one (js_ret (j_tup (ja_cons j_str (ja_cons (j_tup ja_nil) ja_nil))))) js_nil)
      (js_cons (js_if (jt_cmp (or_ne hr) (j_sl (j_var 0 (pv 0)) jo_none (jo_some j_int)) j_str (nomark _)) (js_one (js_ret (j_callO O_law_words_read_L0 (hr.mono (by decide)) (by rfl) (L2N.takes_of rfl rfl rfl rfl) (ja_cons (j_split (j_var 0 (pv 0)) j_str) ja_nil)))) js_nil)
      (js_cons (js_set (i := 1) sc_law_read.nd rfl (by first | exact Or.inl rfl | exact Or.inr rfl) (j_lstO ja_nil))
      (js_cons (js_for (passes_of rfl) rfl (ji_seq (j_split (j_sl (j_var 0 (pv 0)) (jo_some j_int) jo_none) j_str)) (pg_name (i := 2) sc_law_read.nd rfl (by first | exact Or.inl rfl | exact Or.inr rfl)) (pat_nm 2) (js_one (js_expr (j_app (j_var 1 (pv 1)) (j_if (jt_cmp (or_eq hr) (j_sl (j_var 2 (pv 2)) jo_none (jo_some j_int)) j_str (nomark _)) (j_callO O_law_words_read_L0 (hr.mono (by decide)) (by rfl) (L2N.takes_of rfl rfl rfl rfl) (ja_cons (j_split (j_sl (j_var 2 (pv 2)) (jo_some j_int) jo_none) j_str) ja_nil)) j_non)))))
      (js_one (js_ret (j_if (jt_cmp (or_inN hr) j_non (j_frzD (j_var 1 (pv 1))) rfl) j_non (j_tup (ja_cons j_str (ja_cons (j_callTy cr_tupleJ (by rfl) B.n_tuple (by decide +kernel) (ja_cons (j_frzD (j_var 1 (pv 1))) ja_nil)) ja_nil))))))))))
theorem ok_law_read_L0 (B : Blt K mg) {f : Addr} {fd : FuncData} (D : Dm K "_law_read" "_law_read" s_law_read [] [] f fd) (O_law_words_read_L0 : Ok1 P w K mg base 4 "_law_words_read" 1 [] F_law_words_read) (hm : mg "_law_read" = some (.ref f)) : Ok1 P w K mg base 5 "_law_read" 1 [] F_law_read := ok_of ⟨D.F, hm⟩ (fn_law_read B D O_law_words_read_L0) (fun _ _ _ _ _ _ us hl => match us, hl with | [_], _ => rfl)
theorem sc_is_name : FnScope ["text", "letter"] ["text"] (defScope s_is_name) := ⟨rfl, rfl, rfl, by decide +kernel, rfl, by decide +kernel, by decide +kernel⟩
theorem fn_is_name (B : Blt K mg) {f : Addr} {fd : FuncData} (D : Dm K "is_name" "is_name" s_is_name [] [] f fd) : FnOk P w K mg base (L2N.CX P w) 1 f fd ["text"] (spF ⟨K, mg⟩ 1 F_is_name) :=
  fnokM_of (k := 0) (N := ["text", "letter"]) (n := 2) D sc_is_name rfl (by decide) rfl fun cdv A outer s H E hr =>
      (js_one (js_ret (j_and (j_chain or_le or_le j_int (j_callB cr_len (by rfl) B.n_len (by decide +kernel) (ja_cons (j_var 0 (pv 0)) ja_nil)) (j_globI (by rfl) B.g_SIGNS_MOST)) (j_one (j_callB (cr_allJ rfl) (by rfl) B.n_all (by decide +kernel) (ja_cons (j_lc rfl sc_is_name.nd (ji_seq (j_var 0 (pv 0))) (blkOk_by (own := [("letter", 1)]) (by kernel_rfl)) (fun _ _ _ _ _ => (pg_name (i := 1) sc_is_name.nd rfl (by first | exact Or.inl rfl | exact Or.inr rfl))) (pat_nm 1) (fun _ _ _ _ _ => jts_nil) (fun _ _ _ _ _ => (j_cmp or_inS (j_var 1 (pv 1)) (j_globS (by rfl) B.g_LETTERS) rfl))) ja_nil))))))
theorem ok_is_name_L0 (B : Blt K mg) {f : Addr} {fd : FuncData} (D : Dm K "is_name" "is_name" s_is_name [] [] f fd) (hm : mg "is_name" = some (.ref f)) : Ok1 P w K mg base 1 "is_name" 1 [] F_is_name := ok_of ⟨D.F, hm⟩ (fn_is_name B D) (fun _ _ _ _ _ _ us hl => match us, hl with | [_], _ => rfl)
theorem sc_read_name : FnScope ["word"] ["word"] (defScope s_read_name) := ⟨rfl, rfl, rfl, by decide +kernel, rfl, by decide +kernel, by decide +kernel⟩
theorem fn_read_name (B : Blt K mg) {f : Addr} {fd : FuncData} (D : Dm K "read_name" "read_name" s_read_name [] [] f fd) (O_is_name_L0 : Ok1 P w K mg base 1 "is_name" 1 [] F_is_name) (O_X_BadText : OkX P w K mg base 2 "BadText") : FnOk P w K mg base (L2N.CX P w) 4 f fd ["word"] (spF ⟨K, mg⟩ 1 F_read_name) :=
  fnokM_of (k := 3) (N := ["word"]) (n := 1) D sc_read_name rfl (by decide) rfl fun cdv A outer s H E hr =>
      (js_cons (js_if (jt_not (jt_val (j_callO O_is_name_L0 (hr.mono (by decide)) (by rfl) (L2N.takes_of rfl rfl rfl rfl) (ja_cons (j_var 0 (pv 0)) ja_nil)))) (js_one (js_raise1 O_X_BadText (hr.mono (by decide)) rfl (by rfl) (L2N.takes_of rfl rfl rfl rfl) j_int)) js_nil)
      (js_one (js_ret (j_var 0 (pv 0)))))
theorem ok_read_name_L0 (B : Blt K mg) {f : Addr} {fd : FuncData} (D : Dm K "read_name" "read_name" s_read_name [] [] f fd) (O_is_name_L0 : Ok1 P w K mg base 1 "is_name" 1 [] F_is_name) (O_X_BadText : OkX P w K mg base 2 "BadText") (hm : mg "read_name" = some (.ref f)) : Ok1 P w K mg base 4 "read_name" 1 [] F_read_name := ok_of ⟨D.F, hm⟩ (fn_read_name B D O_is_name_L0 O_X_BadText) (fun _ _ _ _ _ _ us hl => match us, hl with | [_], _ => rfl)
theorem sc_read_plain : FnScope ["word", "sign"] ["word"] (defScope s_read_plain) := ⟨rfl, rfl, rfl, by decide +kernel, rfl, by decide +kernel, by decide +kernel⟩
theorem fn_read_plain (B : Blt K mg) {f : Addr} {fd : FuncData} (D : Dm K "read_plain" "read_plain" s_read_plain [] [] f fd) (O_X_BadText : OkX P w K mg base 2 "BadText") : FnOk P w K mg base (L2N.CX P w) 4 f fd ["word"] (spF ⟨K, mg⟩ 1 F_read_plain) :=
  fnokM_of (k := 3) (N := ["word", "sign"]) (n := 2) D sc_read_plain rfl (by decide) rfl fun cdv A outer s H E hr =>
      (js_cons (js_if (PW.pt (jw_or (jt_not (jt_chain or_le or_le j_int (j_callB cr_len (by rfl) B.n_len (by decide +kernel) (ja_cons (j_var 0 (pv 0)) ja_nil)) (j_globI (by rfl) B.g_FIGURES_MOST))) (jw_or1 (jt_not (jt_val (j_callB (cr_allJ rfl) (by rfl) B.n_all (by decide +kernel) (ja_cons (j_lc rfl sc_read_plain.nd (ji_seq (j_var 0 (pv 0))) (blkOk_by (own := [("sign", 1)]) (by kernel_rfl)) (fun _ _ _ _ _ => (pg_name (i := 1) sc_read_plain.nd rfl (by first | exact Or.inl rfl | exact Or.inr rfl))) (pat_nm 1) (fun _ _ _ _ _ => jts_nil) (fun _ _ _ _ _ => (j_cmp or_inS (j_var 1 (pv 1)) j_str rfl))) ja_nil))))))) (js_one (js_raise1 O_X_BadText (hr.mono (by decide)) rfl (by rfl) (L2N.takes_of rfl rfl rfl rfl) j_int)) js_nil)
      (js_cons (js_if (PW.pt (jw_and (jt_cmp (or_eq hr) (j_ix ir_ix (j_var 0 (pv 0)) j_int (fun _ _ => rfl)) j_str (nomark _)) (jw_and1 (jt_cmp (or_ne hr) (j_var 0 (pv 0)) j_str (nomark _))))) (js_one (js_raise1 O_X_BadText (hr.mono (by decide)) rfl (by rfl) (L2N.takes_of rfl rfl rfl rfl) j_int)) js_nil)
      (js_one (js_ret (j_callTy cr_intS (by rfl) B.n_int (by decide +kernel) (ja_cons (j_var 0 (pv 0)) ja_nil))))))
theorem ok_read_plain_L0 (B : Blt K mg) {f : Addr} {fd : FuncData} (D : Dm K "read_plain" "read_plain" s_read_plain [] [] f fd) (O_X_BadText : OkX P w K mg base 2 "BadText") (hm : mg "read_plain" = some (.ref f)) : Ok1 P w K mg base 4 "read_plain" 1 [] F_read_plain := ok_of ⟨D.F, hm⟩ (fn_read_plain B D O_X_BadText) (fun _ _ _ _ _ _ us hl => match us, hl with | [_], _ => rfl)
theorem sc_read_number : FnScope ["word", "found"] ["word"] (defScope s_read_number) := ⟨rfl, rfl, rfl, by decide +kernel, rfl, by decide +kernel, by decide +kernel⟩
theorem fn_read_number (B : Blt K mg) {f : Addr} {fd : FuncData} (D : Dm K "read_number" "read_number" s_read_number [] [] f fd) (O_read_plain_L0 : Ok1 P w K mg base 4 "read_plain" 1 [] F_read_plain) (O_X_BadText : OkX P w K mg base 2 "BadText") : FnOk P w K mg base (L2N.CX P w) 5 f fd ["word"] (spF ⟨K, mg⟩ 1 F_read_number) :=
  fnokM_of (k := 4) (N := ["word", "found"]) (n := 2) D sc_read_number rfl (by decide) rfl fun cdv A outer s H E hr =>
      (js_cons (js_if (jt_cmp (or_eq hr) (j_sl (j_var 0 (pv 0)) jo_none (jo_some j_int)) j_str (nomark _)) (js_cons (js_set (i := 1) sc_read_number.nd rfl (by first | exact Or.inl rfl | exact Or.inr rfl) (j_callO O_read_plain_L0 (hr.mono (by decide)) (by rfl) (L2N.takes_of rfl rfl rfl rfl) (ja_cons (j_sl (j_var 0 (pv 0)) (jo_some j_int) jo_none) ja_nil)))
      (js_cons (js_if (jt_cmp (or_eq hr) (j_var 1 (pv 1)) j_int (nomark _)) (js_one (js_raise1 O_X_BadText (hr.mono (by decide)) rfl (by rfl) (L2N.takes_of rfl rfl rfl rfl) j_int)) js_nil)
      (js_one (js_ret (j_un ur_neg (j_var 1 (pv 1))))))) js_nil)
      (js_one (js_ret (j_callO O_read_plain_L0 (hr.mono (by decide)) (by rfl) (L2N.takes_of rfl rfl rfl rfl) (ja_cons (j_var 0 (pv 0)) ja_nil)))))
theorem ok_read_number_L0 (B : Blt K mg) {f : Addr} {fd : FuncData} (D : Dm K "read_number" "read_number" s_read_number [] [] f fd) (O_read_plain_L0 : Ok1 P w K mg base 4 "read_plain" 1 [] F_read_plain) (O_X_BadText : OkX P w K mg base 2 "BadText") (hm : mg "read_number" = some (.ref f)) : Ok1 P w K mg base 5 "read_number" 1 [] F_read_number := ok_of ⟨D.F, hm⟩ (fn_read_number B D O_read_plain_L0 O_X_BadText) (fun _ _ _ _ _ _ us hl => match us, hl with | [_], _ => rfl)
theorem sc_read_row : FnScope ["word", "part"] ["word"] (defScope s_read_row) := ⟨rfl, rfl, rfl, by decide +kernel, rfl, by decide +kernel, by decide +kernel⟩
theorem fn_read_row (B : Blt K mg) {f : Addr} {fd : FuncData} (D : Dm K "read_row" "read_row" s_read_row [] [] f fd) (O_read_number_L0 : Ok1 P w K mg base 5 "read_number" 1 [] F_read_number) : FnOk P w K mg base (L2N.CX P w) 6 f fd ["word"] (spF ⟨K, mg⟩ 1 F_read_row) :=
  fnokM_of (k := 5) (N := ["word", "part"]) (n := 2) D sc_read_row rfl (by decide) rfl fun cdv A outer s H E hr =>
      (js_cons (js_if (jt_cmp (or_eq hr) (j_var 0 (pv 0)) j_str (nomark _)) (js_one (js_ret (j_tup ja_nil))) js_nil)
      (js_one (js_ret (j_callTy cr_tupleJ (by rfl) B.n_tuple (by decide +kernel) (ja_cons (j_lcX (L2N.takes_of rfl rfl rfl rfl) rfl sc_read_row.nd (ji_seq (j_split (j_var 0 (pv 0)) j_str)) (blkOk_by (own := [("part", 1)]) (by kernel_rfl)) (fun _ _ _ _ _ => (pg_name (i := 1) sc_read_row.nd rfl (by first | exact Or.inl rfl | exact Or.inr rfl))) (pat_nm 1) (fun _ _ _ _ _ _ => (j_callO O_read_number_L0 (hr.mono (by decide)) (by rfl) takes_blk (ja_cons (j_var 1 (pv 1)) ja_nil)))) ja_nil)))))
theorem ok_read_row_L0 (B : Blt K mg) {f : Addr} {fd : FuncData} (D : Dm K "read_row" "read_row" s_read_row [] [] f fd) (O_read_number_L0 : Ok1 P w K mg base 5 "read_number" 1 [] F_read_number) (hm : mg "read_row" = some (.ref f)) : Ok1 P w K mg base 6 "read_row" 1 [] F_read_row := ok_of ⟨D.F, hm⟩ (fn_read_row B D O_read_number_L0) (fun _ _ _ _ _ _ us hl => match us, hl with | [_], _ => rfl)
theorem sc_read_words : FnScope ["words", "names", "word", "things", "thing", "part"] ["words"] (defScope s_read_words) := ⟨rfl, rfl, rfl, by decide +kernel, rfl, by decide +kernel, by decide +kernel⟩
theorem fn_read_words (B : Blt K mg) {f : Addr} {fd : FuncData} (D : Dm K "read_words" "read_words" s_read_words [] [] f fd) (O_read_name_L0 : Ok1 P w K mg base 4 "read_name" 1 [] F_read_name) (O_read_plain_L0 : Ok1 P w K mg base 4 "read_plain" 1 [] F_read_plain) (O_read_row_L0 : Ok1 P w K mg base 6 "read_row" 1 [] F_read_row) (O_X_BadText : OkX P w K mg base 2 "BadText") : FnOk P w K mg base (L2N.CX P w) 7 f fd ["words"] (spF ⟨K, mg⟩ 1 F_read_words) :=
  fnokM_of (k := 6) (N := ["words", "names", "word", "things", "thing", "part"]) (n := 6) D sc_read_words rfl (by decide) rfl fun cdv A outer s H E hr =>
      (js_cons (js_starL rfl (j_var 0 (pv 0)) (pg_name (i := 2) sc_read_words.nd rfl (by first | exact Or.inl rfl | exact Or.inr rfl)) (pg_name (i := 3) sc_read_words.nd rfl (by first | exact Or.inl rfl | exact Or.inr rfl)))
      (js_cons (js_if (PW.pt (jw_and (jt_cmp (or_in hr) (j_var 2 (pv 2)) (j_tup (ja_cons j_str (ja_cons j_str (ja_cons j_str ja_nil)))) rfl) (jw_and1 (jt_cmp (or_eq hr) (j_callB cr_len (by rfl) B.n_len (by decide +kernel) (ja_cons (j_var 3 (pv 3)) ja_nil)) j_int (nomark _))))) (js_one (js_ret (j_tup (ja_cons (j_var 2 (pv 2)) (ja_cons (j_callO O_read_name_L0 (hr.mono (by decide)) (by rfl) (L2N.takes_of rfl rfl rfl rfl) (ja_cons (j_ix ir_ix (j_var 3 (pv 3)) j_int (fun _ _ => rfl)) ja_nil)) ja_nil))))) js_nil)
      (js_cons (js_if (PW.pt (jw_and (jt_cmp (or_in hr) (j_var 2 (pv 2)) (j_tup (ja_cons j_str (ja_cons j_str (ja_cons j_str (ja_cons j_str ja_nil))))) rfl) (jw_and1 (jt_cmp (or_eq hr) (j_callB cr_len (by rfl) B.n_len (by decide +kernel) (ja_cons (j_var 3 (pv 3)) ja_nil)) j_int (nomark _))))) (js_one (js_ret (j_tup (ja_cons (j_var 2 (pv 2)) (ja_cons (j_callO O_read_name_L0 (hr.mono (by decide)) (by rfl) (L2N.takes_of rfl rfl rfl rfl) (ja_cons (j_ix ir_ix (j_var 3 (pv 3)) j_int (fun _ _ => rfl)) ja_nil)) (ja_cons (j_callTy cr_tupleJ (by rfl) B.n_tuple (by decide +kernel) (ja_cons (j_lcX (L2N.takes_of rfl rfl rfl rfl) rfl sc_read_words.nd (ji_seq (j_split (j_ix ir_ix (j_var 3 (pv 3)) j_int (fun _ _ => rfl)) j_str)) (blkOk_by (own := [("part", 5)]) (by kernel_rfl)) (fun _ _ _ _ _ => (pg_name (i := 5) sc_read_words.nd rfl (by first | exact Or.inl rfl | exact Or.inr rfl))) (pat_nm 5) (fun _ _ _ _ _ _ => (j_callO O_read_plain_L0 (hr.mono (by decide)) (by rfl) takes_blk (ja_cons (j_var 5 (pv 5)) ja_nil)))) ja_nil)) ja_nil)))))) js_nil)
      (js_cons (js_if (PW.pt (jw_or (jt_cmp (or_ne hr) (j_var 2 (pv 2)) j_str (nomark _)) (jw_or1 (jt_cmp (or_ne hr) (j_callB cr_len (by rfl) B.n_len (by decide +kernel) (ja_cons (j_var 3 (pv 3)) ja_nil)) j_int (nomark _))))) (js_one (js_raise1 O_X_BadText (hr.mono (by decide)) rfl (by rfl) (L2N.takes_of rfl rfl rfl rfl) j_int)) js_nil)
      (js_cons (js_setLcX (i := 1) (L2N.takes_of rfl rfl rfl rfl) rfl sc_read_words.nd rfl rfl (sw_true rfl rfl rfl (by decide +kernel)) (ji_seq (j_sl (j_var 3 (pv 3)) jo_none (jo_some j_int))) (blkOk_by (own := [("thing", 4)]) (by kernel_rfl)) (fun _ _ _ _ _ => (pg_name (i := 4) sc_read_words.nd rfl (by first | exact Or.inl rfl | exact Or.inr rfl))) (pat_nm 4) (fun _ _ _ _ _ _ => (j_callO O_read_name_L0 (hr.mono (by decide)) (by rfl) takes_blk (ja_cons (j_var 4 (pv 4)) ja_nil))))
      (js_one (js_ret (j_tup (ja_cons (j_var 2 (pv 2)) (ja_cons (j_ix ir_ix (j_var 1 (pv 1)) j_int (fun _ _ => rfl)) (ja_cons (j_ix ir_ix (j_var 1 (pv 1)) j_int (fun _ _ => rfl)) (ja_cons (j_ix ir_ix (j_var 1 (pv 1)) j_int (fun _ _ => rfl)) (ja_cons (j_callO O_read_plain_L0 (hr.mono (by decide)) (by rfl) (L2N.takes_of rfl rfl rfl rfl) (ja_cons (j_ix ir_ix (j_var 3 (pv 3)) j_int (fun _ _ => rfl)) ja_nil)) (ja_cons (j_callO O_read_plain_L0 (hr.mono (by decide)) (by rfl) (L2N.takes_of rfl rfl rfl rfl) (ja_cons (j_ix ir_ix (j_var 3 (pv 3)) j_int (fun _ _ => rfl)) ja_nil)) (ja_cons (j_callO O_read_row_L0 (hr.mono (by decide)) (by rfl) (L2N.takes_of rfl rfl rfl rfl) (ja_cons (j_ix ir_ix (j_var 3 (pv 3)) j_int (fun _ _ => rfl)) ja_nil)) ja_nil)))))))))))))))
theorem ok_read_words_L0 (B : Blt K mg) {f : Addr} {fd : FuncData} (D : Dm K "read_words" "read_words" s_read_words [] [] f fd) (O_read_name_L0 : Ok1 P w K mg base 4 "read_name" 1 [] F_read_name) (O_read_plain_L0 : Ok1 P w K mg base 4 "read_plain" 1 [] F_read_plain) (O_read_row_L0 : Ok1 P w K mg base 6 "read_row" 1 [] F_read_row) (O_X_BadText : OkX P w K mg base 2 "BadText") (hm : mg "read_words" = some (.ref f)) : Ok1 P w K mg base 7 "read_words" 1 [] F_read_words := ok_of ⟨D.F, hm⟩ (fn_read_words B D O_read_name_L0 O_read_plain_L0 O_read_row_L0 O_X_BadText) (fun _ _ _ _ _ _ us hl => match us, hl with | [_], _ => rfl)
theorem sc_deed_of : FnScope ["text", "found", "part"] ["text"] (defScope s_deed_of) := ⟨rfl, rfl, rfl, by decide +kernel, rfl, by decide +kernel, by decide +kernel⟩
theorem fn_deed_of (B : Blt K mg) {f : Addr} {fd : FuncData} (D : Dm K "deed_of" "deed_of" s_deed_of [] [] f fd) (O_read_words_L0 : Ok1 P w K mg base 7 "read_words" 1 [] F_read_words) (O_X_BadText : OkX P w K mg base 2 "BadText") : FnOk P w K mg base (L2N.CX P w) 8 f fd ["text"] (spF ⟨K, mg⟩ 1 F_deed_of) :=
  fnokM_of (k := 7) (N := ["text", "found", "part"]) (n := 3) D sc_deed_of rfl (by decide) rfl fun cdv A outer s H E hr =>
      (js_cons (js_if (jt_cmp (or_eq hr) (j_var 0 (pv 0)) j_str (nomark _)) (js_one (js_ret (j_tup (ja_cons j_str (ja_cons (j_tup ja_nil) ja_nil))))) js_nil)
      (js_cons (js_if (jt_cmp (or_ne hr) (j_sl (j_var 0 (pv 0)) jo_none (jo_some j_int)) j_str (nomark _)) (js_one (js_ret (j_callO O_read_words_L0 (hr.mono (by decide)) (by rfl) (L2N.takes_of rfl rfl rfl rfl) (ja_cons (j_split (j_var 0 (pv 0)) j_str) ja_nil)))) js_nil)
      (js_cons (js_set (i := 1) sc_deed_of.nd rfl (by first | exact Or.inl rfl | exact Or.inr rfl) (j_lstO ja_nil))
      (js_cons (js_for (passes_of rfl) rfl (ji_seq (j_split (j_sl (j_var 0 (pv 0)) (jo_some j_int) jo_none) j_str)) (pg_name (i := 2) sc_deed_of.nd rfl (by first | exact Or.inl rfl | exact Or.inr rfl)) (pat_nm 2) (js_cons (js_if (jt_cmp (or_ne hr) (j_sl (j_var 2 (pv 2)) jo_none (jo_some j_int)) j_str (nomark _)) (js_one (js_raise1 O_X_BadText (hr.mono (by decide)) rfl (by rfl) (L2N.takes_of rfl rfl rfl rfl) j_int)) js_nil)
      (js_one (js_expr (j_app (j_var 1 (pv 1)) (j_callO O_read_words_L0 (hr.mono (by decide)) (by rfl) (L2N.takes_of rfl rfl rfl rfl) (ja_cons (j_split (j_sl (j_var 2 (pv 2)) (jo_some j_int) jo_none) j_str) ja_nil)))))))
      (js_one (js_ret (j_tup (ja_cons j_str (ja_cons (j_callTy cr_tupleJ (by rfl) B.n_tuple (by decide +kernel) (ja_cons (j_frzD (j_var 1 (pv 1))) ja_nil)) ja_nil)))))))))
theorem ok_deed_of_L0 (B : Blt K mg) {f : Addr} {fd : FuncData} (D : Dm K "deed_of" "deed_of" s_deed_of [] [] f fd) (O_read_words_L0 : Ok1 P w K mg base 7 "read_words" 1 [] F_read_words) (O_X_BadText : OkX P w K mg base 2 "BadText") (hm : mg "deed_of" = some (.ref f)) : Ok1 P w K mg base 8 "deed_of" 1 [] F_deed_of := ok_of ⟨D.F, hm⟩ (fn_deed_of B D O_read_words_L0 O_X_BadText) (fun _ _ _ _ _ _ us hl => match us, hl with | [_], _ => rfl)
theorem sc_law_alike : FnScope ["_law_found", "_law_due", "_law_one", "_law_other"] ["_law_found", "_law_due"] (defScope s_law_alike) := ⟨rfl, rfl, rfl, by decide +kernel, rfl, by decide +kernel, by decide +kernel⟩
theorem fn_law_alike (B : Blt K mg) {f : Addr} {fd : FuncData} (D : Dm K "_law_alike" "_law_alike" s_law_alike [] [] f fd) (hm : mg "_law_alike" = some (.ref f)) : ∀ d : Nat, FnOk P w K mg base (L2N.CX P w) (0 + d) f fd ["_law_found", "_law_due"] (spF ⟨K, mg⟩ 2 (F_law_alike d))
  | 0 => fn_no rfl
  | d + 1 => by
    have OkR : Ok1 P w K mg base (0 + d) "_law_alike" 2 [] (F_law_alike d) := ok_of ⟨D.F, hm⟩ (fn_law_alike B D hm d) (fun _ _ _ _ _ _ us hl => match us, hl with | [_, _], _ => rfl)
    exact fnokM_of (k := 0 + d) (N := ["_law_found", "_law_due", "_law_one", "_law_other"]) (n := 4) D sc_law_alike rfl (by decide) rfl fun cdv A outer s H E hr =>
      (js_cons (js_if (PW.pt (jw_or (jt_val (j_callB cr_isi (by rfl) B.n_isinstance (by decide +kernel) (ja_cons (j_var 1 (pv 1)) (ja_cons (j_ty (by rfl) B.n_list (by decide +kernel)) ja_nil)))) (jw_or1 (jt_val (j_callB cr_isi (by rfl) B.n_isinstance (by decide +kernel) (ja_cons (j_var 1 (pv 1)) (ja_cons (j_ty (by rfl) B.n_tuple (by decide +kernel)) ja_nil))))))) (js_cons (js_if (PW.pt (jw_or (jt_cmp (or_ne hr) (j_callB cr_isi (by rfl) B.n_isinstance (by decide +kernel) (ja_cons (j_var 0 (pv 0)) (ja_cons (j_ty (by rfl) B.n_list (by decide +kernel)) ja_nil))) (j_callB cr_isi (by rfl) B.n_isinstance (by decide +kernel) (ja_cons (j_var 1 (pv 1)) (ja_cons (j_ty (by rfl) B.n_list (by decide +kernel)) ja_nil))) (nomark _)) (jw_or1 (jt_cmp (or_ne hr) (j_callB cr_isi (by rfl) B.n_isinstance (by decide +kernel) (ja_cons (j_var 0 (pv 0)) (ja_cons (j_ty (by rfl) B.n_tuple (by decide +kernel)) ja_nil))) (j_callB cr_isi (by rfl) B.n_isinstance (by decide +kernel) (ja_cons (j_var 1 (pv 1)) (ja_cons (j_ty (by rfl) B.n_tuple (by decide +kernel)) ja_nil))) (nomark _))))) (js_one (js_ret j_bl)) js_nil)
      (js_one (js_ret (j_and (j_cmp (or_eq hr) (j_callB cr_len (by rfl) B.n_len (by decide +kernel) (ja_cons (j_var 0 (pv 0)) ja_nil)) (j_callB cr_len (by rfl) B.n_len (by decide +kernel) (ja_cons (j_var 1 (pv 1)) ja_nil)) (nomark _)) (j_one (j_callB (cr_allJ rfl) (by rfl) B.n_all (by decide +kernel) (ja_cons (j_lc rfl sc_law_alike.nd (ji_zip (by rfl) B.n_zip (ja_cons (j_var 0 (pv 0)) (ja_cons (j_var 1 (pv 1)) ja_nil))) (blkOk_by (own := [("_law_one", 2), ("_law_other", 3)]) (by kernel_rfl)) (fun _ _ _ _ _ => (pg_tup rfl (pgs_cons (pg_name (i := 2) sc_law_alike.nd rfl (by first | exact Or.inl rfl | exact Or.inr rfl)) (pgs_cons (pg_name (i := 3) sc_law_alike.nd rfl (by first | exact Or.inl rfl | exact Or.inr rfl)) pgs_nil)))) (pat_tup (pats_cons (pat_nm 2) (pats_cons (pat_nm 3) pats_nil))) (fun _ _ _ _ _ => jts_nil) (fun _ _ _ _ _ => (j_callO OkR hr (by rfl) takesN0 (ja_cons (j_var 2 (pv 2)) (ja_cons (j_var 3 (pv 3)) ja_nil))))) ja_nil))))))) js_nil)
      (js_cons (js_if (PW.pt (jw_or (jt_cmp or_isN (j_var 1 (pv 1)) j_non (nomark _)) (jw_or1 (jt_cmp or_isN (j_var 0 (pv 0)) j_non (nomark _))))) (js_one (js_ret (j_and (j_cmp or_isN (j_var 0 (pv 0)) j_non (nomark _)) (j_one (j_cmp or_isN (j_var 1 (pv 1)) j_non (nomark _)))))) js_nil)
      (js_cons (js_if (PW.pt (jw_or (jt_cmp (or_ne hr) (j_callB cr_isi (by rfl) B.n_isinstance (by decide +kernel) (ja_cons (j_var 0 (pv 0)) (ja_cons (j_ty (by rfl) B.n_bool (by decide +kernel)) ja_nil))) (j_callB cr_isi (by rfl) B.n_isinstance (by decide +kernel) (ja_cons (j_var 1 (pv 1)) (ja_cons (j_ty (by rfl) B.n_bool (by decide +kernel)) ja_nil))) (nomark _)) (jw_or1 (jt_cmp (or_ne hr) (j_callB cr_isi (by rfl) B.n_isinstance (by decide +kernel) (ja_cons (j_var 0 (pv 0)) (ja_cons (j_ty (by rfl) B.n_int (by decide +kernel)) ja_nil))) (j_callB cr_isi (by rfl) B.n_isinstance (by decide +kernel) (ja_cons (j_var 1 (pv 1)) (ja_cons (j_ty (by rfl) B.n_int (by decide +kernel)) ja_nil))) (nomark _))))) (js_one (js_ret j_bl)) js_nil)
      (js_one (js_ret (j_and (j_cmp (or_eq hr) (j_callB cr_isi (by rfl) B.n_isinstance (by decide +kernel) (ja_cons (j_var 0 (pv 0)) (ja_cons (j_ty (by rfl) B.n_str (by decide +kernel)) ja_nil))) (j_callB cr_isi (by rfl) B.n_isinstance (by decide +kernel) (ja_cons (j_var 1 (pv 1)) (ja_cons (j_ty (by rfl) B.n_str (by decide +kernel)) ja_nil))) (nomark _)) (j_one (j_cmp (or_eq hr) (j_var 0 (pv 0)) (j_var 1 (pv 1)) (nomark _)))))))))
theorem ok_law_alike_L0 (B : Blt K mg) {f : Addr} {fd : FuncData} (D : Dm K "_law_alike" "_law_alike" s_law_alike [] [] f fd) (hm : mg "_law_alike" = some (.ref f)) : Ok1 P w K mg base 6 "_law_alike" 2 [] (F_law_alike 6) := ok_of ⟨D.F, hm⟩ (fn_law_alike B D hm 6) (fun _ _ _ _ _ _ us hl => match us, hl with | [_, _], _ => rfl)
theorem sc_law : FnScope ["_law_script", "_law_box_here", "_law_k", "_law_text_here", "_law_turn", "_law_due", "_law_told", "_law_found"] ["_law_script"] (defScope s_law) := ⟨rfl, rfl, rfl, by decide +kernel, rfl, by decide +kernel, by decide +kernel⟩
theorem fn_law (B : Blt K mg) {f : Addr} {fd : FuncData} (D : Dm K "law" "law" s_law [] [] f fd) (O_law_box_L0 : Ok1 P w K mg base 1 "_law_box" 1 [] F_law_box) (O_law_written_deed_L0 : Ok1 P w K mg base 5 "_law_written_deed" 1 [] F_law_written_deed) (O_law_text_L0 : Ok1 P w K mg base 4 "_law_text" 1 [] (F_law_text 3)) (O_law_take_L0 : Ok1 P w K mg base 2 "_law_take" 2 [] F_law_take) (O_law_bent_text_L0 : Ok1 P w K mg base 3 "_law_bent_text" 2 [] F_law_bent_text) (O_law_read_L0 : Ok1 P w K mg base 5 "_law_read" 1 [] F_law_read) (O_deed_of_L0 : Ok1 P w K mg base 8 "deed_of" 1 [] F_deed_of) (O_law_alike_L0 : Ok1 P w K mg base 6 "_law_alike" 2 [] (F_law_alike 6)) (O_R : OkR P w K mg base ["BadText"] 0) {cL PL : Addr} (TB : LamX.TabB base mg cL PL) (hTab : PySem.W.tabIn K lamFn = some (cL, PL)) (hns : PySem.W.nsIn K mainGlobals "law" = some (some (.ref f))) : FnOk P w K mg base (L2N.CX P w) 11 f fd ["_law_script"] (spF ⟨K, mg⟩ 1 F_law) :=
  fn_okL (k := 10) (N := ["_law_script", "_law_box_here", "_law_k", "_law_text_here", "_law_turn", "_law_due", "_law_told", "_law_found"]) (n := 8) D.F hns hTab sc_law rfl (by decide) rfl fun A outer s H E hr =>
      (js_cons (js_set (i := 1) sc_law.nd rfl (by first | exact Or.inl rfl | exact Or.inr rfl) (j_callO O_law_box_L0 (hr.mono (by decide)) (by rfl) (L2N.takes_of rfl rfl rfl rfl) (ja_cons (j_var 0 (pv 0)) ja_nil)))
      (js_cons (js_for (passes_of rfl) rfl (ji_range1 (by rfl) B.n_range j_int) (pg_name (i := 2) sc_law.nd rfl (by first | exact Or.inl rfl | exact Or.inr rfl)) (pat_nm 2) (pss_trim (js_cons (js_set (i := 3) sc_law.nd rfl (by first | exact Or.inl rfl | exact Or.inr rfl) (j_callO O_law_text_L0 (hr.mono (by decide)) (by rfl) (L2N.takes_of rfl rfl rfl rfl) (ja_cons (j_callO O_law_written_deed_L0 (hr.mono (by decide)) (by rfl) (L2N.takes_of rfl rfl rfl rfl) (ja_cons (j_var 1 (pv 1)) ja_nil)) ja_nil)))
      (js_cons (js_for (passes_of rfl) rfl (ji_range1 (by rfl) B.n_range (j_bin or_add j_int (j_callO O_law_take_L0 (hr.mono (by decide)) (by rfl) (L2N.takes_of rfl rfl rfl rfl) (ja_cons (j_var 1 (pv 1)) (ja_cons j_int ja_nil))))) (pg_name (i := 4) sc_law.nd rfl (by first | exact Or.inl rfl | exact Or.inr rfl)) (pat_nm 4) (js_one (js_set (i := 3) sc_law.nd rfl (by first | exact Or.inl rfl | exact Or.inr rfl) (j_callO O_law_bent_text_L0 (hr.mono (by decide)) (by rfl) (L2N.takes_of rfl rfl rfl rfl) (ja_cons (j_var 1 (pv 1)) (ja_cons (j_var 3 (pv 3)) ja_nil))))))
      (js_cons (js_set (i := 5) sc_law.nd rfl (by first | exact Or.inl rfl | exact Or.inr rfl) (j_callO O_law_read_L0 (hr.mono (by decide)) (by rfl) (L2N.takes_of rfl rfl rfl rfl) (ja_cons (j_var 3 (pv 3)) ja_nil)))
      (js_cons (js_set (i := 6) sc_law.nd rfl (by first | exact Or.inl rfl | exact Or.inr rfl) (j_lstO ja_nil))
      (js_cons (js_set (i := 7) sc_law.nd rfl (by first | exact Or.inl rfl | exact Or.inr rfl) (j_ref (k := 8) O_R (by rfl) TB rfl hTab (by rfl) (hr.mono (by decide)) (by decide) (LamX.lamS_by (by kernel_rfl)) rfl (fun _ _ _ _ _ => rfl) (fun A outer s H E f c' hr => (j_app (j_var 6 (pv 6)) (j_callO O_deed_of_L0 (hr.mono (by decide)) (by rfl) (L2N.takes_of rfl rfl rfl rfl) (ja_cons (j_var 3 (pv 3)) ja_nil))))))
      (js_one (js_if (jt_cmp or_isN (j_var 5 (pv 5)) j_non (nomark _)) (js_one (js_if (PW.pt (jw_or (jt_cmp (or_ne hr) (j_var 7 (pv 7)) (j_tup (ja_cons j_str (ja_cons j_int ja_nil))) (nomark _)) (jw_or1 (jt_cmp (or_neL hr) (j_var 6 (pv 6)) (j_lst ja_nil) (nomark _))))) (js_one (js_ret j_bl)) js_nil)) (js_one (js_if (PW.pt (jw_or (jt_cmp (or_ne hr) (j_var 7 (pv 7)) (j_tup (ja_cons j_str (ja_cons (j_un ur_neg j_int) ja_nil))) (nomark _)) (jw_or1 (jt_not (jt_val (j_callO O_law_alike_L0 (hr.mono (by decide)) (by rfl) (L2N.takes_of rfl rfl rfl rfl) (ja_cons (j_frzD (j_var 6 (pv 6))) (ja_cons (j_lst (ja_cons (j_var 5 (pv 5)) ja_nil)) ja_nil)))))))) (js_one (js_ret j_bl)) js_nil)))))))))))
      (js_one (js_ret j_bl))))
end
theorem ex_at {h : Heap} {K : PySem.W.Frag} (Y : SaysL fs fn ex h K) {b : Bool} (i : Nat) (e : (exs K)[i]? = some b) : b = true := by
  have q := List.all_eq_true.mp Y.2.2 b (List.mem_of_getElem? e)
  exact q
theorem all_mk {P : Program} {w : World} {K : PySem.W.Frag} {h : Heap} {mg : Str → Option Value} {fa : Addr} (Y : SaysL fs fn ex h K) (G : h.Ns mainGlobals mg) (hfa : mg "law" = some (.ref fa))
    : ∃ (fd : FuncData) (cc TT : Addr), PySem.W.tabIn K lamFn = some (cc, TT) ∧ K.lookup TT = none ∧ (∀ (s : Shared) (v : Value), BindsTo s fd ⟨[v], []⟩ [("_law_script", v)]) ∧ ∀ base : Heap, K.In base → base.Ns mainGlobals mg → LamX.TabB base mg cc TT → FnOk P w K mg base (L2N.CX P w) 11 fa fd ["_law_script"] (spF ⟨K, mg⟩ 1 F_law) := by
  have e := hfa.symm.trans (Y.glo (x := "law") G 38 rfl)
  cases e
  have B : Blt K mg := ⟨Y.free G 0 rfl, Y.free G 1 rfl, Y.free G 2 rfl, Y.free G 3 rfl, Y.free G 4 rfl, Y.free G 5 rfl, Y.free G 6 rfl, Y.free G 7 rfl, Y.free G 8 rfl, Y.free G 9 rfl, Y.free G 10 rfl, Y.int G 11 rfl, Y.str G 12 rfl, Y.int G 13 rfl⟩
  obtain ⟨fd0, D0⟩ : ∃ fd, Dm K "_law_box" "_law_box" s_law_box [] [] (He.ga K "_law_box") fd := Y.dm (st := s_law_box) (df := []) (kw := []) 0 rfl
  have hm0 := Y.glo (x := "_law_box") G 14 rfl
  obtain ⟨fd1, D1⟩ : ∃ fd, Dm K "_law_mixed" "_law_mixed" s_law_mixed [] [] (He.ga K "_law_mixed") fd := Y.dm (st := s_law_mixed) (df := []) (kw := []) 1 rfl
  have hm1 := Y.glo (x := "_law_mixed") G 15 rfl
  obtain ⟨fd2, D2⟩ : ∃ fd, Dm K "_law_take" "_law_take" s_law_take [] [] (He.ga K "_law_take") fd := Y.dm (st := s_law_take) (df := []) (kw := []) 2 rfl
  have hm2 := Y.glo (x := "_law_take") G 16 rfl
  obtain ⟨fd3, D3⟩ : ∃ fd, Dm K "_law_ten_names" "_law_ten_names" s_law_ten_names [] [] (He.ga K "_law_ten_names") fd := Y.dm (st := s_law_ten_names) (df := []) (kw := []) 3 rfl
  have hm3 := Y.glo (x := "_law_ten_names") G 17 rfl
  obtain ⟨fd4, D4⟩ : ∃ fd, Dm K "_law_great_number" "_law_great_number" s_law_great_number [] [] (He.ga K "_law_great_number") fd := Y.dm (st := s_law_great_number) (df := []) (kw := []) 4 rfl
  have hm4 := Y.glo (x := "_law_great_number") G 18 rfl
  obtain ⟨fd5, D5⟩ : ∃ fd, Dm K "_law_plain_deed" "_law_plain_deed" s_law_plain_deed [] [] (He.ga K "_law_plain_deed") fd := Y.dm (st := s_law_plain_deed) (df := []) (kw := []) 5 rfl
  have hm5 := Y.glo (x := "_law_plain_deed") G 19 rfl
  obtain ⟨fd6, D6⟩ : ∃ fd, Dm K "_law_written_deed" "_law_written_deed" s_law_written_deed [] [] (He.ga K "_law_written_deed") fd := Y.dm (st := s_law_written_deed) (df := []) (kw := []) 6 rfl
  have hm6 := Y.glo (x := "_law_written_deed") G 20 rfl
  obtain ⟨fd7, D7⟩ : ∃ fd, Dm K "_law_row_text" "_law_row_text" s_law_row_text [] [] (He.ga K "_law_row_text") fd := Y.dm (st := s_law_row_text) (df := []) (kw := []) 7 rfl
  have hm7 := Y.glo (x := "_law_row_text") G 21 rfl
  obtain ⟨fd8, D8⟩ : ∃ fd, Dm K "_law_text" "_law_text" s_law_text [] [] (He.ga K "_law_text") fd := Y.dm (st := s_law_text) (df := []) (kw := []) 8 rfl
  have hm8 := Y.glo (x := "_law_text") G 22 rfl
  obtain ⟨fd9, D9⟩ : ∃ fd, Dm K "_law_bent_text" "_law_bent_text" s_law_bent_text [] [] (He.ga K "_law_bent_text") fd := Y.dm (st := s_law_bent_text) (df := []) (kw := []) 9 rfl
  have hm9 := Y.glo (x := "_law_bent_text") G 23 rfl
  obtain ⟨fd10, D10⟩ : ∃ fd, Dm K "_law_is_name" "_law_is_name" s_law_is_name [] [] (He.ga K "_law_is_name") fd := Y.dm (st := s_law_is_name) (df := []) (kw := []) 10 rfl
  have hm10 := Y.glo (x := "_law_is_name") G 24 rfl
  obtain ⟨fd11, D11⟩ : ∃ fd, Dm K "_law_number_in" "_law_number_in" s_law_number_in [] [] (He.ga K "_law_number_in") fd := Y.dm (st := s_law_number_in) (df := []) (kw := []) 11 rfl
  have hm11 := Y.glo (x := "_law_number_in") G 25 rfl
  obtain ⟨fd12, D12⟩ : ∃ fd, Dm K "_law_plain_in" "_law_plain_in" s_law_plain_in [] [] (He.ga K "_law_plain_in") fd := Y.dm (st := s_law_plain_in) (df := []) (kw := []) 12 rfl
  have hm12 := Y.glo (x := "_law_plain_in") G 26 rfl
  obtain ⟨fd13, D13⟩ : ∃ fd, Dm K "_law_parts_in" "_law_parts_in" s_law_parts_in [] [] (He.ga K "_law_parts_in") fd := Y.dm (st := s_law_parts_in) (df := []) (kw := []) 13 rfl
  have hm13 := Y.glo (x := "_law_parts_in") G 27 rfl
  obtain ⟨fd14, D14⟩ : ∃ fd, Dm K "_law_words_read" "_law_words_read" s_law_words_read [] [] (He.ga K "_law_words_read") fd := Y.dm (st := s_law_words_read) (df := []) (kw := []) 14 rfl
  have hm14 := Y.glo (x := "_law_words_read") G 28 rfl
  obtain ⟨fd15, D15⟩ : ∃ fd, Dm K "_law_read" "_law_read" s_law_read [] [] (He.ga K "_law_read") fd := Y.dm (st := s_law_read) (df := []) (kw := []) 15 rfl
  have hm15 := Y.glo (x := "_law_read") G 29 rfl
  obtain ⟨fd16, D16⟩ : ∃ fd, Dm K "is_name" "is_name" s_is_name [] [] (He.ga K "is_name") fd := Y.dm (st := s_is_name) (df := []) (kw := []) 16 rfl
  have hm16 := Y.glo (x := "is_name") G 30 rfl
  obtain ⟨fd17, D17⟩ : ∃ fd, Dm K "read_name" "read_name" s_read_name [] [] (He.ga K "read_name") fd := Y.dm (st := s_read_name) (df := []) (kw := []) 17 rfl
  have hm17 := Y.glo (x := "read_name") G 31 rfl
  obtain ⟨fd18, D18⟩ : ∃ fd, Dm K "read_plain" "read_plain" s_read_plain [] [] (He.ga K "read_plain") fd := Y.dm (st := s_read_plain) (df := []) (kw := []) 18 rfl
  have hm18 := Y.glo (x := "read_plain") G 32 rfl
  obtain ⟨fd19, D19⟩ : ∃ fd, Dm K "read_number" "read_number" s_read_number [] [] (He.ga K "read_number") fd := Y.dm (st := s_read_number) (df := []) (kw := []) 19 rfl
  have hm19 := Y.glo (x := "read_number") G 33 rfl
  obtain ⟨fd20, D20⟩ : ∃ fd, Dm K "read_row" "read_row" s_read_row [] [] (He.ga K "read_row") fd := Y.dm (st := s_read_row) (df := []) (kw := []) 20 rfl
  have hm20 := Y.glo (x := "read_row") G 34 rfl
  obtain ⟨fd21, D21⟩ : ∃ fd, Dm K "read_words" "read_words" s_read_words [] [] (He.ga K "read_words") fd := Y.dm (st := s_read_words) (df := []) (kw := []) 21 rfl
  have hm21 := Y.glo (x := "read_words") G 35 rfl
  obtain ⟨fd22, D22⟩ : ∃ fd, Dm K "deed_of" "deed_of" s_deed_of [] [] (He.ga K "deed_of") fd := Y.dm (st := s_deed_of) (df := []) (kw := []) 22 rfl
  have hm22 := Y.glo (x := "deed_of") G 36 rfl
  obtain ⟨fd23, D23⟩ : ∃ fd, Dm K "_law_alike" "_law_alike" s_law_alike [] [] (He.ga K "_law_alike") fd := Y.dm (st := s_law_alike) (df := []) (kw := []) 23 rfl
  have hm23 := Y.glo (x := "_law_alike") G 37 rfl
  obtain ⟨fd24, D24⟩ : ∃ fd, Dm K "law" "law" s_law [] [] (He.ga K "law") fd := Y.dm (st := s_law) (df := []) (kw := []) 24 rfl
  have hm24 := Y.glo (x := "law") G 38 rfl
  obtain ⟨fdWE, DWE⟩ : ∃ fd, Dm K "__init__" "WebError.__init__" s_WebError_init [V.str "WebError", V.int (-1)] [] (He.ma K (He.ga K "WebError") "__init__") fd := Y.mm (st := s_WebError_init) (df := [.str "WebError", .int (-1)]) (kw := []) 25 rfl
  obtain ⟨fdXBadText, DXBadText⟩ : ∃ fd, Dm K "__init__" "BadText.__init__" s_BadText_init [V.int (-1)] [] (He.ma K (He.ga K "BadText") "__init__") fd := Y.mm (st := s_BadText_init) (df := [.int (-1)]) (kw := []) 26 rfl
  obtain ⟨fdRF, DRF⟩ : ∃ fd, Dm K "_law_refusal" "_law_refusal" s_law_refusal [] [] (He.ga K "_law_refusal") fd := Y.dm (st := s_law_refusal) (df := []) (kw := []) 27 rfl
  have hmRF := Y.glo (x := "_law_refusal") G 39 rfl
  obtain ⟨fdKI, DKI⟩ : ∃ fd, Dm K "_law_kinds" "_law_kinds" s_law_kinds [] [] (He.ga K "_law_kinds") fd := Y.dm (st := s_law_kinds) (df := []) (kw := []) 28 rfl
  have hmKI := Y.glo (x := "_law_kinds") G 40 rfl
  obtain ⟨cL, PL, hTab, tn⟩ := tabB_ok (ex_at Y 0 rfl)
  refine ⟨fd24, cL, PL, hTab, tn, fun s v => FunD.bindsA (ps := ["_law_script"]) D24.F (fun _ _ _ _ _ _ us hl => match us, hl with | [_], _ => rfl) s [v] rfl, fun base _ _ TB => ?_⟩
  have mW := Y.glo (x := "WebError") G 41 rfl
  obtain ⟨we1, we2, we3⟩ := weB_ok (ex_at Y 1 rfl)
  obtain ⟨dsW, vW, bW⟩ := DWE.F.binds1 (ps := ["self", "word", "at"]) 3 2 (by simp) rfl (fun _ _ _ _ _ _ _ us its h1 h2 => match us, h1, its, h2 with | [_, _, _], _, [_, _], _ => ⟨_, rfl, rfl⟩)
  cases vW
  obtain ⟨xc_BadText, rb_BadText, ai_BadText, ti_BadText⟩ := xrB_ok (ex_at Y 2 rfl)
  have mx_BadText := Y.glo (x := "BadText") G 42 rfl
  have O_X_BadText : OkX P w K mg base 2 "BadText" := okX_mk DXBadText (ox_BadText DXBadText mW ⟨we1, we2⟩ we3 DWE.F.kp (we_L DWE) bW) mx_BadText xc_BadText ai_BadText ti_BadText (fun _ _ _ _ _ _ _ us its h1 h2 => match us, h1, its, h2 with | [_], _, [_], _ => ⟨_, rfl, rfl⟩) (fun _ _ _ _ _ _ _ us its h1 h2 => match us, h1, its, h2 with | [_, _], _, [_], _ => ⟨_, rfl, rfl⟩)
  have O_R := okR_L (P := P) (w := w) (base := base) B mW DRF hmRF DKI hmKI (fun x hx => by simp only [List.mem_cons, List.not_mem_nil, or_false] at hx; subst hx <;> first | exact ⟨19, _, refB_ok Y.1 G mx_BadText rb_BadText⟩)
  have O_law_box_L0 := ok_law_box_L0 (P := P) (w := w) (base := base) B D0 hm0
  have O_law_mixed_L0 := ok_law_mixed_L0 (P := P) (w := w) (base := base) B D1 hm1
  have O_law_take_L0 := ok_law_take_L0 (P := P) (w := w) (base := base) B D2 O_law_mixed_L0 hm2
  have O_law_ten_names_L0 := ok_law_ten_names_L0 (P := P) (w := w) (base := base) B D3 O_law_take_L0 hm3
  have O_law_great_number_L0 := ok_law_great_number_L0 (P := P) (w := w) (base := base) B D4 O_law_take_L0 hm4
  have O_law_plain_deed_L0 := ok_law_plain_deed_L0 (P := P) (w := w) (base := base) B D5 O_law_ten_names_L0 O_law_take_L0 O_law_great_number_L0 hm5
  have O_law_written_deed_L0 := ok_law_written_deed_L0 (P := P) (w := w) (base := base) B D6 O_law_take_L0 O_law_plain_deed_L0 hm6
  have O_law_row_text_L0 := ok_law_row_text_L0 (P := P) (w := w) (base := base) B D7 hm7
  have O_law_text_L0 := ok_law_text_L0 (P := P) (w := w) (base := base) B D8 O_law_row_text_L0 hm8
  have O_law_bent_text_L0 := ok_law_bent_text_L0 (P := P) (w := w) (base := base) B D9 O_law_take_L0 hm9
  have O_law_is_name_L0 := ok_law_is_name_L0 (P := P) (w := w) (base := base) B D10 hm10
  have O_law_number_in_L0 := ok_law_number_in_L0 (P := P) (w := w) (base := base) B D11 hm11
  have O_law_plain_in_L0 := ok_law_plain_in_L0 (P := P) (w := w) (base := base) B D12 O_law_number_in_L0 hm12
  have O_law_parts_in_L0 := ok_law_parts_in_L0 (P := P) (w := w) (base := base) B D13 O_law_plain_in_L0 O_law_number_in_L0 hm13
  have O_law_words_read_L0 := ok_law_words_read_L0 (P := P) (w := w) (base := base) B D14 O_law_is_name_L0 O_law_parts_in_L0 O_law_plain_in_L0 hm14
  have O_law_read_L0 := ok_law_read_L0 (P := P) (w := w) (base := base) B D15 O_law_words_read_L0 hm15
  have O_is_name_L0 := ok_is_name_L0 (P := P) (w := w) (base := base) B D16 hm16
  have O_read_name_L0 := ok_read_name_L0 (P := P) (w := w) (base := base) B D17 O_is_name_L0 O_X_BadText hm17
  have O_read_plain_L0 := ok_read_plain_L0 (P := P) (w := w) (base := base) B D18 O_X_BadText hm18
  have O_read_number_L0 := ok_read_number_L0 (P := P) (w := w) (base := base) B D19 O_read_plain_L0 O_X_BadText hm19
  have O_read_row_L0 := ok_read_row_L0 (P := P) (w := w) (base := base) B D20 O_read_number_L0 hm20
  have O_read_words_L0 := ok_read_words_L0 (P := P) (w := w) (base := base) B D21 O_read_name_L0 O_read_plain_L0 O_read_row_L0 O_X_BadText hm21
  have O_deed_of_L0 := ok_deed_of_L0 (P := P) (w := w) (base := base) B D22 O_read_words_L0 O_X_BadText hm22
  have O_law_alike_L0 := ok_law_alike_L0 (P := P) (w := w) (base := base) B D23 hm23
  exact fn_law B D24 O_law_box_L0 O_law_written_deed_L0 O_law_text_L0 O_law_take_L0 O_law_bent_text_L0 O_law_read_L0 O_deed_of_L0 O_law_alike_L0 O_R TB hTab (He.eqO_ok (Y.f (f := .glo "law") 38 rfl))
end L
open PySem PySem.W PySem.Calls PyProof.Rows in
set_option maxRecDepth 100000 in
set_option maxHeartbeats 0 in
theorem PySem.Challenge.cw_cupweb_k64_texts_read_or_refused_holds : PySem.Challenge.rw_cupweb_k64_texts_read_or_refused.Holds := by
  w_on; o_law
  refine HandSHeadRun.head_any (r := OpenLaw.row PySem.Challenge.rw_cupweb_k64_texts_read_or_refused) (q := L.hq) (H := L.hk) (ob := L.hob) (M := 30000) (loose := L.loose) (d := HandSHeadRun.topDef (OpenLaw.row PySem.Challenge.rw_cupweb_k64_texts_read_or_refused).prog 54) (kwd := []) J.obsL_eq
    (by kernel_rfl) (fun s => by kernel_rfl) L.hrun (by kernel_rfl) (by kernel_rfl) (by kernel_rfl) (by rfl) (by first | assumption | decide +kernel) (by decide +kernel) ⟨rfl, rfl, rfl, rfl, rfl, by decide +kernel⟩ ?hw ?hc
  case hw => w_witness2
  case hc => exact J.walk_L (l := PySem.Challenge.rw_cupweb_k64_texts_read_or_refused) (n := 63) (k := 11) (x := "_law_script") (Fm := L.F_law) rfl (by decide) (by kernel_rfl) ⟨rfl, by decide, by decide⟩ (by kernel_rfl) (by kernel_rfl) (fun w mg fa h K Y G hmg => L.all_mk Y G hmg) L.law_true
